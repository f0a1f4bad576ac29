import PyProof.Rows.All
import Wide.All
import OpenK.AllK
import Wide.FinOn
import HandS.ForMost
import HandS.Deep
import HandS.TupAny
import HandS.Zip
import HandS.IsInst
import HandS.Style
import HandS.ForExc
import PySem.Challenge.RW_twoknowers_k02_messages_put_into_queues
set_option Elab.async false
set_option linter.all false
set_option maxRecDepth 100000
set_option maxHeartbeats 4000000
/-! Fu: pure Python data D, a store of tracked objects, functional readings over the hand layer -/
namespace Fu
open PySem PySem.Spec PyProof.Rows L2

/-- how long lists, tuples, texts may be here -/
@[irreducible] def LIM : Nat := 1000000
theorem lim_eq : LIM = 1000000 := by unfold LIM; rfl
theorem lim_line : LIM ≤ sizeLine := by rw [lim_eq]; decide
theorem lim_ok {n : Nat} (h : n ≤ 1000000) : n ≤ LIM := by rw [lim_eq]; exact h
theorem lim_lt {n : Nat} (h : n < 1000000) : n < LIM := by rw [lim_eq]; exact h
inductive D where
  | non | bl (b : Bool) | int (i : Int) | str (x : Str)
  | tup (ds : List D) | lst (ds : List D)
  | obj (n : Nat)
  | ins (C : Addr) (ns : List Str) (ds : List D)
  | dic (ks : List Key) (ds : List D)
  | fn (a : Addr)
  | scr (ns : List Int)
  | ty (n : String)

/-- the tracked objects; those that are hidden (a comprehension's list while it is made) -/
structure Al where
  tr : List Addr
  ex : List Addr
instance : Membership Addr Al := ⟨fun al a => a ∈ al.tr ∨ a ∈ al.ex⟩
theorem notin_al {al : Al} {a : Addr} : a ∉ al ↔ a ∉ al.tr ∧ a ∉ al.ex := not_or
def Al.add (al : Al) (p : Addr) : Al := ⟨al.tr ++ [p], al.ex⟩
/-- a tuple, a list that will not change -/
def TupAt (K : PySem.W.Frag) (al : Al) (H : Hp) (a : Addr) (vs : List V) : Prop :=
  (Rd H a (.tup vs) ∧ a ∉ al) ∨ ∃ (o : Obj) (its : Array Value) (n : Nat), K.lookup a = some o ∧ o.cls = .type "tuple" ∧ o.data = .seq its n ∧ its.size ≤ sizeLine ∧ Vals vs its.toList
def LstAt (al : Al) (H : Hp) (a : Addr) (vs : List V) : Prop := H a = some (.lst vs) ∧ a ∉ al
/-- the script -/
def ScrAt (K : PySem.W.Frag) (al : Al) (H : Hp) (a : Addr) (xs : List V) : Prop :=
  (Rd H a (.lst xs) ∧ a ∉ al) ∨ ∃ (o : Obj) (its : Array Value) (n : Nat), K.lookup a = some o ∧ o.cls = .type "list" ∧ o.dict = none ∧ o.data = .seq its n ∧ its.size ≤ sizeLine ∧ Vals xs its.toList

mutual
def Rep (K : PySem.W.Frag) (al : Al) (H : Hp) : D → V → Prop
  | .non, v => v = .non
  | .bl b, v => v = .bl b
  | .int i, v => v = .int i
  | .str x, v => v = .str x
  | .tup ds, v => ∃ a vs, v = .ref a ∧ TupAt K al H a vs ∧ Reps K al H ds vs
  | .lst ds, v => ∃ a vs, v = .ref a ∧ LstAt al H a vs ∧ Reps K al H ds vs
  | .obj n, v => ∃ a, v = .ref a ∧ al.tr[n]? = some a
  | .ins C ns ds, v => ∃ a dx fs, v = .ref a ∧ H a = some (.ins C dx fs) ∧ a ∉ al ∧ fs.map (·.1) = ns ∧ Reps K al H ds (fs.map (·.2))
  | .dic ks ds, v => ∃ a kvs, v = .ref a ∧ H a = some (.dK kvs) ∧ a ∉ al ∧ kvs.map (·.1) = ks ∧ Reps K al H ds (kvs.map (·.2))
  | .fn a, v => v = .ref a
  | .ty n, v => v = .ty n
  | .scr ns, v => ∃ a, v = .ref a ∧ ScrAt K al H a (ns.map V.int)
def Reps (K : PySem.W.Frag) (al : Al) (H : Hp) : List D → List V → Prop
  | [], vs => vs = []
  | d :: ds, vs => ∃ v r, vs = v :: r ∧ Rep K al H d v ∧ Reps K al H ds r
end

inductive O where
  | lst (ds : List D)
  | ins (C : Addr) (ns : List Str) (ds : List D)
  | dic (ks : List Key) (ds : List D)

def ORep (K : PySem.W.Frag) (al : Al) (H : Hp) (a : Addr) : O → Prop
  | .lst ds => ∃ vs, H a = some (.lst vs) ∧ Reps K al H ds vs
  | .ins C ns ds => ∃ dx fs, H a = some (.ins C dx fs) ∧ fs.map (·.1) = ns ∧ Reps K al H ds (fs.map (·.2))
  | .dic ks ds => ∃ kvs, H a = some (.dK kvs) ∧ kvs.map (·.1) = ks ∧ Reps K al H ds (kvs.map (·.2))

structure Ext (al al' : Al) (H H' : Hp) : Prop where
  pre : ∃ r, al'.tr = al.tr ++ r
  ex : al'.ex = al.ex
  new : ∀ p ∈ al'.tr, p ∉ al.tr → H p = none ∧ p ∉ al.ex
  fr : ∀ b o, H b = some o → b ∉ al → H' b = some o
  hd : ∀ b o, H b = some o → b ∈ al.ex → H' b = some o
/-- what data needs to stay -/
structure Wk (al al' : Al) (H H' : Hp) : Prop where
  pre : ∃ r, al'.tr = al.tr ++ r
  fr : ∀ b o, H b = some o → b ∉ al → H' b = some o ∧ b ∉ al'
structure Abs (K : PySem.W.Frag) (al : Al) (S : List O) (H : Hp) : Prop where
  len : al.tr.length = S.length
  nd : al.tr.Nodup
  hid : ∀ p ∈ al.ex, ∃ o, H p = some o
  dj : ∀ p ∈ al.tr, p ∉ al.ex
  obj : ∀ (n : Nat) (a : Addr) (o : O), al.tr[n]? = some a → S[n]? = some o → ORep K al H a o
structure EnvR (K : PySem.W.Frag) (al : Al) (H : Hp) (env : List (Option D)) (sg : L2.St) : Prop where
  len : env.length = sg.length
  get : ∀ (i : Nat) (d : D), env[i]? = some (some d) → ∃ v, sg[i]? = some (some v) ∧ Rep K al H d v

section
variable {K : PySem.W.Frag} {al al' al2 : Al} {H H' H2 : Hp}
theorem Ext.refl : Ext al al H H := ⟨⟨[], by simp⟩, rfl, fun _ h n => absurd h n, fun _ _ h _ => h, fun _ _ h _ => h⟩
theorem Ext.sub (e : Ext al al' H H') {p : Addr} (h : p ∈ al.tr) : p ∈ al'.tr := by
  obtain ⟨r, h2⟩ := e.pre
  rw [h2]
  exact List.mem_append_left _ h
theorem Ext.notin (e : Ext al al' H H') {p : Addr} {o : HO} (h : H p = some o) (n : p ∉ al) : p ∉ al' := by
  rw [notin_al] at n ⊢
  refine ⟨fun q => ?_, by rw [e.ex]; exact n.2⟩
  have := (e.new p q n.1).1
  rw [h] at this; cases this
theorem Ext.trans (e : Ext al al' H H') (f : Ext al' al2 H' H2) : Ext al al2 H H2 where
  pre := by
    obtain ⟨r, h1⟩ := e.pre
    obtain ⟨r', h2⟩ := f.pre
    exact ⟨r ++ r', by rw [h2, h1]; simp⟩
  ex := f.ex.trans e.ex
  new := fun p hp n => by
    by_cases q : p ∈ al'.tr
    · exact e.new p q n
    · obtain ⟨h2, hx⟩ := f.new p hp q
      rw [e.ex] at hx
      refine ⟨?_, hx⟩
      cases h : H p with
      | none => rfl
      | some o =>
        have h1 := e.fr p o h (notin_al.mpr ⟨n, hx⟩)
        rw [h1] at h2; cases h2
  fr := fun b o h n => f.fr b o (e.fr b o h n) (e.notin h n)
  hd := fun b o h n => f.hd b o (e.hd b o h n) (by rw [e.ex]; exact n)
theorem Ext.wk (e : Ext al al' H H') : Wk al al' H H' := ⟨e.pre, fun b o h n => ⟨e.fr b o h n, e.notin h n⟩⟩
theorem Wk.trans (e : Wk al al' H H') (f : Wk al' al2 H' H2) : Wk al al2 H H2 where
  pre := by
    obtain ⟨r, h1⟩ := e.pre
    obtain ⟨r', h2⟩ := f.pre
    exact ⟨r ++ r', by rw [h2, h1]; simp⟩
  fr := fun b o h n => by
    obtain ⟨h1, n1⟩ := e.fr b o h n
    exact f.fr b o h1 n1
theorem Wk.get (e : Wk al al' H H') {n : Nat} {a : Addr} (h : al.tr[n]? = some a) : al'.tr[n]? = some a := by
  obtain ⟨r, h2⟩ := e.pre
  rw [h2, List.getElem?_append_left (List.getElem?_eq_some_iff.mp h).1]
  exact h
theorem Ext.get (e : Ext al al' H H') {n : Nat} {a : Addr} (h : al.tr[n]? = some a) : al'.tr[n]? = some a := e.wk.get h
theorem Wk.rd (e : Wk al al' H H') {a : Addr} {o : HO} (h : Rd H a o) (n : a ∉ al) : Rd H' a o ∧ a ∉ al' := by
  rcases h with h | ⟨ob, h⟩
  · exact ⟨.inl (e.fr _ _ h n).1, (e.fr _ _ h n).2⟩
  · exact ⟨.inr ⟨ob, (e.fr _ _ h n).1⟩, (e.fr _ _ h n).2⟩
theorem Wk.tup (e : Wk al al' H H') {a : Addr} {vs : List V} (h : TupAt K al H a vs) : TupAt K al' H' a vs := by
  rcases h with ⟨h, n⟩ | h
  · exact .inl (e.rd h n)
  · exact .inr h
mutual
theorem Rep.wk (e : Wk al al' H H') : ∀ {d : D} {v : V}, Rep K al H d v → Rep K al' H' d v
  | .non, _, h => h
  | .bl _, _, h => h
  | .int _, _, h => h
  | .str _, _, h => h
  | .fn _, _, h => h
  | .ty _, _, h => h
  | .tup ds, _, h => by
    obtain ⟨a, vs, rfl, t, r⟩ := h
    exact ⟨a, vs, rfl, e.tup t, Reps.wk e r⟩
  | .lst ds, _, h => by
    obtain ⟨a, vs, rfl, t, r⟩ := h
    exact ⟨a, vs, rfl, e.fr _ _ t.1 t.2, Reps.wk e r⟩
  | .scr ns, _, h => by
    obtain ⟨a, rfl, q⟩ := h
    refine ⟨a, rfl, ?_⟩
    rcases q with ⟨q, n⟩ | q
    · exact .inl (e.rd q n)
    · exact .inr q
  | .obj n, _, h => by
    obtain ⟨a, rfl, q⟩ := h
    exact ⟨a, rfl, e.get q⟩
  | .ins C ns ds, _, h => by
    obtain ⟨a, dx, fs, rfl, q, n, f, r⟩ := h
    exact ⟨a, dx, fs, rfl, (e.fr _ _ q n).1, (e.fr _ _ q n).2, f, Reps.wk e r⟩
  | .dic ks ds, _, h => by
    obtain ⟨a, kvs, rfl, q, n, f, r⟩ := h
    exact ⟨a, kvs, rfl, (e.fr _ _ q n).1, (e.fr _ _ q n).2, f, Reps.wk e r⟩
theorem Reps.wk (e : Wk al al' H H') : ∀ {ds : List D} {vs : List V}, Reps K al H ds vs → Reps K al' H' ds vs
  | [], _, h => h
  | d :: ds, _, h => by
    obtain ⟨v, r, rfl, h1, h2⟩ := h
    exact ⟨v, r, rfl, Rep.wk e h1, Reps.wk e h2⟩
end
theorem Rep.mono (e : Ext al al' H H') {d : D} {v : V} (h : Rep K al H d v) : Rep K al' H' d v := h.wk e.wk
theorem Reps.mono (e : Ext al al' H H') {ds : List D} {vs : List V} (h : Reps K al H ds vs) : Reps K al' H' ds vs := h.wk e.wk
theorem EnvR.wk {env : List (Option D)} {sg : L2.St} (e : Wk al al' H H') (h : EnvR K al H env sg) : EnvR K al' H' env sg :=
  ⟨h.len, fun i d q => let ⟨v, a, b⟩ := h.get i d q; ⟨v, a, b.wk e⟩⟩
theorem EnvR.mono {env : List (Option D)} {sg : L2.St} (e : Ext al al' H H') (h : EnvR K al H env sg) : EnvR K al' H' env sg :=
  ⟨h.len, fun i d q => let ⟨v, a, b⟩ := h.get i d q; ⟨v, a, b.mono e⟩⟩
end
end Fu

namespace Fu
open PySem PySem.Spec PyProof.Rows L2
section
variable {K : PySem.W.Frag} {al : Al} {H : Hp} {a : Addr} {vs : List V} {ns : List Int}
theorem TupAt.sq (h : TupAt K al H a vs) : SqT K H a vs := by
  rcases h with ⟨h, _⟩ | h
  · exact .inl h
  · exact .inr h
theorem LstAt.sq (h : LstAt al H a vs) : SqL K H a vs := .inl (.inl h.1)
theorem ScrAt.sq (h : ScrAt K al H a vs) : SqL K H a vs := by
  rcases h with ⟨h, _⟩ | h
  · exact .inl h
  · exact .inr h
end
end Fu

namespace Fu
open PySem PySem.Spec PyProof.Rows L2

/-- an exception: its class, its value -/
structure Exn where
  cls : Addr
  arg : D
inductive R (β : Type) where
  | ok (b : β) (S : List O)
  | err (x : Exn) (S : List O)
  | fail
def R.bind {β γ : Type} : R β → (β → List O → R γ) → R γ
  | .ok b S, f => f b S
  | .err x S, _ => .err x S
  | .fail, _ => .fail
abbrev Env1 := List (Option D)
abbrev ME := Env1 → List O → R D
abbrev MT := Env1 → List O → R Bool
abbrev MA := Env1 → List O → R (List D)
abbrev WK := Value → Option Addr → Hp → Prop

def XRep (K : PySem.W.Frag) (al : Al) (H : Hp) (x : Exn) (c : Value) (od : Option Addr) : Prop :=
  c = .ref x.cls ∧ ∃ d v, od = some d ∧ H d = some (.xd [("value", v)]) ∧ d ∉ al ∧ Rep K al H x.arg v

/-- the end of a reading whose answers are told by Good -/
def FinG {β ω : Type} (K : PySem.W.Frag) (Good : Al → Hp → β → ω → Prop) (W : WK) (al : Al) (H : Hp) (r : R β) (Q : ω → Hp → Prop) : Prop :=
  match r with
  | .ok b S' => ∀ al' H' v, Ext al al' H H' → Abs K al' S' H' → Good al' H' b v → Q v H'
  | .err x S' => ∀ al' H' c od, Ext al al' H H' → Abs K al' S' H' → XRep K al' H' x c od → W c od H'
  | .fail => False
abbrev FinE (K : PySem.W.Frag) := FinG K (fun al H d v => Rep K al H d v)
abbrev FinA (K : PySem.W.Frag) := FinG K (fun al H ds vs => Reps K al H ds vs)
abbrev FinT (K : PySem.W.Frag) := FinG (β := Bool) (ω := Bool) K (fun _ _ b c => b = c)

section
variable {K : PySem.W.Frag} {β γ ω : Type} {Good : Al → Hp → β → ω → Prop} {W : WK} {al al' : Al} {H H' : Hp} {r : R β} {Q Q' : ω → Hp → Prop}
theorem FinG.mono (e : Ext al al' H H') (h : FinG K Good W al H r Q) : FinG K Good W al' H' r Q := by
  cases r with
  | ok b S => exact fun al2 H2 v e2 a g => h al2 H2 v (e.trans e2) a g
  | err x S => exact fun al2 H2 c od e2 a g => h al2 H2 c od (e.trans e2) a g
  | fail => exact h
theorem FinG.imp (h : FinG K Good W al H r Q) (q : ∀ v H', Q v H' → Q' v H') : FinG K Good W al H r Q' := by
  cases r with
  | ok b S => exact fun al2 H2 v e2 a g => q _ _ (h al2 H2 v e2 a g)
  | err x S => exact h
  | fail => exact h
theorem FinG.bind {ω2 : Type} {Good2 : Al → Hp → γ → ω2 → Prop} {Q : ω2 → Hp → Prop} {f : β → List O → R γ} (h : FinG K Good2 W al H (r.bind f) Q) :
    FinG K Good W al H r (fun v H1 => ∃ al1 S1 d, Ext al al1 H H1 ∧ Abs K al1 S1 H1 ∧ Good al1 H1 d v ∧ FinG K Good2 W al1 H1 (f d S1) Q) := by
  cases r with
  | ok b S => exact fun al2 H2 v e a g => ⟨al2, S, b, e, a, g, FinG.mono e h⟩
  | err x S => exact h
  | fail => exact h
theorem FinG.ok_self {b : β} {v : ω} {S : List O} (h : FinG K Good W al H (.ok b S) Q) (a : Abs K al S H) (g : Good al H b v) : Q v H := h al H v Ext.refl a g
end

/-! ### readings -/
def rdE (K : PySem.W.Frag) (W : WX) (m : ME) : TE := fun σ H Q => ∃ al S env, EnvR K al H env σ ∧ Abs K al S H ∧ FinE K (fun c od => W c od σ) al H (m env S) Q
def rdT (K : PySem.W.Frag) (W : WX) (m : MT) : TT := fun σ H Q => ∃ al S env, EnvR K al H env σ ∧ Abs K al S H ∧ FinT K (fun c od => W c od σ) al H (m env S) Q
def rdA (K : PySem.W.Frag) (W : WX) (m : MA) : TA := fun σ H Q => ∃ al S env, EnvR K al H env σ ∧ Abs K al S H ∧ FinA K (fun c od => W c od σ) al H (m env S) Q
abbrev SE (X : Cx) (W : WX) (e : Expr) (m : ME) : Prop := PE X e (rdE X.K W m)
abbrev ST (X : Cx) (W : WX) (e : Expr) (m : MT) : Prop := PT X e (rdT X.K W m)
abbrev SA (X : Cx) (W : WX) (es : List Expr) (m : MA) : Prop := PA X es (rdA X.K W m)

theorem _root_.L2.PE.le {X : Cx} {e : Expr} {t t' : TE} (h : PE X e t') (l : ∀ σ H Q, t σ H Q → t' σ H Q) : PE X e t := ⟨fun pins s σ H Q I q => h.run pins s σ H Q I (l _ _ _ q)⟩
theorem _root_.L2.PT.le {X : Cx} {e : Expr} {t t' : TT} (h : PT X e t') (l : ∀ σ H Q, t σ H Q → t' σ H Q) : PT X e t := ⟨fun pins s σ H Q I q => h.run pins s σ H Q I (l _ _ _ q)⟩
theorem _root_.L2.PW.le {X : Cx} {e : Expr} {t t' : TT} (h : PW X e t') (l : ∀ σ H Q, t σ H Q → t' σ H Q) : PW X e t := ⟨fun wh pins s σ H Q I q => h.run wh pins s σ H Q I (l _ _ _ q)⟩
theorem _root_.L2.PA.le {X : Cx} {e : List Expr} {t t' : TA} (h : PA X e t') (l : ∀ σ H Q, t σ H Q → t' σ H Q) : PA X e t := ⟨fun pos pins s σ H Q I q => h.run pos pins s σ H Q I (l _ _ _ q)⟩
theorem _root_.L2.PS.le {X : Cx} {e : Stmt} {t t' : TS} (h : PS X e t') (l : ∀ σ H Q, t σ H Q → t' σ H Q) : PS X e t := ⟨fun pins s σ H Q I q => h.run pins s σ H Q I (l _ _ _ q)⟩
theorem _root_.L2.PSs.le {X : Cx} {e : List Stmt} {t t' : TS} (h : PSs X e t') (l : ∀ σ H Q, t σ H Q → t' σ H Q) : PSs X e t := ⟨fun pins s σ H Q I q => h.run pins s σ H Q I (l _ _ _ q)⟩

/-! ### expressions: names, constants -/
def eVar (i : Nat) : ME := fun env S => match env[i]? with
  | some (some d) => .ok d S
  | _ => .fail
def eC (d : D) : ME := fun _ S => .ok d S
section
variable {X : Cx} {W : WX} {pos : Pos}
theorem se_var {i : Nat} {x : Str} (h : PE X (.Name x pos) (tVar i)) : SE X W (.Name x pos) (eVar i) := h.le fun σ H Q q => by
  obtain ⟨al, S, env, er, ab, q⟩ := q
  unfold eVar at q
  cases e : env[i]? with
  | none => rw [e] at q; exact q.elim
  | some o =>
    cases o with
    | none => rw [e] at q; exact q.elim
    | some d =>
      rw [e] at q
      obtain ⟨v, e1, r⟩ := er.get i d e
      exact ⟨v, e1, q.ok_self ab r⟩
theorem sv (i : Nat) {x : Str} {pos : Pos} (hN : X.N[i]? = some x := by rfl) (hv : Vis X.env.scope x := by first | exact Or.inl rfl | exact Or.inr (Or.inl rfl) | exact Or.inr (Or.inr rfl)) (hd : (x == ("__debug__" : Str)) = false := by decide)
    (hcd : (x == ("__classdict__" : Str)) = false := by decide) : SE X W (.Name x pos) (eVar i) := se_var (pe_var hN hv hd hcd)
theorem se_c {e : Expr} {d : D} {v : V} (h : PE X e (tC v)) (r : ∀ al H, Rep X.K al H d v) : SE X W e (eC d) := h.le fun σ H Q q => by
  obtain ⟨al, S, env, er, ab, q⟩ := q
  exact q.ok_self ab (r al H)
theorem se_int {i : Int} {j} : SE X W (.Constant (.int i) j pos) (eC (.int i)) := se_c pe_int fun _ _ => rfl
theorem se_bl {b : Bool} {j} : SE X W (.Constant (.bool b) j pos) (eC (.bl b)) := se_c pe_bl fun _ _ => rfl
theorem se_non {j} : SE X W (.Constant .none j pos) (eC .non) := se_c pe_non fun _ _ => rfl
theorem se_str {x : Str} {j} : SE X W (.Constant (.str x) j pos) (eC (.str x)) := se_c pe_str fun _ _ => rfl
end

/-! ### arguments, displays -/
def aNil : MA := fun _ S => .ok [] S
def aCons (a : ME) (r : MA) : MA := fun env S => (a env S).bind fun d S1 => (r env S1).bind fun ds S2 => .ok (d :: ds) S2
/-- a tuple; a list that will not change -/
def eTup (t : MA) : ME := fun env S => (t env S).bind fun ds S1 => if ds.length ≤ LIM then .ok (.tup ds) S1 else .fail
def eLst (t : MA) : ME := fun env S => (t env S).bind fun ds S1 => if ds.length ≤ LIM then .ok (.lst ds) S1 else .fail
/-- a list that may change -/
def eLstO (t : MA) : ME := fun env S => (t env S).bind fun ds S1 => if ds.length ≤ LIM then .ok (.obj S1.length) (S1 ++ [.lst ds]) else .fail

section
variable {K : PySem.W.Frag} {al : Al} {H : Hp}
theorem Reps.len : ∀ {ds : List D} {vs : List V}, Reps K al H ds vs → vs.length = ds.length
  | [], _, h => by cases (show _ = _ from h); rfl
  | d :: ds, _, h => by
    obtain ⟨v, r, rfl, _, h2⟩ := h
    simp [Reps.len h2]
theorem Abs.some {S : List O} (a : Abs K al S H) {p : Addr} (h : p ∈ al) : ∃ o, H p = some o := by
  rcases h with h | h
  · obtain ⟨n, hn⟩ := List.mem_iff_getElem?.mp h
    have hl : n < S.length := by rw [← a.len]; exact (List.getElem?_eq_some_iff.mp hn).1
    have q := a.obj n p S[n] hn (List.getElem?_eq_getElem hl)
    cases e : S[n] with
    | lst ds => rw [e] at q; obtain ⟨vs, q, _⟩ := q; exact ⟨_, q⟩
    | ins C ns ds => rw [e] at q; obtain ⟨dx, fs, q, _⟩ := q; exact ⟨_, q⟩
    | dic ks ds => rw [e] at q; obtain ⟨kvs, q, _⟩ := q; exact ⟨_, q⟩
  · exact a.hid p h
theorem Abs.notin {S : List O} (a : Abs K al S H) {p : Addr} (h : H p = none) : p ∉ al := fun q => by
  obtain ⟨o, e⟩ := a.some q
  rw [h] at e; cases e
theorem ORep.mono {al' : Al} {H' : Hp} (e : Ext al al' H H') {a : Addr} {o : O} (h : ORep K al H a o) (q : H' a = H a) : ORep K al' H' a o := by
  cases o with
  | lst ds => obtain ⟨vs, h1, h2⟩ := h; exact ⟨vs, q.trans h1, h2.mono e⟩
  | ins C ns ds => obtain ⟨dx, fs, h1, h2, h3⟩ := h; exact ⟨dx, fs, q.trans h1, h2, h3.mono e⟩
  | dic ks ds => obtain ⟨kvs, h1, h2, h3⟩ := h; exact ⟨kvs, q.trans h1, h2, h3.mono e⟩
theorem hid_upd {ex : List Addr} {p : Addr} {o : HO} (h : ∀ q ∈ ex, ∃ o, H q = some o) : ∀ q ∈ ex, ∃ o', upd H p o q = some o' := fun q hq => by
  by_cases e : q = p
  · rw [e, upd_same]; exact ⟨_, rfl⟩
  · rw [upd_ne e]; exact h q hq
/-- a new object that is not tracked by us -/
theorem ext_new {S : List O} (a : Abs K al S H) {p : Addr} {o : HO} (n : H p = none) : Ext al al H (upd H p o) ∧ Abs K al S (upd H p o) := by
  have e : Ext al al H (upd H p o) := ⟨⟨[], by simp⟩, rfl, fun _ h n => absurd h n, fun b u h _ => by rw [upd_ne (ne_of_none h n)]; exact h, fun b u h _ => by rw [upd_ne (ne_of_none h n)]; exact h⟩
  refine ⟨e, a.len, a.nd, hid_upd a.hid, a.dj, fun k b u h1 h2 => (a.obj k b u h1 h2).mono e ?_⟩
  have : b ≠ p := fun z => a.notin n (.inl (z ▸ List.mem_of_getElem? h1))
  rw [upd_ne this]
/-- a new object that we track -/
theorem ext_addE {S : List O} (a : Abs K al S H) {p : Addr} {o : HO} (n : H p = none) : Ext al (al.add p) H (upd H p o) := ⟨⟨[p], rfl⟩, rfl, fun b h nb => by
      rcases List.mem_append.mp h with h | h
      · exact absurd h nb
      · rw [List.mem_singleton.mp h]; exact ⟨n, (notin_al.mp (a.notin n)).2⟩, fun b u h _ => by rw [upd_ne (ne_of_none h n)]; exact h, fun b u h _ => by rw [upd_ne (ne_of_none h n)]; exact h⟩
theorem ext_add {S : List O} (a : Abs K al S H) {p : Addr} {o : HO} {u : O} (n : H p = none) (hu : ORep K (al.add p) (upd H p o) p u) : Ext al (al.add p) H (upd H p o) ∧ Abs K (al.add p) (S ++ [u]) (upd H p o) := by
  have np := a.notin n
  have e : Ext al (al.add p) H (upd H p o) := ext_addE a n
  refine ⟨e, by simp [Al.add, a.len], ?_, hid_upd a.hid, fun q hq => (List.mem_append.mp hq).elim (a.dj q) (fun z => by rw [List.mem_singleton.mp z]; exact (notin_al.mp np).2), fun k b v h1 h2 => ?_⟩
  · show (al.tr ++ [p]).Nodup
    rw [List.nodup_append]
    exact ⟨a.nd, by simp, fun x hx y hy z => np (by rw [List.mem_singleton.mp hy] at z; exact .inl (z ▸ hx))⟩
  · replace h1 : (al.tr ++ [p])[k]? = _ := h1
    by_cases hk : k < al.tr.length
    · rw [List.getElem?_append_left hk] at h1
      rw [List.getElem?_append_left (by rw [← a.len]; exact hk)] at h2
      refine (a.obj k b v h1 h2).mono e ?_
      have : b ≠ p := fun z => np (.inl (z ▸ List.mem_of_getElem? h1))
      rw [upd_ne this]
    · rw [List.getElem?_append_right (by omega)] at h1
      rw [List.getElem?_append_right (by rw [← a.len]; omega)] at h2
      rw [a.len] at h1
      cases q : k - S.length with
      | zero =>
        rw [q] at h1 h2
        simp at h1 h2
        subst h1 h2
        exact hu
      | succ j => rw [q] at h1; simp at h1
theorem add_at {S : List O} (a : Abs K al S H) {p : Addr} : (al.add p).tr[S.length]? = some p := by
  show (al.tr ++ [p])[S.length]? = _
  rw [← a.len]; simp
end
section
variable {X : Cx} {W : WX} {pos : Pos}
theorem sa_nil : SA X W [] aNil := pa_nil.le fun σ H Q q => by
  obtain ⟨al, S, env, er, ab, q⟩ := q
  exact q.ok_self ab rfl
theorem sa_cons {e : Expr} {es : List Expr} {m : ME} {r : MA} (ha : SE X W e m) (hr : SA X W es r) (hs : starEach (e :: es) X.env = (false, eval e X.env) :: starEach es X.env := by rfl) : SA X W (e :: es) (aCons m r) :=
  (pa_cons ha hr hs).le fun σ H Q q => by
    obtain ⟨al, S, env, er, ab, q⟩ := q
    refine ⟨al, S, env, er, ab, (FinG.bind q).imp fun v H1 ⟨al1, S1, d, e1, a1, g1, q1⟩ => ?_⟩
    refine ⟨al1, S1, env, er.mono e1, a1, (FinG.bind q1).imp fun vs H2 ⟨al2, S2, ds, e2, a2, g2, q2⟩ => ?_⟩
    exact q2.ok_self (v := v :: vs) a2 ⟨v, vs, rfl, g1.mono e2, g2⟩
theorem size_ok {n : Nat} (h : n ≤ LIM) : n ≤ sizeLine := Nat.le_trans h lim_line
theorem se_tup {es : List Expr} {t : MA} {x1} (h : SA X W es t) : SE X W (.Tuple es x1 pos) (eTup t) := (pe_tup h).le fun σ H Q q => by
  obtain ⟨al, S, env, er, ab, q⟩ := q
  refine ⟨al, S, env, er, ab, (FinG.bind q).imp fun vs H1 ⟨al1, S1, ds, e1, a1, g1, q1⟩ => ?_⟩
  by_cases hl : ds.length ≤ LIM
  · rw [if_pos hl] at q1
    refine ⟨by rw [g1.len]; exact size_ok hl, fun p n => ?_⟩
    obtain ⟨e2, a2⟩ := ext_new (o := .tup vs) a1 n
    exact q1 al1 _ _ e2 a2 ⟨p, vs, rfl, .inl ⟨.inl upd_same, a1.notin n⟩, g1.mono e2⟩
  · rw [if_neg hl] at q1; exact q1.elim
theorem se_lst {es : List Expr} {t : MA} (h : SA X W es t) : SE X W (.List es pos) (eLst t) := (pe_lst h).le fun σ H Q q => by
  obtain ⟨al, S, env, er, ab, q⟩ := q
  refine ⟨al, S, env, er, ab, (FinG.bind q).imp fun vs H1 ⟨al1, S1, ds, e1, a1, g1, q1⟩ => ?_⟩
  by_cases hl : ds.length ≤ LIM
  · rw [if_pos hl] at q1
    refine ⟨by rw [g1.len]; exact size_ok hl, fun p n => ?_⟩
    obtain ⟨e2, a2⟩ := ext_new (o := .lst vs) a1 n
    exact q1 al1 _ _ e2 a2 ⟨p, vs, rfl, ⟨upd_same, a1.notin n⟩, g1.mono e2⟩
  · rw [if_neg hl] at q1; exact q1.elim
theorem se_lstO {es : List Expr} {t : MA} (h : SA X W es t) : SE X W (.List es pos) (eLstO t) := (pe_lst h).le fun σ H Q q => by
  obtain ⟨al, S, env, er, ab, q⟩ := q
  refine ⟨al, S, env, er, ab, (FinG.bind q).imp fun vs H1 ⟨al1, S1, ds, e1, a1, g1, q1⟩ => ?_⟩
  by_cases hl : ds.length ≤ LIM
  · rw [if_pos hl] at q1
    refine ⟨by rw [g1.len]; exact size_ok hl, fun p n => ?_⟩
    obtain ⟨e2, a2⟩ := ext_add (o := .lst vs) (u := .lst ds) a1 n ⟨vs, upd_same, g1.mono (ext_addE a1 n)⟩
    exact q1 _ _ _ e2 a2 ⟨p, rfl, add_at a1⟩
  · rw [if_neg hl] at q1; exact q1.elim
end
end Fu

namespace Fu
open PySem PySem.Spec PyProof.Rows L2

/-! ### what D-values are as sequences -/
def lstOf (S : List O) : D → Option (List D)
  | .lst ds => some ds
  | .obj n => match S[n]? with
    | some (.lst ds) => some ds
    | _ => none
  | .scr ns => some (ns.map D.int)
  | _ => none
def seqOf (S : List O) : D → Option (List D)
  | .tup ds => some ds
  | d => lstOf S d
section
variable {K : PySem.W.Frag} {al : Al} {H : Hp} {S : List O}
theorem Reps.get : ∀ {ds : List D} {vs : List V} {i : Nat} {d : D}, Reps K al H ds vs → ds[i]? = some d → ∃ v, vs[i]? = some v ∧ Rep K al H d v
  | [], _, _, _, _, h => by simp at h
  | d :: ds, _, 0, _, h, e => by
    obtain ⟨v, r, rfl, h1, _⟩ := h
    simp at e; subst e
    exact ⟨v, rfl, h1⟩
  | d :: ds, _, i + 1, _, h, e => by
    obtain ⟨v, r, rfl, _, h2⟩ := h
    simpa using Reps.get h2 (by simpa using e)
theorem Reps.get' {ds : List D} {vs : List V} {i : Nat} {v : V} (h : Reps K al H ds vs) (e : vs[i]? = some v) : ∃ d, ds[i]? = some d ∧ Rep K al H d v := by
  have hl := h.len
  have hi : i < ds.length := by rw [← hl]; exact (List.getElem?_eq_some_iff.mp e).1
  obtain ⟨v', e', r⟩ := h.get (List.getElem?_eq_getElem hi)
  rw [e] at e'; cases e'
  exact ⟨_, List.getElem?_eq_getElem hi, r⟩
theorem Reps.of : ∀ {ds : List D} {vs : List V}, vs.length = ds.length → (∀ (i : Nat) d v, ds[i]? = some d → vs[i]? = some v → Rep K al H d v) → Reps K al H ds vs
  | [], vs, hl, _ => by cases vs with
    | nil => rfl
    | cons _ _ => cases hl
  | d :: ds, vs, hl, h => by
    cases vs with
    | nil => cases hl
    | cons v r => exact ⟨v, r, rfl, h 0 d v rfl rfl, Reps.of (by simpa using hl) fun i d v a b => h (i + 1) d v (by simpa using a) (by simpa using b)⟩
theorem Reps.append {ds es : List D} {vs us : List V} (h : Reps K al H ds vs) (h' : Reps K al H es us) : Reps K al H (ds ++ es) (vs ++ us) := by
  induction ds generalizing vs with
  | nil => cases (show _ = _ from h); exact h'
  | cons d ds ih =>
    obtain ⟨v, r, rfl, h1, h2⟩ := h
    exact ⟨v, r ++ us, rfl, h1, ih h2⟩
theorem Reps.take {ds : List D} {vs : List V} (n : Nat) (h : Reps K al H ds vs) : Reps K al H (ds.take n) (vs.take n) := by
  induction n generalizing ds vs with
  | zero => simp; rfl
  | succ n ih => cases ds with
    | nil => cases (show _ = _ from h); simp; rfl
    | cons d ds =>
      obtain ⟨v, r, rfl, h1, h2⟩ := h
      exact ⟨v, r.take n, rfl, h1, ih h2⟩
theorem Reps.drop {ds : List D} {vs : List V} (n : Nat) (h : Reps K al H ds vs) : Reps K al H (ds.drop n) (vs.drop n) := by
  induction n generalizing ds vs with
  | zero => exact h
  | succ n ih => cases ds with
    | nil => cases (show _ = _ from h); simp; rfl
    | cons d ds =>
      obtain ⟨v, r, rfl, h1, h2⟩ := h
      exact ih h2
theorem Reps.set {ds : List D} {vs : List V} {d : D} {v : V} (h : Reps K al H ds vs) (hd : Rep K al H d v) (n : Nat) : Reps K al H (ds.set n d) (vs.set n v) := by
  induction n generalizing ds vs with
  | zero => cases ds with
    | nil => cases (show _ = _ from h); exact rfl
    | cons e ds =>
      obtain ⟨w, r, rfl, h1, h2⟩ := h
      exact ⟨v, r, rfl, hd, h2⟩
  | succ n ih => cases ds with
    | nil => cases (show _ = _ from h); exact rfl
    | cons e ds =>
      obtain ⟨w, r, rfl, h1, h2⟩ := h
      exact ⟨w, _, rfl, h1, ih h2⟩
theorem Reps.eraseIdx {ds : List D} {vs : List V} (h : Reps K al H ds vs) (n : Nat) : Reps K al H (ds.eraseIdx n) (vs.eraseIdx n) := by
  induction n generalizing ds vs with
  | zero => cases ds with
    | nil => cases (show _ = _ from h); exact rfl
    | cons e ds =>
      obtain ⟨w, r, rfl, h1, h2⟩ := h
      exact h2
  | succ n ih => cases ds with
    | nil => cases (show _ = _ from h); exact rfl
    | cons e ds =>
      obtain ⟨w, r, rfl, h1, h2⟩ := h
      exact ⟨w, _, rfl, h1, ih h2⟩
theorem Reps.dropLast {ds : List D} {vs : List V} (h : Reps K al H ds vs) : Reps K al H ds.dropLast vs.dropLast := by
  rw [List.dropLast_eq_take, List.dropLast_eq_take, h.len]
  exact h.take _
theorem Reps.reverse {ds : List D} {vs : List V} (h : Reps K al H ds vs) : Reps K al H ds.reverse vs.reverse := by
  induction ds generalizing vs with
  | nil => cases (show _ = _ from h); exact rfl
  | cons d ds ih =>
    obtain ⟨v, r, rfl, h1, h2⟩ := h
    simp only [List.reverse_cons]
    exact (ih h2).append ⟨v, [], rfl, h1, rfl⟩
theorem reps_ints : ∀ ns : List Int, Reps K al H (ns.map D.int) (ns.map V.int)
  | [] => rfl
  | n :: ns => ⟨_, _, rfl, rfl, reps_ints ns⟩
theorem lstOf_sq {d : D} {v : V} {ds : List D} (a : Abs K al S H) (h : lstOf S d = some ds) (r : Rep K al H d v) : ∃ p vs, v = .ref p ∧ SqL K H p vs ∧ Reps K al H ds vs := by
  cases d with
  | lst es =>
    simp [lstOf] at h; subst h
    obtain ⟨p, vs, rfl, t, rs⟩ := r
    exact ⟨p, vs, rfl, t.sq, rs⟩
  | scr ns =>
    simp [lstOf] at h; subst h
    obtain ⟨p, rfl, t⟩ := r
    exact ⟨p, _, rfl, t.sq, reps_ints ns⟩
  | obj n =>
    obtain ⟨p, rfl, e⟩ := r
    simp only [lstOf] at h
    split at h
    · rename_i es q
      cases h
      obtain ⟨vs, h1, h2⟩ := a.obj n p _ e q
      exact ⟨p, vs, rfl, .inl (.inl h1), h2⟩
    · cases h
  | _ => simp [lstOf] at h
theorem seqOf_sq {d : D} {v : V} {ds : List D} (a : Abs K al S H) (h : seqOf S d = some ds) (r : Rep K al H d v) : ∃ p vs, v = .ref p ∧ (SqL K H p vs ∨ SqT K H p vs) ∧ Reps K al H ds vs := by
  by_cases hd : ∃ es, d = .tup es
  · obtain ⟨es, rfl⟩ := hd
    simp [seqOf] at h; subst h
    obtain ⟨p, vs, rfl, t, rs⟩ := r
    exact ⟨p, vs, rfl, .inr t.sq, rs⟩
  · have h' : lstOf S d = some ds := by
      cases d with
      | tup es => exact absurd ⟨es, rfl⟩ hd
      | _ => exact h
    obtain ⟨p, vs, e, q, rs⟩ := lstOf_sq a h' r
    exact ⟨p, vs, e, .inl q, rs⟩
end

/-! ### two-place operations that change nothing -/
abbrev Op2 := D → D → List O → Option D
def rdR2 (K : PySem.W.Frag) (f : Op2) : R2 := fun x y H Q => ∃ al S a b d, Abs K al S H ∧ Rep K al H a x ∧ Rep K al H b y ∧ f a b S = some d ∧ ∀ H' v, Ext al al H H' → Abs K al S H' → Rep K al H' d v → Q v H'
abbrev SO (X : Cx) (fn : Value → Value → Sem Value) (f : Op2) : Prop := OpR X fn (rdR2 X.K f)
theorem _root_.L2.OpR.le {X : Cx} {fn : Value → Value → Sem Value} {r r' : R2} (h : OpR X fn r') (l : ∀ x y H Q, r x y H Q → r' x y H Q) : OpR X fn r :=
  fun pins s σ H x y v u Q I rx ry q => h pins s σ H x y v u Q I rx ry (l _ _ _ _ q)
/-- an answer that is no new object -/
theorem fin_same {K : PySem.W.Frag} {al : Al} {S : List O} {H : Hp} {d : D} {v : V} {Q : VK} (a : Abs K al S H) (h : ∀ H' v, Ext al al H H' → Abs K al S H' → Rep K al H' d v → Q v H') (r : Rep K al H d v) : Q v H := h H v Ext.refl a r
theorem fin_new {K : PySem.W.Frag} {al : Al} {S : List O} {H : Hp} {d : D} {Q : VK} {o : HO} {p : Addr} (a : Abs K al S H) (h : ∀ H' v, Ext al al H H' → Abs K al S H' → Rep K al H' d v → Q v H') (n : H p = none)
    (r : Ext al al H (upd H p o) → p ∉ al → Rep K al (upd H p o) d (.ref p)) : Q (.ref p) (upd H p o) := by
  obtain ⟨e, a2⟩ := ext_new (o := o) a n
  exact h _ _ e a2 (r e (a.notin n))
def liftO (r : Option D) (S : List O) : R D := match r with
  | some d => .ok d S
  | none => .fail
def eOp (f : Op2) (a b : ME) : ME := fun env S => (a env S).bind fun x S1 => (b env S1).bind fun y S2 => liftO (f x y S2) S2
theorem liftO_fin {K : PySem.W.Frag} {W : WK} {al : Al} {S : List O} {H : Hp} {o : Option D} {Q : VK} (h : FinE K W al H (liftO o S) Q) : ∃ d, o = some d ∧ ∀ H' v, Ext al al H H' → Abs K al S H' → Rep K al H' d v → Q v H' := by
  cases o with
  | none => exact h.elim
  | some d => exact ⟨d, rfl, fun H' v e a r => h al H' v e a r⟩
theorem op_le {K : PySem.W.Frag} {W : WX} {f : Op2} {ma mb : ME} {σ : L2.St} {H : Hp} {Q : VK} (q : rdE K W (eOp f ma mb) σ H Q) : tOp (rdR2 K f) (rdE K W ma) (rdE K W mb) σ H Q := by
  obtain ⟨al, S, env, er, ab, q⟩ := q
  refine ⟨al, S, env, er, ab, (FinG.bind q).imp fun x H1 ⟨al1, S1, a, e1, a1, g1, q1⟩ => ?_⟩
  refine ⟨al1, S1, env, er.mono e1, a1, (FinG.bind q1).imp fun y H2 ⟨al2, S2, b, e2, a2, g2, q2⟩ => ?_⟩
  obtain ⟨d, e, h⟩ := liftO_fin q2
  exact ⟨al2, S2, a, b, d, a2, g1.mono e2, g2, e, h⟩
section
variable {X : Cx} {W : WX} {pos : Pos} {a b c : Expr} {ma mb mc : ME}
theorem se_op {op : Operator} {f : Op2} (ho : SO X (binaryOp op) f) (ha : SE X W a ma) (hb : SE X W b mb) : SE X W (.BinOp a op b pos) (eOp f ma mb) := (pe_op ho ha hb).le fun _ _ _ q => op_le q
theorem se_cmp {op : CmpOp} {f : Op2} (ho : SO X (compareOp op) f) (ha : SE X W a ma) (hb : SE X W b mb) (hm : behindInMarks op b = false := by rfl) : SE X W (.Compare a [op] [b] pos) (eOp f ma mb) := (pe_cmpR ho ha hb hm).le fun _ _ _ q => op_le q
/-- a test by a bool -/
def tBl (m : ME) : MT := fun env S => (m env S).bind fun d S1 => match d with
  | .bl b => .ok b S1
  | _ => .fail
theorem tBl_le {K : PySem.W.Frag} {W : WX} {m : ME} {σ : L2.St} {H : Hp} {Q : Bool → Hp → Prop} (q : rdT K W (tBl m) σ H Q) : rdE K W m σ H (fun x H' => ∃ k, x = .bl k ∧ Q k H') := by
  obtain ⟨al, S, env, er, ab, q⟩ := q
  refine ⟨al, S, env, er, ab, (FinG.bind q).imp fun x H1 ⟨al1, S1, d, e1, a1, g1, q1⟩ => ?_⟩
  cases d with
  | bl b => exact ⟨b, g1, q1.ok_self (v := b) a1 rfl⟩
  | _ => exact q1.elim
theorem st_cmp {op : CmpOp} {f : Op2} (ho : SO X (compareOp op) f) (ha : SE X W a ma) (hb : SE X W b mb) (hm : behindInMarks op b = false := by rfl) : ST X W (.Compare a [op] [b] pos) (tBl (eOp f ma mb)) := (pt_cmpR ho ha hb hm).le fun σ H Q q => by
  obtain ⟨al, S, env, er, ab, q⟩ := tBl_le q
  exact op_le ⟨al, S, env, er, ab, q⟩
/-- a op b op' c -/
def eChain (f g : Op2) (a b c : ME) : ME := fun env S => (a env S).bind fun x S1 => (b env S1).bind fun y S2 => match f x y S2 with
  | some (.bl true) => (c env S2).bind fun z S3 => liftO (g y z S3) S3
  | some (.bl false) => .ok (.bl false) S2
  | _ => .fail
theorem chain_le {K : PySem.W.Frag} {W : WX} {f g : Op2} {ma mb mc : ME} {σ : L2.St} {H : Hp} {Q : VK} (q : rdE K W (eChain f g ma mb mc) σ H Q) : tChain (rdR2 K f) (rdR2 K g) (rdE K W ma) (rdE K W mb) (rdE K W mc) σ H Q := by
  obtain ⟨al, S, env, er, ab, q⟩ := q
  refine ⟨al, S, env, er, ab, (FinG.bind q).imp fun x H1 ⟨al1, S1, d1, e1, a1, g1, q1⟩ => ?_⟩
  refine ⟨al1, S1, env, er.mono e1, a1, (FinG.bind q1).imp fun y H2 ⟨al2, S2, d2, e2, a2, g2, q2⟩ => ?_⟩
  cases e : f d1 d2 S2 with
  | none => rw [e] at q2; exact q2.elim
  | some r =>
    rw [e] at q2
    cases r with
    | bl k =>
      refine ⟨al2, S2, d1, d2, _, a2, g1.mono e2, g2, e, fun H3 v e3 a3 r3 => ?_⟩
      cases (show v = _ from r3)
      refine ⟨k, rfl, ?_⟩
      cases k with
      | true =>
        rw [if_pos rfl]
        refine ⟨al2, S2, env, ((er.mono e1).mono e2).mono e3, a3, (FinG.bind (FinG.mono e3 q2)).imp fun z H4 ⟨al4, S4, d3, e4, a4, g4, q4⟩ => ?_⟩
        obtain ⟨d, e5, h5⟩ := liftO_fin q4
        exact ⟨al4, S4, d2, d3, d, a4, (g2.mono e3).mono e4, g4, e5, h5⟩
      | false =>
        rw [if_neg Bool.false_ne_true]
        exact (FinG.mono e3 q2).ok_self a3 rfl
    | _ => exact q2.elim
end
end Fu

namespace Fu
open PySem PySem.Spec PyProof.Rows L2

/-! ### data that may be compared -/
mutual
def py : D → Option PyData
  | .non => some .none
  | .bl b => some (.bool b)
  | .int i => some (.int i)
  | .str x => some (.str x)
  | .tup ds => (pys ds).map .tuple
  | .lst ds => (pys ds).map .list
  | _ => none
def pys : List D → Option (List PyData)
  | [] => some []
  | d :: ds => (py d).bind fun p => (pys ds).map fun ps => p :: ps
end
mutual
def nice : Nat → D → Bool
  | _, .non | _, .bl _ | _, .int _ => true
  | _, .str x => PyData.strOk x
  | k, .tup ds => decide (0 < k) && nices (k - 1) ds
  | k, .lst ds => decide (0 < k) && nices (k - 1) ds
  | _, _ => false
def nices : Nat → List D → Bool
  | _, [] => true
  | k, d :: ds => nice k d && nices k ds
end
mutual
def deq : D → D → Bool
  | .non, .non => true
  | .bl a, .bl b => a == b
  | .bl a, .int j => (if a then 1 else 0) == j
  | .int i, .bl b => i == (if b then 1 else 0)
  | .int i, .int j => i == j
  | .str x, .str y => x == y
  | .tup xs, .tup ys => deqs xs ys
  | .lst xs, .lst ys => deqs xs ys
  | _, _ => false
def deqs : List D → List D → Bool
  | [], [] => true
  | x :: xs, y :: ys => deq x y && deqs xs ys
  | _, _ => false
end
/-- a tracked list, read -/
def rdS (S : List O) : D → D
  | .obj n => match S[n]? with
    | some (.lst ds) => .lst ds
    | _ => .obj n
  | d => d

section
variable {K : PySem.W.Frag} {al : Al} {H : Hp} {S : List O}
mutual
theorem py_dp : ∀ {d : D} {v : V} {p : PyData}, Rep K al H d v → py d = some p → Dp K H v p
  | .non, _, _, r, h => by cases (show _ = _ from r); simp [py] at h; subst h; exact .non
  | .bl b, _, _, r, h => by cases (show _ = _ from r); simp [py] at h; subst h; exact .bl b
  | .int b, _, _, r, h => by cases (show _ = _ from r); simp [py] at h; subst h; exact .int b
  | .str b, _, _, r, h => by cases (show _ = _ from r); simp [py] at h; subst h; exact .str b
  | .tup ds, _, _, r, h => by
    obtain ⟨a, vs, rfl, t, rs⟩ := r
    simp only [py, Option.map_eq_some_iff] at h
    obtain ⟨ps, h, rfl⟩ := h
    exact .tup t.sq (pys_dp rs h)
  | .lst ds, _, _, r, h => by
    obtain ⟨a, vs, rfl, t, rs⟩ := r
    simp only [py, Option.map_eq_some_iff] at h
    obtain ⟨ps, h, rfl⟩ := h
    exact .lst t.sq (pys_dp rs h)
  | .scr _, _, _, _, h => by simp [py] at h
  | .obj _, _, _, _, h => by simp [py] at h
  | .ins _ _ _, _, _, _, h => by simp [py] at h
  | .dic _ _, _, _, _, h => by simp [py] at h
  | .fn _, _, _, _, h => by simp [py] at h
  | .ty _, _, _, _, h => by simp [py] at h
theorem pys_dp : ∀ {ds : List D} {vs : List V} {ps : List PyData}, Reps K al H ds vs → pys ds = some ps → DpAll K H vs ps
  | [], _, _, r, h => by cases (show _ = _ from r); simp [pys] at h; subst h; exact .nil
  | d :: ds, _, _, r, h => by
    obtain ⟨v, vs, rfl, r1, r2⟩ := r
    simp only [pys, Option.bind_eq_some_iff, Option.map_eq_some_iff] at h
    obtain ⟨p, h1, ps, h2, rfl⟩ := h
    exact .cons (py_dp r1 h1) (pys_dp r2 h2)
end
mutual
theorem nice_py : ∀ {k : Nat} {d : D}, nice k d = true → ∃ p, py d = some p ∧ p.canLay0 = true ∧ p.depth ≤ k
  | k, .non, _ => ⟨_, rfl, rfl, by simp [PyData.depth]⟩
  | k, .bl b, _ => ⟨_, rfl, rfl, by simp [PyData.depth]⟩
  | k, .int i, _ => ⟨_, rfl, rfl, by simp [PyData.depth]⟩
  | k, .str x, h => ⟨_, rfl, by simpa [PyData.canLay0, nice] using h, by simp [PyData.depth]⟩
  | k, .tup ds, h => by
    simp only [nice, Bool.and_eq_true, decide_eq_true_eq] at h
    obtain ⟨ps, e, c, z⟩ := nices_py h.2
    refine ⟨.tuple ps, by simp [py, e], by simpa [PyData.canLay0] using c, ?_⟩
    simp only [PyData.depth]; omega
  | k, .lst ds, h => by
    simp only [nice, Bool.and_eq_true, decide_eq_true_eq] at h
    obtain ⟨ps, e, c, z⟩ := nices_py h.2
    refine ⟨.list ps, by simp [py, e], by simpa [PyData.canLay0] using c, ?_⟩
    simp only [PyData.depth]; omega
  | k, .scr _, h => by simp [nice] at h
  | k, .obj _, h => by simp [nice] at h
  | k, .ins _ _ _, h => by simp [nice] at h
  | k, .dic _ _, h => by simp [nice] at h
  | k, .fn _, h => by simp [nice] at h
  | k, .ty _, h => by simp [nice] at h
theorem nices_py : ∀ {k : Nat} {ds : List D}, nices k ds = true → ∃ ps, pys ds = some ps ∧ PyData.canLayAll0 ps = true ∧ PyData.depthAll ps ≤ k
  | k, [], _ => ⟨[], rfl, rfl, by simp [PyData.depthAll]⟩
  | k, d :: ds, h => by
    simp only [nices, Bool.and_eq_true] at h
    obtain ⟨p, e1, c1, z1⟩ := nice_py h.1
    obtain ⟨ps, e2, c2, z2⟩ := nices_py h.2
    refine ⟨p :: ps, by simp [pys, e1, e2], by simp [PyData.canLayAll0, c1, c2], ?_⟩
    simp only [PyData.depthAll]; omega
end
mutual
theorem deq_py : ∀ {a b : D} {p q : PyData}, py a = some p → py b = some q → PyData.eqv p q = deq a b
  | .non, b, p, q, h, h' => by
    simp [py] at h; subst h
    cases b <;> simp [py] at h' <;> (try subst h') <;> (try (obtain ⟨_, _, rfl⟩ := h')) <;> simp [PyData.eqv, deq]
  | .bl _, b, p, q, h, h' => by
    simp [py] at h; subst h
    cases b <;> simp [py] at h' <;> (try subst h') <;> (try (obtain ⟨_, _, rfl⟩ := h')) <;> simp [PyData.eqv, deq]
  | .int _, b, p, q, h, h' => by
    simp [py] at h; subst h
    cases b <;> simp [py] at h' <;> (try subst h') <;> (try (obtain ⟨_, _, rfl⟩ := h')) <;> simp [PyData.eqv, deq]
  | .str _, b, p, q, h, h' => by
    simp [py] at h; subst h
    cases b <;> simp [py] at h' <;> (try subst h') <;> (try (obtain ⟨_, _, rfl⟩ := h')) <;> simp [PyData.eqv, deq]
  | .tup xs, b, p, q, h, h' => by
    simp only [py, Option.map_eq_some_iff] at h
    obtain ⟨ps, h, rfl⟩ := h
    cases b with
    | tup ys =>
      simp only [py, Option.map_eq_some_iff] at h'
      obtain ⟨qs, h', rfl⟩ := h'
      simp only [PyData.eqv, deq]
      exact deqs_py h h'
    | lst ys =>
      simp only [py, Option.map_eq_some_iff] at h'
      obtain ⟨qs, h', rfl⟩ := h'
      simp [PyData.eqv, deq]
    | _ => simp [py] at h' <;> (try subst h') <;> simp [PyData.eqv, deq]
  | .lst xs, b, p, q, h, h' => by
    simp only [py, Option.map_eq_some_iff] at h
    obtain ⟨ps, h, rfl⟩ := h
    cases b with
    | lst ys =>
      simp only [py, Option.map_eq_some_iff] at h'
      obtain ⟨qs, h', rfl⟩ := h'
      simp only [PyData.eqv, deq]
      exact deqs_py h h'
    | tup ys =>
      simp only [py, Option.map_eq_some_iff] at h'
      obtain ⟨qs, h', rfl⟩ := h'
      simp [PyData.eqv, deq]
    | _ => simp [py] at h' <;> (try subst h') <;> simp [PyData.eqv, deq]
  | .obj _, _, _, _, h, _ => by simp [py] at h
  | .ins _ _ _, _, _, _, h, _ => by simp [py] at h
  | .dic _ _, _, _, _, h, _ => by simp [py] at h
  | .fn _, _, _, _, h, _ => by simp [py] at h
  | .ty _, _, _, _, h, _ => by simp [py] at h
  | .scr _, _, _, _, h, _ => by simp [py] at h
theorem deqs_py : ∀ {a b : List D} {p q : List PyData}, pys a = some p → pys b = some q → PyData.eqvAll p q = deqs a b
  | [], b, p, q, h, h' => by
    simp [pys] at h; subst h
    cases b with
    | nil => simp [pys] at h'; subst h'; simp [PyData.eqvAll, deqs]
    | cons y ys =>
      simp only [pys, Option.bind_eq_some_iff, Option.map_eq_some_iff] at h'
      obtain ⟨_, _, _, _, rfl⟩ := h'
      simp [PyData.eqvAll, deqs]
  | x :: xs, b, p, q, h, h' => by
    simp only [pys, Option.bind_eq_some_iff, Option.map_eq_some_iff] at h
    obtain ⟨p1, e1, ps, e2, rfl⟩ := h
    cases b with
    | nil => simp [pys] at h'; subst h'; simp [PyData.eqvAll, deqs]
    | cons y ys =>
      simp only [pys, Option.bind_eq_some_iff, Option.map_eq_some_iff] at h'
      obtain ⟨q1, f1, qs, f2, rfl⟩ := h'
      simp only [PyData.eqvAll, deqs]
      rw [deq_py e1 f1, deqs_py e2 f2]
end
theorem nice_shaped {k : Nat} {d : D} (h : nice k d = true) (hk : k ≤ 64) : ∃ p, py d = some p ∧ SeqAt.shaped p = true := by
  obtain ⟨p, e, c, z⟩ := nice_py h
  exact ⟨p, e, by unfold SeqAt.shaped; rw [c]; simpa using (by omega : p.depth ≤ 64)⟩
theorem rdS_rep {d : D} {v : V} (a : Abs K al S H) (r : Rep K al H d v) {p : PyData} (h : py (rdS S d) = some p) : Dp K H v p := by
  cases d with
  | obj n =>
    simp only [rdS] at h
    split at h
    · rename_i ds q
      obtain ⟨b, rfl, e⟩ := r
      obtain ⟨vs, h1, h2⟩ := a.obj n b _ e q
      simp only [py, Option.map_eq_some_iff] at h
      obtain ⟨ps, h, rfl⟩ := h
      exact .lst (.inl (.inl h1)) (pys_dp h2 h)
    · simp [py] at h
  | _ => exact py_dp r h
end
def vEq : Op2 := fun a b S => if nice 40 (rdS S a) && nice 40 (rdS S b) then some (.bl (deq (rdS S a) (rdS S b))) else none
def vNe : Op2 := fun a b S => if nice 40 (rdS S a) && nice 40 (rdS S b) then some (.bl (!deq (rdS S a) (rdS S b))) else none
section
variable {X : Cx}
theorem so_eq (hu : X.A.units + 64 < cLine) : SO X (compareOp .Eq) vEq := (op_eqD hu).le fun x y H Q q => by
  obtain ⟨al, S, a, b, d, ab, ra, rb, e, h⟩ := q
  unfold vEq at e
  split at e
  · rename_i hn
    simp only [Bool.and_eq_true] at hn
    cases e
    obtain ⟨p, e1, s1⟩ := nice_shaped hn.1 (by decide)
    obtain ⟨q, e2, s2⟩ := nice_shaped hn.2 (by decide)
    refine ⟨p, q, rdS_rep ab ra e1, rdS_rep ab rb e2, s1, s2, ?_⟩
    rw [deq_py e1 e2]
    exact fin_same ab h rfl
  · cases e
theorem so_ne (hu : X.A.units + 64 < cLine) : SO X (compareOp .NotEq) vNe := (op_neD hu).le fun x y H Q q => by
  obtain ⟨al, S, a, b, d, ab, ra, rb, e, h⟩ := q
  unfold vNe at e
  split at e
  · rename_i hn
    simp only [Bool.and_eq_true] at hn
    cases e
    obtain ⟨p, e1, s1⟩ := nice_shaped hn.1 (by decide)
    obtain ⟨q, e2, s2⟩ := nice_shaped hn.2 (by decide)
    refine ⟨p, q, rdS_rep ab ra e1, rdS_rep ab rb e2, s1, s2, ?_⟩
    rw [deq_py e1 e2]
    exact fin_same ab h rfl
  · cases e
end
end Fu

namespace Fu
open PySem PySem.Spec PyProof.Rows L2

def vI (g : Int → Int → Option D) : Op2
  | .int i, .int j, _ => g i j
  | _, _, _ => none
def vSub : Op2 := vI fun i j => some (.int (i - j))
/-- one factor is no great one (a Prop that nobody computes) -/
structure MulOk (i j : Int) : Prop where
  ok : (-(2 ^ 64) < i ∧ i < 2 ^ 64) ∨ (-(2 ^ 64) < j ∧ j < 2 ^ 64)
structure PowOk (i j : Int) : Prop where
  ok : 0 ≤ j ∧ j ≤ 1000000 ∧ i.natAbs < 2 ^ 64
structure DivOk (j : Int) : Prop where
  ok : 0 < j ∧ j < 1073741824
open Classical in
noncomputable def vMul : Op2 := vI fun i j => if MulOk i j then some (.int (i * j)) else none
def vMod : Op2 := vI fun i j => if 0 < j then some (.int (i % j)) else none
open Classical in
noncomputable def vDiv : Op2 := vI fun i j => if DivOk j then some (.int (i / j)) else none
open Classical in
noncomputable def vPow : Op2 := vI fun i j => if PowOk i j then some (.int (i ^ j.toNat)) else none
def vLt : Op2 := vI fun i j => some (.bl (decide (i < j)))
def vLe : Op2 := vI fun i j => some (.bl (decide (i ≤ j)))
def vGt : Op2 := vI fun i j => some (.bl (decide (j < i)))
def vGe : Op2 := vI fun i j => some (.bl (decide (j ≤ i)))
section
variable {X : Cx}
theorem so_I {fn : Value → Value → Sem Value} {C : Int → Int → Prop} {g : Int → Int → V} {f : Int → Int → Option D} (h : OpR X fn (rI C g))
    (hf : ∀ i j d, f i j = some d → C i j ∧ ∀ al H, Rep X.K al H d (g i j)) : SO X fn (vI f) := h.le fun x y H Q q => by
  obtain ⟨al, S, a, b, d, ab, ra, rb, e, q⟩ := q
  cases a with
  | int i =>
    cases b with
    | int j => exact ⟨i, j, ra, rb, (hf i j d e).1, fin_same ab q ((hf i j d e).2 al H)⟩
    | _ => cases e
  | _ => cases e
theorem so_I0 {fn : Value → Value → Sem Value} {g : Int → Int → V} {f : Int → Int → Option D} (h : OpR X fn (rI0 g))
    (hf : ∀ i j d, f i j = some d → ∀ al H, Rep X.K al H d (g i j)) : SO X fn (vI f) := h.le fun x y H Q q => by
  obtain ⟨al, S, a, b, d, ab, ra, rb, e, q⟩ := q
  cases a with
  | int i =>
    cases b with
    | int j => exact ⟨i, j, ra, rb, fin_same ab q (hf i j d e al H)⟩
    | _ => cases e
  | _ => cases e
theorem so_sub : SO X (binaryOp .Sub) vSub := so_I0 op_sub fun i j d e al H => by cases e; rfl
theorem so_mul : SO X (binaryOp .Mult) vMul := so_I op_mul fun i j d e => by
  split at e
  · rename_i h; cases e; exact ⟨h.ok, fun _ _ => rfl⟩
  · cases e
theorem so_mod : SO X (binaryOp .Mod) vMod := so_I op_mod fun i j d e => by
  split at e
  · rename_i h; cases e; exact ⟨h, fun _ _ => rfl⟩
  · cases e
theorem so_div : SO X (binaryOp .FloorDiv) vDiv := so_I op_fdiv fun i j d e => by
  split at e
  · rename_i h; cases e; exact ⟨h.ok, fun _ _ => rfl⟩
  · cases e
theorem so_pow : SO X (binaryOp .Pow) vPow := so_I op_pow fun i j d e => by
  split at e
  · rename_i h; cases e; exact ⟨h.ok, fun _ _ => rfl⟩
  · cases e
theorem so_lt : SO X (compareOp .Lt) vLt := so_I0 op_lt fun i j d e al H => by cases e; rfl
theorem so_le : SO X (compareOp .LtE) vLe := so_I0 L2.op_le fun i j d e al H => by cases e; rfl
theorem so_gt : SO X (compareOp .Gt) vGt := so_I0 op_gt fun i j d e al H => by cases e; rfl
theorem so_ge : SO X (compareOp .GtE) vGe := so_I0 op_ge fun i j d e al H => by cases e; rfl

/-- lists that lie by themselves -/
theorem lst_own {K : PySem.W.Frag} {al : Al} {S : List O} {H : Hp} {d : D} {v : V} {ds : List D} (a : Abs K al S H) (hd : ∀ ns, d ≠ .scr ns) (h : lstOf S d = some ds) (r : Rep K al H d v) : ∃ p vs, v = .ref p ∧ H p = some (.lst vs) ∧ Reps K al H ds vs := by
  cases d with
  | lst es =>
    simp [lstOf] at h; subst h
    obtain ⟨p, vs, rfl, t, rs⟩ := r
    exact ⟨p, vs, rfl, t.1, rs⟩
  | scr ns => exact absurd rfl (hd ns)
  | obj n =>
    obtain ⟨p, rfl, e⟩ := r
    simp only [lstOf] at h
    split at h
    · rename_i es q
      cases h
      obtain ⟨vs, h1, h2⟩ := a.obj n p _ e q
      exact ⟨p, vs, rfl, h1, h2⟩
    · cases h
  | _ => simp [lstOf] at h
/-- + of two lists, a new one -/
def catL (S : List O) (a b : D) : Option (List D) := match a, b with
  | .scr _, _ => none
  | _, .scr _ => none
  | a, b => match lstOf S a, lstOf S b with
    | some xs, some ys => if xs.length + ys.length ≤ LIM then some (xs ++ ys) else none
    | _, _ => none
theorem catL_some {S : List O} {a b : D} {zs : List D} (h : catL S a b = some zs) : (∀ ns, a ≠ .scr ns) ∧ (∀ ns, b ≠ .scr ns) ∧ ∃ xs ys, lstOf S a = some xs ∧ lstOf S b = some ys ∧ xs.length + ys.length ≤ LIM ∧ zs = xs ++ ys := by
  unfold catL at h
  split at h
  · cases h
  · cases h
  · rename_i h1 h2
    refine ⟨fun ns e => h1 ns e, fun ns e => h2 ns e, ?_⟩
    split at h
    · rename_i xs ys e1 e2
      split at h
      · rename_i hl; cases h; exact ⟨xs, ys, e1, e2, hl, rfl⟩
      · cases h
    · cases h
def vAddL : Op2 := fun a b S => (catL S a b).map .lst
theorem so_addL : SO X (binaryOp .Add) vAddL := op_cat.le fun x y H Q q => by
  obtain ⟨al, S, a, b, d, ab, ra, rb, e, q⟩ := q
  unfold vAddL at e
  rw [Option.map_eq_some_iff] at e
  obtain ⟨zs, e, rfl⟩ := e
  obtain ⟨n1, n2, xs, ys, e1, e2, hl, rfl⟩ := catL_some e
  obtain ⟨p, vs, rfl, hp, r1⟩ := lst_own ab n1 e1 ra
  obtain ⟨p', us, rfl, hp', r2⟩ := lst_own ab n2 e2 rb
  refine ⟨p, p', vs, us, rfl, rfl, hp, hp', by rw [r1.len, r2.len]; exact size_ok hl, fun t n => ?_⟩
  exact fin_new ab q n fun e3 n3 => ⟨t, _, rfl, ⟨upd_same, n3⟩, (r1.append r2).mono e3⟩
def vAddI : Op2 := vI fun i j => some (.int (i + j))
theorem so_addI : SO X (binaryOp .Add) vAddI := so_I0 op_add fun i j d e al H => by cases e; rfl
def vAddS : Op2
  | .str x, .str y, _ => if x.length + y.length ≤ LIM then some (.str (x ++ y)) else none
  | _, _, _ => none
theorem so_addS : SO X (binaryOp .Add) vAddS := op_add_str.le fun x y H Q q => by
  obtain ⟨al, S, a, b, d, ab, ra, rb, e, q⟩ := q
  cases a with
  | str i =>
    cases b with
    | str j =>
      simp only [vAddS] at e
      split at e
      · rename_i hl
        cases e
        exact ⟨i, j, ra, rb, size_ok hl, fin_same ab q rfl⟩
      · cases e
    | _ => cases e
  | _ => cases e
def vAddT : Op2
  | .tup xs, .tup ys, _ => if xs.length + ys.length ≤ LIM then some (.tup (xs ++ ys)) else none
  | _, _, _ => none
theorem so_addT : SO X (binaryOp .Add) vAddT := op_catA.le fun x y H Q q => by
  obtain ⟨al, S, a, b, d, ab, ra, rb, e, q⟩ := q
  cases a with
  | tup i =>
    cases b with
    | tup j =>
      simp only [vAddT] at e
      split at e
      · rename_i hl
        cases e
        obtain ⟨p, vs, rfl, t1, r1⟩ := ra
        obtain ⟨p', us, rfl, t2, r2⟩ := rb
        refine ⟨p, p', vs, us, rfl, rfl, t1.sq, t2.sq, by rw [r1.len, r2.len]; exact size_ok hl, fun z => ?_, fun _ z => ?_, fun _ _ t n => ?_⟩
        · have e0 : i = [] := by
            have := r1.len; rw [z] at this
            exact List.length_eq_zero_iff.mp this.symm
          subst e0
          exact fin_same ab q ⟨p', us, rfl, t2, r2⟩
        · have e0 : j = [] := by
            have := r2.len; rw [z] at this
            exact List.length_eq_zero_iff.mp this.symm
          subst e0
          rw [List.append_nil] at q
          exact fin_same ab q ⟨p, vs, rfl, t1, r1⟩
        · exact fin_new ab q n fun e3 n3 => ⟨t, _, rfl, .inl ⟨.inl upd_same, n3⟩, (r1.append r2).mono e3⟩
      · cases e
    | _ => cases e
  | _ => cases e
theorem so_or {fn : Value → Value → Sem Value} {f g : Op2} (h : SO X fn f) (h' : SO X fn g) : SO X fn (fun a b S => (f a b S).or (g a b S)) := (h.or h').le fun x y H Q q => by
  obtain ⟨al, S, a, b, d, ab, ra, rb, e, q⟩ := q
  replace e : (f a b S).or (g a b S) = some d := e
  cases e1 : f a b S with
  | some d' =>
    rw [e1] at e
    cases e
    exact .inl ⟨al, S, a, b, _, ab, ra, rb, e1, q⟩
  | none =>
    rw [e1] at e
    exact .inr ⟨al, S, a, b, _, ab, ra, rb, e, q⟩
theorem so_eqf {fn : Value → Value → Sem Value} {f g : Op2} (h : SO X fn f) (e : ∀ a b S, g a b S = f a b S) : SO X fn g := by
  have : g = f := by funext a b S; exact e a b S
  rw [this]; exact h
def vAdd : Op2 := fun a b S => (vAddI a b S).or ((vAddS a b S).or ((vAddT a b S).or (vAddL a b S)))
theorem so_add : SO X (binaryOp .Add) vAdd := so_or so_addI (so_or so_addS (so_or so_addT so_addL))

/-! ### is, in -/
def vIs : Op2
  | .bl a, .bl b, _ => some (.bl (decide (a = b)))
  | .non, .non, _ => some (.bl true)
  | .bl _, .non, _ | .int _, .non, _ | .str _, .non, _ | .tup _, .non, _ | .lst _, .non, _ | .obj _, .non, _ | .ins _ _ _, .non, _ | .dic _ _, .non, _ | .fn _, .non, _ | .scr _, .non, _ | .ty _, .non, _ => some (.bl false)
  | _, _, _ => none
def vIsN : Op2
  | .bl a, .bl b, _ => some (.bl (!decide (a = b)))
  | .non, .non, _ => some (.bl false)
  | .bl _, .non, _ | .int _, .non, _ | .str _, .non, _ | .tup _, .non, _ | .lst _, .non, _ | .obj _, .non, _ | .ins _ _ _, .non, _ | .dic _ _, .non, _ | .fn _, .non, _ | .scr _, .non, _ | .ty _, .non, _ => some (.bl true)
  | _, _, _ => none
theorem rep_ref {K : PySem.W.Frag} {al : Al} {H : Hp} {d : D} {v : V} (r : Rep K al H d v) : (d = .non ∧ v = .non) ∨ (d ≠ .non ∧ v ≠ .non) := by
  cases d with
  | non => exact .inl ⟨rfl, r⟩
  | bl b => cases (show _ = _ from r); exact .inr ⟨by simp, by simp⟩
  | int b => cases (show _ = _ from r); exact .inr ⟨by simp, by simp⟩
  | str b => cases (show _ = _ from r); exact .inr ⟨by simp, by simp⟩
  | fn b => cases (show _ = _ from r); exact .inr ⟨by simp, by simp⟩
  | ty b => cases (show _ = _ from r); exact .inr ⟨by simp, by simp⟩
  | tup b => obtain ⟨_, _, rfl, _⟩ := r; exact .inr ⟨by simp, by simp⟩
  | lst b => obtain ⟨_, _, rfl, _⟩ := r; exact .inr ⟨by simp, by simp⟩
  | obj b => obtain ⟨_, rfl, _⟩ := r; exact .inr ⟨by simp, by simp⟩
  | scr b => obtain ⟨_, rfl, _⟩ := r; exact .inr ⟨by simp, by simp⟩
  | ins _ _ _ => obtain ⟨_, _, _, rfl, _⟩ := r; exact .inr ⟨by simp, by simp⟩
  | dic _ _ => obtain ⟨_, _, rfl, _⟩ := r; exact .inr ⟨by simp, by simp⟩
theorem so_is : SO X (compareOp .Is) vIs := (op_isN.or op_isBl).le fun x y H Q q => by
  obtain ⟨al, S, a, b, d, ab, ra, rb, e, q⟩ := q
  by_cases hb : b = .non
  · subst hb
    cases (show y = _ from rb)
    refine .inl ⟨rfl, ?_⟩
    rcases rep_ref ra with ⟨rfl, rfl⟩ | ⟨h1, h2⟩
    · cases e
      exact fin_same ab q rfl
    · rw [decide_eq_false h2]
      have : d = .bl false := by cases a <;> first | (exact absurd rfl h1) | (cases e; rfl)
      subst this
      exact fin_same ab q rfl
  · cases a with
    | bl i =>
      cases b with
      | bl j => cases e; exact .inr ⟨i, j, ra, rb, fin_same ab q rfl⟩
      | non => exact absurd rfl hb
      | _ => cases e
    | _ => cases b <;> first | (exact absurd rfl hb) | cases e
theorem so_isN : SO X (compareOp .IsNot) vIsN := (op_notN.or op_notBl).le fun x y H Q q => by
  obtain ⟨al, S, a, b, d, ab, ra, rb, e, q⟩ := q
  by_cases hb : b = .non
  · subst hb
    cases (show y = _ from rb)
    refine .inl ⟨rfl, ?_⟩
    rcases rep_ref ra with ⟨rfl, rfl⟩ | ⟨h1, h2⟩
    · cases e
      exact fin_same ab q rfl
    · rw [decide_eq_false h2]
      have : d = .bl true := by cases a <;> first | (exact absurd rfl h1) | (cases e; rfl)
      subst this
      exact fin_same ab q rfl
  · cases a with
    | bl i =>
      cases b with
      | bl j => cases e; exact .inr ⟨i, j, ra, rb, fin_same ab q rfl⟩
      | non => exact absurd rfl hb
      | _ => cases e
    | _ => cases b <;> first | (exact absurd rfl hb) | cases e
def anyEq (d : D) : List D → Bool
  | [] => false
  | x :: xs => deq x d || anyEq d xs
theorem anyEq_py {d : D} {p : PyData} (h : py d = some p) : ∀ {ds : List D} {ps : List PyData}, pys ds = some ps → (ps.any fun z => PyData.eqv z p) = anyEq d ds
  | [], ps, e => by simp [pys] at e; subst e; rfl
  | x :: xs, ps, e => by
    simp only [pys, Option.bind_eq_some_iff, Option.map_eq_some_iff] at e
    obtain ⟨q, e1, qs, e2, rfl⟩ := e
    simp only [List.any_cons, anyEq]
    rw [deq_py e1 h, anyEq_py h e2]
/-- in, not in: a list, a tuple of data -/
def vIn (neg : Bool) : Op2 := fun a b S => match seqOf S b with
  | some ds => if nice 40 a && nices 40 ds then some (.bl (if neg then !anyEq a ds else anyEq a ds)) else none
  | none => none
theorem op_inT (hu : X.A.units + 65 < cLine) : OpR X (compareOp .In) (fun x y H Q => ∃ d ds, Dp X.K H x d ∧ Dp X.K H y (.tuple ds) ∧ SeqAt.shaped d = true ∧ SeqAt.shaped (.tuple ds) = true ∧ Q (.bl (ds.any fun z => PyData.eqv z d)) H) := by
  intro pins s σ H x y v u Q I rx ry h
  obtain ⟨d, ds, hd, he, sd, se, q⟩ := h
  obtain ⟨as, r1⟩ := Dp.reads I d x v hd rx
  obtain ⟨bs, r2⟩ := Dp.reads I (.tuple ds) y u he ry
  exact SeqAt.in_tuple_reads r2 r1 (SeqAt.canLay_of_shaped se) (SeqAt.canLay_of_shaped sd) (room_in_shaped sd hu) ⟨.bl _, H, I, rfl, q⟩
theorem op_notInT (hu : X.A.units + 65 < cLine) : OpR X (compareOp .NotIn) (fun x y H Q => ∃ d ds, Dp X.K H x d ∧ Dp X.K H y (.tuple ds) ∧ SeqAt.shaped d = true ∧ SeqAt.shaped (.tuple ds) = true ∧ Q (.bl (!ds.any fun z => PyData.eqv z d)) H) := by
  intro pins s σ H x y v u Q I rx ry h
  obtain ⟨d, ds, hd, he, sd, se, q⟩ := h
  obtain ⟨as, r1⟩ := Dp.reads I d x v hd rx
  obtain ⟨bs, r2⟩ := Dp.reads I (.tuple ds) y u he ry
  exact SeqAt.notIn_tuple_reads r2 r1 (SeqAt.canLay_of_shaped se) (SeqAt.canLay_of_shaped sd) (room_in_shaped sd hu) ⟨.bl _, H, I, rfl, q⟩
theorem seq_dp {K : PySem.W.Frag} {al : Al} {S : List O} {H : Hp} {b : D} {y : V} {ds : List D} (ab : Abs K al S H) (rb : Rep K al H b y) (e : seqOf S b = some ds) (hn : nices 40 ds = true) :
    ∃ ps, pys ds = some ps ∧ ((Dp K H y (.list ps) ∧ SeqAt.shaped (.list ps) = true) ∨ (Dp K H y (.tuple ps) ∧ SeqAt.shaped (.tuple ps) = true)) := by
  obtain ⟨ps, e1, c, z⟩ := nices_py hn
  obtain ⟨p, vs, rfl, sq, rs⟩ := seqOf_sq ab e rb
  refine ⟨ps, e1, ?_⟩
  rcases sq with sq | sq
  · refine .inl ⟨.lst sq (pys_dp rs e1), ?_⟩
    have h : (PyData.list ps).depth ≤ 64 := by simp only [PyData.depth]; omega
    unfold SeqAt.shaped
    rw [decide_eq_true h, Bool.and_true]; simpa [PyData.canLay0] using c
  · refine .inr ⟨.tup sq (pys_dp rs e1), ?_⟩
    have h : (PyData.tuple ps).depth ≤ 64 := by simp only [PyData.depth]; omega
    unfold SeqAt.shaped
    rw [decide_eq_true h, Bool.and_true]; simpa [PyData.canLay0] using c
theorem so_in (hu : X.A.units + 65 < cLine) : SO X (compareOp .In) (vIn false) := ((op_inD hu).or (op_inT hu)).le fun x y H Q q => by
  obtain ⟨al, S, a, b, d, ab, ra, rb, e, q⟩ := q
  unfold vIn at e
  split at e
  · rename_i ds e1
    split at e
    · rename_i hn
      simp only [Bool.and_eq_true] at hn
      cases e
      obtain ⟨p, e2, s2⟩ := nice_shaped hn.1 (by decide)
      obtain ⟨ps, e3, h3⟩ := seq_dp ab rb e1 hn.2
      have hq : Q (.bl (ps.any fun z => PyData.eqv z p)) H := by
        rw [anyEq_py e2 e3]
        exact fin_same ab q rfl
      rcases h3 with ⟨h3, s3⟩ | ⟨h3, s3⟩
      · exact .inl ⟨p, ps, py_dp ra e2, h3, s2, s3, hq⟩
      · exact .inr ⟨p, ps, py_dp ra e2, h3, s2, s3, hq⟩
    · cases e
  · cases e
theorem so_notIn (hu : X.A.units + 65 < cLine) : SO X (compareOp .NotIn) (vIn true) := ((op_notInD hu).or (op_notInT hu)).le fun x y H Q q => by
  obtain ⟨al, S, a, b, d, ab, ra, rb, e, q⟩ := q
  unfold vIn at e
  split at e
  · rename_i ds e1
    split at e
    · rename_i hn
      simp only [Bool.and_eq_true] at hn
      cases e
      obtain ⟨p, e2, s2⟩ := nice_shaped hn.1 (by decide)
      obtain ⟨ps, e3, h3⟩ := seq_dp ab rb e1 hn.2
      have hq : Q (.bl (!ps.any fun z => PyData.eqv z p)) H := by
        rw [anyEq_py e2 e3]
        exact fin_same ab q rfl
      rcases h3 with ⟨h3, s3⟩ | ⟨h3, s3⟩
      · exact .inl ⟨p, ps, py_dp ra e2, h3, s2, s3, hq⟩
      · exact .inr ⟨p, ps, py_dp ra e2, h3, s2, s3, hq⟩
    · cases e
  · cases e
end
end Fu

namespace Fu
open PySem PySem.Spec PyProof.Rows L2

/-! ### subscripts -/
def vIx : Op2
  | .str z, .int i, _ => if z.length ≤ LIM then (atI z.cps.toList i).map fun c => .str ⟨#[c]⟩ else none
  | a, .int i, S => (seqOf S a).bind fun ds => atI ds i
  | _, _, _ => none
theorem Reps.atI {K : PySem.W.Frag} {al : Al} {H : Hp} {ds : List D} {vs : List V} {i : Int} {d : D} (h : Reps K al H ds vs) (e : atI ds i = some d) : ∃ v, L2.atI vs i = some v ∧ Rep K al H d v := by
  unfold L2.atI at e ⊢
  rw [h.len]
  cases q : ixN ds.length i with
  | none => rw [q] at e; cases e
  | some j =>
    rw [q] at e
    exact h.get e
section
variable {X : Cx} {W : WX} {pos : Pos} {a b c : Expr} {ma mb mc : ME}
theorem ix_seq2 : IxR X (fun x y H Q => rIxL X.K x y H Q ∨ rIxT X.K x y H Q ∨ rIxS x y H Q) := ix_list.or (ix_tup.or ix_str)
theorem IxR.le {r r' : R2} (h : IxR X r') (l : ∀ x y H Q, r x y H Q → r' x y H Q) : IxR X r :=
  fun value slice pins s σ H x y v u Q I rx ry q hs => h value slice pins s σ H x y v u Q I rx ry (l _ _ _ _ q) hs
theorem ix_ok : IxR X (rdR2 X.K vIx) := IxR.le ix_seq2 fun x y H Q q => by
  obtain ⟨al, S, a, b, d, ab, ra, rb, e, q⟩ := q
  cases b with
  | int i =>
    cases (show y = _ from rb)
    by_cases hs : ∃ z, a = .str z
    · obtain ⟨z, rfl⟩ := hs
      simp only [vIx] at e
      split at e
      · rename_i hl
        rw [Option.map_eq_some_iff] at e
        obtain ⟨c, e, rfl⟩ := e
        exact .inr (.inr ⟨z, i, c, ra, rfl, size_ok hl, e, fin_same ab q rfl⟩)
      · cases e
    · have e' : ((seqOf S a).bind fun ds => L2.atI ds i) = some d := by
        cases a with
        | str z => exact absurd ⟨z, rfl⟩ hs
        | _ => exact e
      rw [Option.bind_eq_some_iff] at e'
      obtain ⟨ds, e1, e2⟩ := e'
      obtain ⟨p, vs, rfl, sq, rs⟩ := seqOf_sq ab e1 ra
      obtain ⟨v, e3, r3⟩ := rs.atI e2
      rcases sq with sq | sq
      · exact .inl ⟨p, vs, i, v, rfl, rfl, sq, e3, fin_same ab q r3⟩
      · exact .inr (.inl ⟨p, vs, i, v, rfl, rfl, sq, e3, fin_same ab q r3⟩)
  | _ => cases a <;> cases e
theorem se_ix (ha : SE X W a ma) (hb : SE X W b mb) (hs : PlainIx b := by exact fun _ _ => rfl) : SE X W (.Subscript a b pos) (eOp vIx ma mb) := (pe_ix ix_ok ha hb hs).le fun _ _ _ q => op_le q
/-- a dict's item by a key -/
def dval : List Key → List D → Key → Option D
  | k :: ks, d :: ds, x => if k = x then some d else dval ks ds x
  | _, _, _ => none
def keyOf : D → Option Key
  | .int i => some (.inl i)
  | .str x => some (.inr x)
  | _ => none
def dicOf (S : List O) : D → Option (List Key × List D)
  | .dic ks ds => some (ks, ds)
  | .obj n => match S[n]? with
    | some (.dic ks ds) => some (ks, ds)
    | _ => none
  | _ => none
theorem dval_rep {K : PySem.W.Frag} {al : Al} {H : Hp} {x : Key} : ∀ {ks : List Key} {ds : List D} {kvs : List (Key × V)}, kvs.map (·.1) = ks → Reps K al H ds (kvs.map (·.2)) →
    (∀ d, dval ks ds x = some d → ∃ v, valV kvs x = some v ∧ Rep K al H d v) ∧ (dval ks ds x = none → valV kvs x = none)
  | [], ds, kvs, e, r => by
    cases kvs with
    | nil => exact ⟨fun d h => by cases ds <;> simp [dval] at h, fun _ => rfl⟩
    | cons _ _ => cases e
  | k :: ks, ds, kvs, e, r => by
    cases kvs with
    | nil => cases e
    | cons p kvs =>
      simp only [List.map_cons, List.cons.injEq] at e r
      obtain ⟨e1, e2⟩ := e
      cases ds with
      | nil => cases (show _ = _ from r)
      | cons d ds =>
        obtain ⟨v, vs, e3, r1, r2⟩ := r
        simp only [List.cons.injEq] at e3
        obtain ⟨e3, rfl⟩ := e3
        obtain ⟨i1, i2⟩ := dval_rep (x := x) e2 r2
        by_cases hk : k = x
        · simp only [dval, hk, if_true]
          exact ⟨fun d' h => by cases h; exact ⟨p.2, valV_pos (e1.trans hk), by rw [e3]; exact r1⟩, fun h => by cases h⟩
        · simp only [dval, hk, if_false]
          have h2 : ¬ p.1 = x := fun z => hk (e1.symm.trans z)
          rw [valV_neg h2]
          exact ⟨i1, i2⟩
theorem dicOf_rep {K : PySem.W.Frag} {al : Al} {S : List O} {H : Hp} {d : D} {v : V} {ks : List Key} {ds : List D} (a : Abs K al S H) (h : dicOf S d = some (ks, ds)) (r : Rep K al H d v) :
    ∃ p kvs, v = .ref p ∧ H p = some (.dK kvs) ∧ kvs.map (·.1) = ks ∧ Reps K al H ds (kvs.map (·.2)) := by
  cases d with
  | dic ks' ds' =>
    simp only [dicOf, Option.some.injEq, Prod.mk.injEq] at h
    obtain ⟨rfl, rfl⟩ := h
    obtain ⟨p, kvs, rfl, h1, _, h2, h3⟩ := r
    exact ⟨p, kvs, rfl, h1, h2, h3⟩
  | obj n =>
    obtain ⟨p, rfl, e⟩ := r
    simp only [dicOf] at h
    split at h
    · rename_i ks' ds' q
      simp only [Option.some.injEq, Prod.mk.injEq] at h
      obtain ⟨rfl, rfl⟩ := h
      obtain ⟨kvs, h1, h2, h3⟩ := a.obj n p _ e q
      exact ⟨p, kvs, rfl, h1, h2, h3⟩
    · cases h
  | _ => simp [dicOf] at h
def vDGet : Op2 := fun a b S => (dicOf S a).bind fun p => (keyOf b).bind fun k => dval p.1 p.2 k
theorem keyOf_rep {K : PySem.W.Frag} {al : Al} {H : Hp} {d : D} {v : V} {k : Key} (h : keyOf d = some k) (r : Rep K al H d v) : v = kV k := by
  cases d with
  | int i => simp [keyOf] at h; subst h; exact r
  | str i => simp [keyOf] at h; subst h; exact r
  | _ => simp [keyOf] at h
theorem se_dget (hu : X.A.units + 1 < cLine) (ha : SE X W a ma) (hb : SE X W b mb) (hs : NoSl b := by exact fun _ _ => rfl) : SE X W (.Subscript a b pos) (eOp vDGet ma mb) := (pe_dget hu ha hb hs).le fun σ H Q q => by
  obtain ⟨al, S, env, er, ab, q⟩ := q
  refine ⟨al, S, env, er, ab, (FinG.bind q).imp fun x H1 ⟨al1, S1, a, e1, a1, g1, q1⟩ => ?_⟩
  refine ⟨al1, S1, env, er.mono e1, a1, (FinG.bind q1).imp fun y H2 ⟨al2, S2, b, e2, a2, g2, q2⟩ => ?_⟩
  obtain ⟨d, e, h⟩ := liftO_fin q2
  simp only [vDGet, Option.bind_eq_some_iff] at e
  obtain ⟨⟨ks, ds⟩, e3, k, e4, e5⟩ := e
  obtain ⟨p, kvs, rfl, h1, h2, h3⟩ := dicOf_rep a2 e3 (g1.mono e2)
  obtain ⟨v, e6, r6⟩ := (dval_rep (x := k) h2 h3).1 d e5
  refine ⟨p, v, rfl, ?_, fin_same a2 h r6⟩
  rw [keyOf_rep e4 g2, ← e6]
  exact DGet.k h1

/-! ### slices -/
def cut {α : Type} (xs : List α) (lo hi : Option Int) : List α := (xs.drop (HT.sIx xs.length 0 lo)).take (HT.sIx xs.length xs.length hi - HT.sIx xs.length 0 lo)
theorem Reps.cut {K : PySem.W.Frag} {al : Al} {H : Hp} {ds : List D} {vs : List V} (lo hi : Option Int) (h : Reps K al H ds vs) : Reps K al H (cut ds lo hi) (cutV vs lo hi) := by
  unfold Fu.cut cutV
  rw [h.len]
  exact (h.drop _).take _
def vSl (d : D) (lo hi : Option Int) (S : List O) : Option D := match d with
  | .str z => if z.length ≤ LIM then some (.str (cutS z lo hi)) else none
  | .tup ds => some (.tup (cut ds lo hi))
  | d => (lstOf S d).map fun ds => .lst (cut ds lo hi)
abbrev MO := Env1 → List O → R (Option Int)
def oNone : MO := fun _ S => .ok none S
def oSome (m : ME) : MO := fun env S => (m env S).bind fun d S1 => match d with
  | .int i => .ok (some i) S1
  | _ => .fail
abbrev FinO (K : PySem.W.Frag) := FinG (β := Option Int) (ω := Option Int) K (fun _ _ b c => b = c)
def rdO (K : PySem.W.Frag) (W : WX) (m : MO) : TO := fun σ H Q => ∃ al S env, EnvR K al H env σ ∧ Abs K al S H ∧ FinO K (fun c od => W c od σ) al H (m env S) Q
abbrev SOp (X : Cx) (W : WX) (e : Option Expr) (m : MO) : Prop := PO X e (rdO X.K W m)
theorem _root_.L2.PO.le {e : Option Expr} {t t' : TO} (h : PO X e t') (l : ∀ σ H Q, t σ H Q → t' σ H Q) : PO X e t := ⟨fun pins s σ H Q I q => h.run pins s σ H Q I (l _ _ _ q)⟩
theorem sp_none : SOp X W none oNone := po_none.le fun σ H Q q => by
  obtain ⟨al, S, env, er, ab, q⟩ := q
  exact q.ok_self ab rfl
theorem sp_some (h : SE X W a ma) : SOp X W (some a) (oSome ma) := (po_some h).le fun σ H Q q => by
  obtain ⟨al, S, env, er, ab, q⟩ := q
  refine ⟨al, S, env, er, ab, (FinG.bind q).imp fun x H1 ⟨al1, S1, d, e1, a1, g1, q1⟩ => ?_⟩
  cases d with
  | int i => exact ⟨i, g1, q1.ok_self a1 rfl⟩
  | _ => exact q1.elim
def eSl (m : ME) (lo hi : MO) : ME := fun env S => (m env S).bind fun d S1 => (lo env S1).bind fun l S2 => (hi env S2).bind fun h S3 => liftO (vSl d l h S3) S3
theorem cut_full {α : Type} {xs : List α} {lo hi : Option Int} (h : HT.sIx xs.length 0 lo = 0 ∧ HT.sIx xs.length xs.length hi = xs.length) : cut xs lo hi = xs := by
  unfold Fu.cut
  rw [h.1, h.2]; simp
theorem se_sl {lo hi : Option Expr} {ml mh : MO} {p2 : Pos} (ha : SE X W a ma) (hl : SOp X W lo ml) (hh : SOp X W hi mh) : SE X W (.Subscript a (.Slice lo hi none p2) pos) (eSl ma ml mh) :=
  (pe_slice (sl_list.or (sl_tupA.or sl_str)) ha hl hh).le fun σ H Q q => by
    obtain ⟨al, S, env, er, ab, q⟩ := q
    refine ⟨al, S, env, er, ab, (FinG.bind q).imp fun x H1 ⟨al1, S1, d, e1, a1, g1, q1⟩ => ?_⟩
    refine ⟨al1, S1, env, er.mono e1, a1, (FinG.bind q1).imp fun l H2 ⟨al2, S2, lo', e2, a2, g2, q2⟩ => ?_⟩
    refine ⟨al2, S2, env, (er.mono e1).mono e2, a2, (FinG.bind q2).imp fun u H3 ⟨al3, S3, hi', e3, a3, g3, q3⟩ => ?_⟩
    subst g2 g3
    have g4 := (g1.mono e2).mono e3
    obtain ⟨d', e, h⟩ := liftO_fin q3
    by_cases hs : ∃ z, d = .str z
    · obtain ⟨z, rfl⟩ := hs
      simp only [vSl] at e
      split at e
      · rename_i hz
        cases e
        exact .inr (.inr ⟨z, g4, size_ok hz, fin_same a3 h rfl⟩)
      · cases e
    by_cases ht : ∃ z, d = .tup z
    · obtain ⟨z, rfl⟩ := ht
      simp only [vSl, Option.some.injEq] at e
      subst e
      obtain ⟨p, vs, rfl, t, rs⟩ := g4
      refine .inr (.inl ⟨p, vs, rfl, t.sq, fun hw => ?_, fun hw t' n => ?_⟩)
      · rw [rs.len] at hw
        rw [cut_full hw] at h
        exact fin_same a3 h ⟨p, vs, rfl, t, rs⟩
      · exact fin_new a3 h n fun e4 n4 => ⟨t', _, rfl, .inl ⟨.inl upd_same, n4⟩, (rs.cut _ _).mono e4⟩
    have e' : ((lstOf S3 d).map fun ds => D.lst (cut ds lo' hi')) = some d' := by
      cases d with
      | str z => exact absurd ⟨z, rfl⟩ hs
      | tup z => exact absurd ⟨z, rfl⟩ ht
      | _ => exact e
    rw [Option.map_eq_some_iff] at e'
    obtain ⟨ds, e5, rfl⟩ := e'
    obtain ⟨p, vs, rfl, sq, rs⟩ := lstOf_sq a3 e5 g4
    exact .inl ⟨p, vs, rfl, sq, fun t' n => fin_new a3 h n fun e4 n4 => ⟨t', _, rfl, ⟨upd_same, n4⟩, (rs.cut _ _).mono e4⟩⟩

/-! ### truth, not, and, or, if -/
def truth (S : List O) : D → Option Bool
  | .non => some false
  | .bl b => some b
  | .int i => some (i != 0)
  | .str x => if x.length ≤ LIM then some ((x.length : Int) != 0) else none
  | .dic ks _ => some (!ks.isEmpty)
  | .obj n => match S[n]? with
    | some (.lst ds) => some (!ds.isEmpty)
    | some (.dic ks _) => some (!ks.isEmpty)
    | _ => none
  | .tup ds => some (!ds.isEmpty)
  | .lst ds => some (!ds.isEmpty)
  | _ => none
def tTru (m : ME) : MT := fun env S => (m env S).bind fun d S1 => match truth S1 d with
  | some b => .ok b S1
  | none => .fail
theorem emp_len {α β : Type} {xs : List α} {ys : List β} (h : xs.length = ys.length) : (!xs.isEmpty) = !ys.isEmpty := by
  cases xs <;> cases ys <;> first | rfl | cases h
theorem truth_ok {K : PySem.W.Frag} {al : Al} {S : List O} {H : Hp} {d : D} {v : V} {b : Bool} (a : Abs K al S H) (r : Rep K al H d v) (h : truth S d = some b) : TruV K v H b := by
  cases d with
  | non => cases (show v = _ from r); simp [truth] at h; exact (show b = false from h)
  | bl k => cases (show v = _ from r); simp [truth] at h; first | exact (show b = k from h.symm) | exact (show b = k from h)
  | int i => cases (show v = _ from r); simp only [truth, Option.some.injEq] at h; exact (show b = (i != 0) from h.symm)
  | str x =>
    cases (show v = _ from r)
    simp only [truth] at h
    split at h
    · rename_i hl; cases h; exact ⟨size_ok hl, rfl⟩
    · cases h
  | tup ds =>
    obtain ⟨p, vs, rfl, t, rs⟩ := r
    simp only [truth, Option.some.injEq] at h
    subst h
    exact .inr (.inl ⟨vs, t.sq, emp_len rs.len.symm⟩)
  | lst ds =>
    obtain ⟨p, vs, rfl, t, rs⟩ := r
    simp only [truth, Option.some.injEq] at h
    subst h
    exact .inl ⟨vs, t.sq, emp_len rs.len.symm⟩
  | dic ks ds =>
    obtain ⟨p, kvs, rfl, t, _, e, rs⟩ := r
    simp only [truth, Option.some.injEq] at h
    subst h
    exact .inr (.inr ⟨kvs, t, emp_len (by rw [← e]; simp)⟩)
  | obj n =>
    obtain ⟨p, rfl, e⟩ := r
    simp only [truth] at h
    split at h
    · rename_i ds q
      cases h
      obtain ⟨vs, h1, h2⟩ := a.obj n p _ e q
      exact .inl ⟨vs, .inl (.inl h1), emp_len h2.len.symm⟩
    · rename_i ks ds q
      cases h
      obtain ⟨kvs, h1, h2, h3⟩ := a.obj n p _ e q
      exact .inr (.inr ⟨kvs, h1, emp_len (by rw [← h2]; simp)⟩)
    · cases h
  | _ => simp [truth] at h
theorem st_tru (ha : SE X W a ma) (he : ∀ whole, isTrue a X.env whole = (do let v ← whole; standAt a.pos; holding [v] (truthy v)) := by intro _; rfl) : ST X W a (tTru ma) := (pt_truth ha he).le fun σ H Q q => by
  obtain ⟨al, S, env, er, ab, q⟩ := q
  refine ⟨al, S, env, er, ab, (FinG.bind q).imp fun x H1 ⟨al1, S1, d, e1, a1, g1, q1⟩ => ?_⟩
  cases e : truth S1 d with
  | none => rw [e] at q1; exact q1.elim
  | some b =>
    rw [e] at q1
    exact ⟨b, truth_ok a1 g1 e, q1.ok_self a1 rfl⟩
variable {mt mu : MT} {rest : List Expr}
def tNot1 (t : MT) : MT := fun env S => (t env S).bind fun b S1 => .ok (!b) S1
def tAnd1 (t u : MT) : MT := fun env S => (t env S).bind fun b S1 => match b with
  | true => u env S1
  | false => .ok false S1
def tOr1 (t u : MT) : MT := fun env S => (t env S).bind fun b S1 => match b with
  | true => .ok true S1
  | false => u env S1
theorem st_not (h : ST X W a mt) : ST X W (.UnaryOp .Not a pos) (tNot1 mt) := (pt_not h).le fun σ H Q q => by
  obtain ⟨al, S, env, er, ab, q⟩ := q
  refine ⟨al, S, env, er, ab, (FinG.bind q).imp fun b H1 ⟨al1, S1, d, e1, a1, g1, q1⟩ => ?_⟩
  subst g1
  exact q1.ok_self a1 rfl
abbrev SW (X : Cx) (W : WX) (e : Expr) (m : MT) : Prop := PW X e (rdT X.K W m)
theorem sw_and1 (h : ST X W a mt) : SW X W (.BoolOp .And [a] pos) mt := pw_and1 h
theorem sw_or1 (h : ST X W a mt) : SW X W (.BoolOp .Or [a] pos) mt := pw_or1 h
theorem sw_and (h : ST X W a mt) (hb : SW X W (.BoolOp .And (b :: rest) pos) mu) : SW X W (.BoolOp .And (a :: b :: rest) pos) (tAnd1 mt mu) := (pw_and h hb).le fun σ H Q q => by
  obtain ⟨al, S, env, er, ab, q⟩ := q
  refine ⟨al, S, env, er, ab, (FinG.bind q).imp fun k H1 ⟨al1, S1, d, e1, a1, g1, q1⟩ => ?_⟩
  subst g1
  cases d with
  | true => rw [if_pos rfl]; exact ⟨al1, S1, env, er.mono e1, a1, q1⟩
  | false => rw [if_neg Bool.false_ne_true]; exact q1.ok_self a1 rfl
theorem sw_or (h : ST X W a mt) (hb : SW X W (.BoolOp .Or (b :: rest) pos) mu) : SW X W (.BoolOp .Or (a :: b :: rest) pos) (tOr1 mt mu) := (pw_or h hb).le fun σ H Q q => by
  obtain ⟨al, S, env, er, ab, q⟩ := q
  refine ⟨al, S, env, er, ab, (FinG.bind q).imp fun k H1 ⟨al1, S1, d, e1, a1, g1, q1⟩ => ?_⟩
  subst g1
  cases d with
  | true => rw [if_pos rfl]; exact q1.ok_self a1 rfl
  | false => rw [if_neg Bool.false_ne_true]; exact ⟨al1, S1, env, er.mono e1, a1, q1⟩
theorem st_w (h : SW X W a mt) : ST X W a mt := PW.pt h
/-- as values, of bools -/
def eAnd (a b : ME) : ME := fun env S => (a env S).bind fun x S1 => match x with
  | .bl true => b env S1
  | .bl false => .ok (.bl false) S1
  | _ => .fail
def eOr (a b : ME) : ME := fun env S => (a env S).bind fun x S1 => match x with
  | .bl true => .ok (.bl true) S1
  | .bl false => b env S1
  | _ => .fail
theorem se_one {op} (h : SE X W a ma) : SE X W (.BoolOp op [a] pos) ma := pe_one h
theorem se_and (ha : SE X W a ma) (hb : SE X W (.BoolOp .And (b :: rest) pos) mb) : SE X W (.BoolOp .And (a :: b :: rest) pos) (eAnd ma mb) := (pe_and ha hb).le fun σ H Q q => by
  obtain ⟨al, S, env, er, ab, q⟩ := q
  refine ⟨al, S, env, er, ab, (FinG.bind q).imp fun k H1 ⟨al1, S1, d, e1, a1, g1, q1⟩ => ?_⟩
  cases d with
  | bl k =>
    refine ⟨k, g1, ?_⟩
    cases k with
    | true => rw [if_pos rfl]; exact ⟨al1, S1, env, er.mono e1, a1, q1⟩
    | false => rw [if_neg Bool.false_ne_true]; exact q1.ok_self a1 rfl
  | _ => exact q1.elim
theorem se_or (ha : SE X W a ma) (hb : SE X W (.BoolOp .Or (b :: rest) pos) mb) : SE X W (.BoolOp .Or (a :: b :: rest) pos) (eOr ma mb) := (pe_or ha hb).le fun σ H Q q => by
  obtain ⟨al, S, env, er, ab, q⟩ := q
  refine ⟨al, S, env, er, ab, (FinG.bind q).imp fun k H1 ⟨al1, S1, d, e1, a1, g1, q1⟩ => ?_⟩
  cases d with
  | bl k =>
    refine ⟨k, g1, ?_⟩
    cases k with
    | true => rw [if_pos rfl]; exact q1.ok_self a1 rfl
    | false => rw [if_neg Bool.false_ne_true]; exact ⟨al1, S1, env, er.mono e1, a1, q1⟩
  | _ => exact q1.elim
def eNot (a : ME) : ME := fun env S => (a env S).bind fun x S1 => match x with
  | .bl b => .ok (.bl (!b)) S1
  | _ => .fail
theorem se_not (ha : SE X W a ma) : SE X W (.UnaryOp .Not a pos) (eNot ma) := (pe_not ha).le fun σ H Q q => by
  obtain ⟨al, S, env, er, ab, q⟩ := q
  refine ⟨al, S, env, er, ab, (FinG.bind q).imp fun k H1 ⟨al1, S1, d, e1, a1, g1, q1⟩ => ?_⟩
  cases d with
  | bl k => exact ⟨k, g1, q1.ok_self a1 rfl⟩
  | _ => exact q1.elim
def eNeg (a : ME) : ME := fun env S => (a env S).bind fun x S1 => match x with
  | .int i => .ok (.int (-i)) S1
  | _ => .fail
theorem se_neg (ha : SE X W a ma) : SE X W (.UnaryOp .USub a pos) (eNeg ma) := (pe_un un_neg ha).le fun σ H Q q => by
  obtain ⟨al, S, env, er, ab, q⟩ := q
  refine ⟨al, S, env, er, ab, (FinG.bind q).imp fun k H1 ⟨al1, S1, d, e1, a1, g1, q1⟩ => ?_⟩
  cases d with
  | int k => exact ⟨k, g1, q1.ok_self a1 rfl⟩
  | _ => exact q1.elim
def eIf (t : MT) (a b : ME) : ME := fun env S => (t env S).bind fun k S1 => match k with
  | true => a env S1
  | false => b env S1
theorem se_if (ht : ST X W c mt) (ha : SE X W a ma) (hb : SE X W b mb) : SE X W (.IfExp c a b pos) (eIf mt ma mb) := (pe_ifExp ht ha hb).le fun σ H Q q => by
  obtain ⟨al, S, env, er, ab, q⟩ := q
  refine ⟨al, S, env, er, ab, (FinG.bind q).imp fun k H1 ⟨al1, S1, d, e1, a1, g1, q1⟩ => ?_⟩
  subst g1
  cases d with
  | true => rw [if_pos rfl]; exact ⟨al1, S1, env, er.mono e1, a1, q1⟩
  | false => rw [if_neg Bool.false_ne_true]; exact ⟨al1, S1, env, er.mono e1, a1, q1⟩
end
end Fu

namespace Fu
open PySem PySem.Spec PyProof.Rows L2

/-! ### calls of built-ins that change nothing -/
abbrev OpN := List D → List O → Option D
def rdC (K : PySem.W.Frag) (g : OpN) : List V → Hp → VK → Prop := fun vs H Q => ∃ al S ds d, Abs K al S H ∧ Reps K al H ds vs ∧ g ds S = some d ∧ ∀ H' v, Ext al al H H' → Abs K al S H' → Rep K al H' d v → Q v H'
abbrev SC (X : Cx) (f : Value) (g : OpN) : Prop := CallR X f (rdC X.K g)
theorem _root_.L2.CallR.le {X : Cx} {f : Value} {r r' : List V → Hp → VK → Prop} (h : CallR X f r') (l : ∀ x H Q, r x H Q → r' x H Q) : CallR X f r :=
  fun pins s σ H xs us Q I rx q => h pins s σ H xs us Q I rx (l _ _ _ q)
def eCB (g : OpN) (t : MA) : ME := fun env S => (t env S).bind fun ds S1 => liftO (g ds S1) S1
theorem cb_le {K : PySem.W.Frag} {W : WX} {g : OpN} {t : MA} {σ : L2.St} {H : Hp} {Q : VK} (q : rdE K W (eCB g t) σ H Q) : tCB (rdC K g) (rdA K W t) σ H Q := by
  obtain ⟨al, S, env, er, ab, q⟩ := q
  refine ⟨al, S, env, er, ab, (FinG.bind q).imp fun x H1 ⟨al1, S1, a, e1, a1, g1, q1⟩ => ?_⟩
  obtain ⟨d, e, h⟩ := liftO_fin q1
  exact ⟨al1, S1, a, d, a1, g1, e, h⟩
theorem reps_one {K : PySem.W.Frag} {al : Al} {H : Hp} {d : D} {vs : List V} (r : Reps K al H [d] vs) : ∃ v, vs = [v] ∧ Rep K al H d v := by
  obtain ⟨v, r, rfl, h, h2⟩ := r
  cases (show _ = _ from h2)
  exact ⟨v, rfl, h⟩
theorem reps_two {K : PySem.W.Frag} {al : Al} {H : Hp} {d e : D} {vs : List V} (r : Reps K al H [d, e] vs) : ∃ v w, vs = [v, w] ∧ Rep K al H d v ∧ Rep K al H e w := by
  obtain ⟨v, r, rfl, h, h2⟩ := r
  obtain ⟨w, rfl, h3⟩ := reps_one h2
  exact ⟨v, w, rfl, h, h3⟩
def vLen : OpN
  | [.str x], _ => if x.length ≤ LIM then some (.int x.length) else none
  | [d], S => match seqOf S d with
    | some ds => some (.int ds.length)
    | none => none
  | _, _ => none
def vTuple : OpN
  | [.tup ds], _ => some (.tup ds)
  | [d], S => (lstOf S d).map .tup
  | _, _ => none
def vList : OpN
  | [d], S => (seqOf S d).map .lst
  | _, _ => none
def vIntC : OpN
  | [.int i], _ => some (.int i)
  | [.bl b], _ => some (.int (if b then 1 else 0))
  | _, _ => none
def tyName (S : List O) : D → Option String
  | .non => some "NoneType"
  | .bl _ => some "bool"
  | .int _ => some "int"
  | .str _ => some "str"
  | .tup _ => some "tuple"
  | .lst _ => some "list"
  | .dic _ _ => some "dict"
  | .obj n => match S[n]? with
    | some (.lst _) => some "list"
    | some (.dic _ _) => some "dict"
    | _ => none
  | _ => none
def vIsi : OpN
  | [d, .ty n], S => (tyName S d).bind fun t => (kitB t n).map .bl
  | _, _ => none
def intsOf : List D → Option (List Int)
  | [] => some []
  | .int i :: ds => (intsOf ds).map fun r => i :: r
  | _ :: _ => none
def vSum : OpN
  | [d], S => (lstOf S d).bind fun ds => (intsOf ds).map fun ns => .int ns.sum
  | _, _ => none
def vMax2 : OpN
  | [.int i, .int j], _ => some (.int (if j > i then j else i))
  | _, _ => none
def vMin2 : OpN
  | [.int i, .int j], _ => some (.int (if j < i then j else i))
  | _, _ => none
theorem intsOf_eq : ∀ {ds : List D} {ns : List Int}, intsOf ds = some ns → ds = ns.map .int
  | [], ns, h => by simp [intsOf] at h; subst h; rfl
  | .int i :: ds, ns, h => by
    simp only [intsOf, Option.map_eq_some_iff] at h
    obtain ⟨r, h, rfl⟩ := h
    rw [intsOf_eq h]; rfl
  | .non :: _, _, h => by simp [intsOf] at h
  | .bl _ :: _, _, h => by simp [intsOf] at h
  | .str _ :: _, _, h => by simp [intsOf] at h
  | .tup _ :: _, _, h => by simp [intsOf] at h
  | .lst _ :: _, _, h => by simp [intsOf] at h
  | .obj _ :: _, _, h => by simp [intsOf] at h
  | .ins _ _ _ :: _, _, h => by simp [intsOf] at h
  | .dic _ _ :: _, _, h => by simp [intsOf] at h
  | .fn _ :: _, _, h => by simp [intsOf] at h
  | .scr _ :: _, _, h => by simp [intsOf] at h
  | .ty _ :: _, _, h => by simp [intsOf] at h
theorem reps_ints_eq {K : PySem.W.Frag} {al : Al} {H : Hp} : ∀ {ns : List Int} {vs : List V}, Reps K al H (ns.map D.int) vs → vs = ns.map V.int
  | [], _, h => h
  | n :: ns, _, h => by
    obtain ⟨v, r, rfl, h1, h2⟩ := h
    cases (show v = _ from h1)
    rw [reps_ints_eq h2]; rfl
section
variable {X : Cx} {W : WX} {pos p : Pos} {x : Str} {e : Expr} {es : List Expr} {t : MA} {id T : String} {g : OpN}
theorem se_callB (hc : SC X (.builtin id) g) (hg : Gl X x) (hm : X.mg x = none) (hv : bootBuiltins x = some (.builtin id)) (ha : SA X W (e :: es) t) (hn : x ≠ "__name__" := by decide) (hdb : (x == ("__debug__" : Str)) = false := by decide)
    (he : starEach (e :: es) X.env = (false, eval e X.env) :: starEach es X.env := by rfl) (hpl : (backTo pos (starEach es X.env)).any (·.1) = false := by rfl) : SE X W (.Call (.Name x p) (e :: es) [] pos) (eCB g t) :=
  (pe_callB hc hg hm hv ha hn hdb he hpl).le fun _ _ _ q => cb_le q
theorem se_callTy (hc : SC X (.type T) g) (hg : Gl X x) (hm : X.mg x = none) (hv : bootBuiltins x = some (.type T)) (ha : SA X W (e :: es) t) (hn : x ≠ "__name__" := by decide) (hdb : (x == ("__debug__" : Str)) = false := by decide)
    (he : starEach (e :: es) X.env = (false, eval e X.env) :: starEach es X.env := by rfl) (hpl : (backTo pos (starEach es X.env)).any (·.1) = false := by rfl) : SE X W (.Call (.Name x p) (e :: es) [] pos) (eCB g t) :=
  (pe_callTy hc hg hm hv ha hn hdb he hpl).le fun _ _ _ q => cb_le q
theorem sc_len : SC X (.builtin "len") vLen := call_len.le fun vs H Q q => by
  obtain ⟨al, S, ds, d, ab, r, e, q⟩ := q
  match ds, e with
  | [a], e =>
    obtain ⟨v, rfl, ra⟩ := reps_one r
    by_cases hs : ∃ z, a = .str z
    · obtain ⟨z, rfl⟩ := hs
      simp only [vLen] at e
      split at e
      · rename_i hl
        cases e
        cases (show v = _ from ra)
        exact ⟨_, z.length, rfl, ⟨size_ok hl, rfl⟩, fin_same ab q rfl⟩
      · cases e
    · have e' : (match seqOf S a with | some ds => some (D.int ds.length) | none => none) = some d := by
        cases a with
        | str z => exact absurd ⟨z, rfl⟩ hs
        | _ => exact e
      cases e1 : seqOf S a with
      | none => rw [e1] at e'; cases e'
      | some ds =>
        rw [e1] at e'
        cases e'
        obtain ⟨p, us, rfl, sq, rs⟩ := seqOf_sq ab e1 ra
        refine ⟨_, us.length, rfl, ?_, fin_same ab q (by rw [rs.len]; rfl)⟩
        rcases sq with sq | sq
        · exact .inl ⟨us, sq, rfl⟩
        · exact .inr ⟨us, sq, rfl⟩
  | [], e => simp [vLen] at e
  | _ :: _ :: _, e => simp [vLen] at e
theorem sc_tuple : SC X (.type "tuple") vTuple := call_tuple_of.le fun vs H Q q => by
  obtain ⟨al, S, ds, d, ab, r, e, q⟩ := q
  match ds, e with
  | [a], e =>
    obtain ⟨v, rfl, ra⟩ := reps_one r
    by_cases hs : ∃ z, a = .tup z
    · obtain ⟨z, rfl⟩ := hs
      simp only [vTuple, Option.some.injEq] at e
      subst e
      obtain ⟨p, us, rfl, t, rs⟩ := ra
      exact ⟨p, us, rfl, .inr ⟨t.sq, fin_same ab q ⟨p, us, rfl, t, rs⟩⟩⟩
    · have e' : ((lstOf S a).map D.tup) = some d := by
        cases a with
        | tup z => exact absurd ⟨z, rfl⟩ hs
        | _ => exact e
      rw [Option.map_eq_some_iff] at e'
      obtain ⟨ds, e1, rfl⟩ := e'
      obtain ⟨p, us, rfl, sq, rs⟩ := lstOf_sq ab e1 ra
      exact ⟨p, us, rfl, .inl ⟨sq, fun l n => fin_new ab q n fun e3 n3 => ⟨l, _, rfl, .inl ⟨.inl upd_same, n3⟩, rs.mono e3⟩⟩⟩
  | [], e => simp [vTuple] at e
  | _ :: _ :: _, e => simp [vTuple] at e
theorem sc_list : SC X (.type "list") vList := call_list_of.le fun vs H Q q => by
  obtain ⟨al, S, ds, d, ab, r, e, q⟩ := q
  match ds, e with
  | [a], e =>
    obtain ⟨v, rfl, ra⟩ := reps_one r
    simp only [vList, Option.map_eq_some_iff] at e
    obtain ⟨ds, e1, rfl⟩ := e
    obtain ⟨p, us, rfl, sq, rs⟩ := seqOf_sq ab e1 ra
    exact ⟨p, us, rfl, sq, fun l n => fin_new ab q n fun e3 n3 => ⟨l, _, rfl, ⟨upd_same, n3⟩, rs.mono e3⟩⟩
  | [], e => simp [vList] at e
  | _ :: _ :: _, e => simp [vList] at e
theorem sc_int : SC X (.type "int") vIntC := call_int1.le fun vs H Q q => by
  obtain ⟨al, S, ds, d, ab, r, e, q⟩ := q
  match ds, e with
  | [.int i], e =>
    obtain ⟨v, rfl, ra⟩ := reps_one r
    cases (show v = _ from ra); cases e
    exact .inl ⟨i, rfl, fin_same ab q rfl⟩
  | [.bl i], e =>
    obtain ⟨v, rfl, ra⟩ := reps_one r
    cases (show v = _ from ra); cases e
    exact .inr ⟨i, rfl, fin_same ab q rfl⟩
  | [], e => simp [vIntC] at e
  | _ :: _ :: _, e => simp [vIntC] at e
theorem ty_rep {K : PySem.W.Frag} {al : Al} {S : List O} {H : Hp} {d : D} {v : V} {t : String} (ab : Abs K al S H) (r : Rep K al H d v) (h : tyName S d = some t) : TyX K H v (.type t) := by
  cases d with
  | non => cases (show v = _ from r); cases h; exact .base .non
  | bl b => cases (show v = _ from r); cases h; exact .base (.bl b)
  | int b => cases (show v = _ from r); cases h; exact .base (.int b)
  | str b => cases (show v = _ from r); cases h; exact .base (.str b)
  | tup ds =>
    obtain ⟨p, vs, rfl, t, rs⟩ := r
    cases h
    rcases t with ⟨t | ⟨o, t⟩, _⟩ | ⟨o, its, n, h1, h2, _⟩
    · exact .base (.tup t)
    · exact .fTuple t
    · exact .kTuple h1 h2
  | lst ds =>
    obtain ⟨p, vs, rfl, t, rs⟩ := r
    cases h
    exact .base (.lst t.1)
  | dic ks ds =>
    obtain ⟨p, kvs, rfl, t, _⟩ := r
    cases h
    exact .base (.dK t)
  | obj n =>
    obtain ⟨p, rfl, e⟩ := r
    simp only [tyName] at h
    split at h
    · rename_i ds q
      cases h
      obtain ⟨vs, h1, h2⟩ := ab.obj n p _ e q
      exact .base (.lst h1)
    · rename_i ks ds q
      cases h
      obtain ⟨kvs, h1, h2, h3⟩ := ab.obj n p _ e q
      exact .base (.dK h1)
    · cases h
  | _ => simp [tyName] at h
theorem sc_isi : SC X (.builtin "isinstance") vIsi := call_isi.le fun vs H Q q => by
  obtain ⟨al, S, ds, d, ab, r, e, q⟩ := q
  match ds, e with
  | [a, .ty n], e =>
    obtain ⟨v, w, rfl, ra, rb⟩ := reps_two r
    cases (show w = _ from rb)
    simp only [vIsi, Option.bind_eq_some_iff, Option.map_eq_some_iff] at e
    obtain ⟨t, e1, b, e2, rfl⟩ := e
    exact ⟨v, _, _, _, b, rfl, .ty n, ty_rep ab ra e1, kit_ty e2, fin_same ab q rfl⟩
theorem sc_sum (hc : X.calm = true := by rfl) : SC X (.builtin "sum") vSum := (cr_sum hc).le fun vs H Q q => by
  obtain ⟨al, S, ds, d, ab, r, e, q⟩ := q
  match ds, e with
  | [a], e =>
    obtain ⟨v, rfl, ra⟩ := reps_one r
    simp only [vSum, Option.bind_eq_some_iff, Option.map_eq_some_iff] at e
    obtain ⟨ds, e1, ns, e2, rfl⟩ := e
    obtain ⟨p, us, rfl, sq, rs⟩ := lstOf_sq ab e1 ra
    have := intsOf_eq e2
    subst this
    have := reps_ints_eq rs
    subst this
    exact ⟨p, ns, rfl, sq, fin_same ab q rfl⟩
  | [], e => simp [vSum] at e
  | _ :: _ :: _, e => simp [vSum] at e
theorem sc_max2 (hc : X.calm = true := by rfl) : SC X (.builtin "max") vMax2 := (call_max2 hc).le fun vs H Q q => by
  obtain ⟨al, S, ds, d, ab, r, e, q⟩ := q
  match ds, e with
  | [.int i, .int j], e =>
    obtain ⟨v, w, rfl, ra, rb⟩ := reps_two r
    cases (show v = _ from ra); cases (show w = _ from rb); cases e
    exact ⟨i, j, rfl, fin_same ab q rfl⟩
theorem sc_min2 (hc : X.calm = true := by rfl) : SC X (.builtin "min") vMin2 := (call_min2 hc).le fun vs H Q q => by
  obtain ⟨al, S, ds, d, ab, r, e, q⟩ := q
  match ds, e with
  | [.int i, .int j], e =>
    obtain ⟨v, w, rfl, ra, rb⟩ := reps_two r
    cases (show v = _ from ra); cases (show w = _ from rb); cases e
    exact ⟨i, j, rfl, fin_same ab q rfl⟩
/-- a new list that may change: list(..) -/
def eListO (t : MA) : ME := fun env S => (t env S).bind fun ds S1 => match vList ds S1 with
  | some (.lst es) => .ok (.obj S1.length) (S1 ++ [.lst es])
  | _ => .fail
theorem new_obj {K : PySem.W.Frag} {W : WK} {al : Al} {S : List O} {H : Hp} {ds : List D} {vs : List V} {Q : VK} {p : Addr} (ab : Abs K al S H) (rs : Reps K al H ds vs) (n : H p = none)
    (q : FinE K W al H (.ok (.obj S.length) (S ++ [.lst ds])) Q) : Q (.ref p) (upd H p (.lst vs)) := by
  obtain ⟨e2, a2⟩ := ext_add (o := .lst vs) (u := .lst ds) ab n ⟨vs, upd_same, rs.mono (ext_addE ab n)⟩
  exact q _ _ _ e2 a2 ⟨p, rfl, add_at ab⟩
theorem se_listO (hg : Gl X x) (hm : X.mg x = none) (hv : bootBuiltins x = some (.type "list")) (ha : SA X W (e :: es) t) (hn : x ≠ "__name__" := by decide) (hdb : (x == ("__debug__" : Str)) = false := by decide)
    (he : starEach (e :: es) X.env = (false, eval e X.env) :: starEach es X.env := by rfl) (hpl : (backTo pos (starEach es X.env)).any (·.1) = false := by rfl) : SE X W (.Call (.Name x p) (e :: es) [] pos) (eListO t) :=
  (pe_callTy call_list_of hg hm hv ha hn hdb he hpl).le fun σ H Q q => by
    obtain ⟨al, S, env, er, ab, q⟩ := q
    refine ⟨al, S, env, er, ab, (FinG.bind q).imp fun vs H1 ⟨al1, S1, ds, e1, a1, g1, q1⟩ => ?_⟩
    match ds, g1, q1 with
    | [a], g1, q1 =>
      obtain ⟨v, rfl, ra⟩ := reps_one g1
      simp only [vList] at q1
      cases e2 : seqOf S1 a with
      | none => rw [e2] at q1; exact q1.elim
      | some es =>
        rw [e2] at q1
        obtain ⟨p, us, rfl, sq, rs⟩ := seqOf_sq a1 e2 ra
        exact ⟨p, us, rfl, sq, fun l n => new_obj a1 rs n q1⟩
    | [], _, q1 => exact q1.elim
    | _ :: _ :: _, _, q1 => exact q1.elim
end
end Fu

namespace Fu
open PySem PySem.Spec PyProof.Rows L2

/-! ### a tracked object changes -/
theorem ext_updE {al : Al} {H : Hp} {a : Addr} {o : HO} (ha : a ∈ al.tr) (hx : a ∉ al.ex) : Ext al al H (upd H a o) :=
  ⟨⟨[], by simp⟩, rfl, fun _ h n => absurd h n, fun b v h nb => by rw [upd_ne (fun z => nb (.inl (by rw [z]; exact ha)))]; exact h, fun b v h hb => by rw [upd_ne (fun z => hx (by rw [← z]; exact hb))]; exact h⟩
theorem ext_upd {K : PySem.W.Frag} {al : Al} {S : List O} {H : Hp} {n : Nat} {a : Addr} {o : HO} {u : O} (ab : Abs K al S H) (e : al.tr[n]? = some a) (hu : ORep K al (upd H a o) a u) :
    Ext al al H (upd H a o) ∧ Abs K al (S.set n u) (upd H a o) := by
  have ha : a ∈ al.tr := List.mem_of_getElem? e
  have ex : Ext al al H (upd H a o) := ext_updE ha (ab.dj a ha)
  refine ⟨ex, by simp [ab.len], ab.nd, hid_upd ab.hid, ab.dj, fun k b v h1 h2 => ?_⟩
  by_cases hk : k = n
  · subst hk
    rw [e] at h1; cases h1
    have hl : k < S.length := by rw [← ab.len]; exact (List.getElem?_eq_some_iff.mp e).1
    rw [List.getElem?_set_self hl] at h2
    cases h2
    exact hu
  · rw [List.getElem?_set_ne (Ne.symm hk)] at h2
    refine (ab.obj k b v h1 h2).mono ex ?_
    have : b ≠ a := fun z => by
      subst z
      obtain ⟨l1, e1⟩ := List.getElem?_eq_some_iff.mp h1
      obtain ⟨l2, e2⟩ := List.getElem?_eq_some_iff.mp e
      exact hk ((List.getElem_inj ab.nd).mp (e1.trans e2.symm))
    rw [upd_ne this]

/-! ### methods of a tracked list: what it gives, what the list is then -/
abbrev OpL := List D → List D → Option (D × List D)
def LM (K : PySem.W.Frag) (r : V → List V → Hp → VK → Prop) (f : OpL) : Prop :=
  ∀ (al : Al) (H : Hp) (a : Addr) (vs us : List V) (es args es' : List D) (d : D) (Q : VK), H a = some (.lst vs) → Reps K al H es vs → Reps K al H args us → f es args = some (d, es') →
    (∀ v vs', Reps K al H es' vs' → Rep K al H d v → Q v (upd H a (.lst vs'))) → r (.ref a) us H Q
def lMeth (f : OpL) (d : D) (args : List D) (S2 : List O) : R D := match d with
  | .obj n => match S2[n]? with
    | some (.lst es) => match f es args with
      | some (r, es') => .ok r (S2.set n (.lst es'))
      | none => .fail
    | _ => .fail
  | _ => .fail
def isL (S : List O) : D → Bool
  | .obj n => match S[n]? with
    | some (.lst _) => true
    | _ => false
  | _ => false
def eMeth (f : OpL) (o : ME) (t : MA) : ME := fun env S => (o env S).bind fun d S1 => if isL S1 d = true then (t env S1).bind fun args S2 => lMeth f d args S2 else .fail
def eMeth0 (f : OpL) (o : ME) : ME := fun env S => (o env S).bind fun d S1 => lMeth f d [] S1
def fAppend : OpL
  | es, [x] => if es.length < LIM then some (.non, es ++ [x]) else none
  | _, _ => none
def fPop : OpL
  | es, [] => match es[es.length - 1]? with
    | some d => some (d, es.dropLast)
    | none => none
  | _, _ => none
def fPopAt : OpL
  | es, [.int i] => if -(2 ^ 63) ≤ i ∧ i < 2 ^ 63 then match ixN es.length i with
    | some k => match es[k]? with
      | some d => some (d, es.eraseIdx k)
      | none => none
    | none => none else none
  | _, _ => none
section
variable {K : PySem.W.Frag}
theorem lm_append : LM K rAppend fAppend := by
  intro al H a vs us es args es' d Q h r ra e q
  match args, e with
  | [x], e =>
    obtain ⟨v, rfl, rx⟩ := reps_one ra
    simp only [fAppend] at e
    split at e
    · rename_i hl
      cases e
      exact ⟨a, vs, v, rfl, rfl, h, Nat.lt_of_lt_of_le (by rw [r.len]; exact hl) lim_line, q _ _ (r.append ⟨v, [], rfl, rx, rfl⟩) rfl⟩
    · cases e
  | [], e => simp [fAppend] at e
  | _ :: _ :: _, e => simp [fAppend] at e
theorem lm_pop : LM K rPop fPop := by
  intro al H a vs us es args es' d Q h r ra e q
  match args, e with
  | [], e =>
    cases (show us = _ from ra)
    simp only [fPop] at e
    split at e
    · rename_i x hx
      cases e
      obtain ⟨v, e1, r1⟩ := r.get hx
      exact ⟨a, vs, v, rfl, rfl, h, by rw [r.len]; exact e1, q _ _ r.dropLast r1⟩
    · cases e
  | _ :: _, e => simp [fPop] at e
theorem lm_popAt : LM K rPopAt fPopAt := by
  intro al H a vs us es args es' d Q h r ra e q
  match args, e with
  | [.int i], e =>
    obtain ⟨v, rfl, rx⟩ := reps_one ra
    cases (show v = _ from rx)
    simp only [fPopAt] at e
    split at e
    · rename_i hi
      split at e
      · rename_i k hk
        split at e
        · rename_i x hx
          cases e
          obtain ⟨v, e1, r1⟩ := r.get hx
          exact ⟨a, vs, i, k, v, rfl, rfl, h, hi.1, hi.2, by rw [r.len]; exact (ixN_seq hk).1, e1, q _ _ (r.eraseIdx k) r1⟩
        · cases e
      · cases e
    · cases e
  | [], e => simp [fPopAt] at e
  | _ :: _ :: _, e => simp [fPopAt] at e
end
theorem isL_ok {K : PySem.W.Frag} {al : Al} {S : List O} {H : Hp} {d : D} {v : V} (a : Abs K al S H) (g : Rep K al H d v) (h : isL S d = true) : tyV K "list" v H := by
  cases d with
  | obj n =>
    obtain ⟨p, rfl, hn⟩ := g
    simp only [isL] at h
    split at h
    · rename_i es e
      obtain ⟨vs, h1, _⟩ := a.obj n p _ hn e
      exact .inl ⟨rfl, vs, .inl (.inl h1)⟩
    · cases h
  | _ => cases h
theorem lMeth_ok {K : PySem.W.Frag} {f : OpL} {r : V → List V → Hp → VK → Prop} {W : WK} {al : Al} {S : List O} {H : Hp} {d : D} {v : V} {args : List D} {us : List V} {Q : VK} (lm : LM K r f)
    (a2 : Abs K al S H) (g1 : Rep K al H d v) (g2 : Reps K al H args us) (q : FinE K W al H (lMeth f d args S) Q) : r v us H Q := by
  cases d with
  | obj n =>
    obtain ⟨a, rfl, hn⟩ := g1
    simp only [lMeth] at q
    cases e2 : S[n]? with
    | none => rw [e2] at q; exact q.elim
    | some o2 =>
      cases o2 with
      | lst es =>
        rw [e2] at q
        simp only at q
        cases e3 : f es args with
        | none => rw [e3] at q; exact q.elim
        | some p =>
          obtain ⟨d', es'⟩ := p
          rw [e3] at q
          obtain ⟨vs, h2, r2⟩ := a2.obj n a _ hn e2
          refine lm al H a vs us es args es' d' Q h2 r2 g2 e3 fun v' vs' r3 r4 => ?_
          have ex := ext_updE (H := H) (o := .lst vs') (List.mem_of_getElem? hn) (a2.dj a (List.mem_of_getElem? hn))
          obtain ⟨e4, a4⟩ := ext_upd (o := .lst vs') (u := .lst es') a2 hn ⟨vs', upd_same, r3.mono ex⟩
          exact q _ _ _ e4 a4 (r4.mono e4)
      | _ => rw [e2] at q; exact q.elim
  | _ => exact q.elim
theorem lMeth_isL {f : OpL} {d : D} {args : List D} {S : List O} {K : PySem.W.Frag} {W : WK} {al : Al} {H : Hp} {Q : VK} (q : FinE K W al H (lMeth f d args S) Q) : isL S d = true := by
  cases d with
  | obj n =>
    simp only [lMeth] at q
    cases e2 : S[n]? with
    | none => rw [e2] at q; exact q.elim
    | some o2 =>
      cases o2 with
      | lst es => simp [isL, e2]
      | _ => rw [e2] at q; exact q.elim
  | _ => exact q.elim
section
variable {X : Cx} {W : WX} {pos : Pos} {o e : Expr} {es : List Expr} {mo : ME} {t : MA} {f : OpL} {name : Str} {apos cpos : Pos} {id : String} {r : V → List V → Hp → VK → Prop}
theorem se_meth (lm : LM X.K r f) (pa : PlainAttrs "list") (slot : Slot "list" name id) (hty : typeOf (.builtin id) = pure (.type "method_descriptor")) (hm : MtR X id r) (ho : SE X W o mo) (ha : SA X W (e :: es) t)
    (hbase : attributeBase o name X.env (eval o X.env) = eval o X.env := by rfl)
    (hfew : ((backTo cpos (starEach (e :: es) X.env)).all (fun x => !x.1) && (backToKw cpos (keywordEach [] X.env)).all (fun x => x.1.isSome)
      && decide ((e :: es).length + ([] : List Keyword).length + (if ([] : List Keyword).isEmpty then 0 else 1) < 30)) = true := by rfl)
    (hline : (apos.endLine == cpos.line) = true := by rfl) (hs : starEach (e :: es) X.env = (false, eval e X.env) :: starEach es X.env := by rfl) (hplain : (backTo cpos (starEach es X.env)).any (·.1) = false := by rfl) :
    SE X W (.Call (.Attribute o name apos) (e :: es) [] cpos) (eMeth f mo t) := (pe_bm pa slot hty hm ho ha hbase hfew hline hs hplain).le fun σ H Q q => by
  obtain ⟨al, S, env, er, ab, q⟩ := q
  refine ⟨al, S, env, er, ab, (FinG.bind q).imp fun x H1 ⟨al1, S1, d, e1, a1, g1, q1⟩ => ?_⟩
  by_cases hl : isL S1 d = true
  · rw [if_pos hl] at q1
    exact ⟨isL_ok a1 g1 hl, al1, S1, env, er.mono e1, a1, (FinG.bind q1).imp fun us H2 ⟨al2, S2, args, e2, a2, g2, q3⟩ => lMeth_ok lm a2 (g1.mono e2) g2 q3⟩
  · rw [if_neg hl] at q1; exact q1.elim
theorem se_meth0 (lm : LM X.K r f) (pa : PlainAttrs "list") (slot : Slot "list" name id) (hty : typeOf (.builtin id) = pure (.type "method_descriptor")) (hm : MtR X id r) (ho : SE X W o mo)
    (hbase : attributeBase o name X.env (eval o X.env) = eval o X.env := by rfl) (hline : (apos.endLine == cpos.line) = true := by rfl) :
    SE X W (.Call (.Attribute o name apos) [] [] cpos) (eMeth0 f mo) := (pe_bm0 pa slot hty hm ho hbase hline).le fun σ H Q q => by
  obtain ⟨al, S, env, er, ab, q⟩ := q
  refine ⟨al, S, env, er, ab, (FinG.bind q).imp fun x H1 ⟨al1, S1, d, e1, a1, g1, q1⟩ => ?_⟩
  exact ⟨isL_ok a1 g1 (lMeth_isL q1), lMeth_ok lm a1 g1 (show Reps X.K al1 H1 [] [] from rfl) q1⟩
theorem se_append (ho : SE X W o mo) (ha : SA X W [e] t)
    (hbase : attributeBase o "append" X.env (eval o X.env) = eval o X.env := by rfl)
    (hfew : ((backTo cpos (starEach [e] X.env)).all (fun x => !x.1) && (backToKw cpos (keywordEach [] X.env)).all (fun x => x.1.isSome)
      && decide (([e] : List Expr).length + ([] : List Keyword).length + (if ([] : List Keyword).isEmpty then 0 else 1) < 30)) = true := by rfl)
    (hline : (apos.endLine == cpos.line) = true := by rfl) (hs : starEach [e] X.env = (false, eval e X.env) :: starEach [] X.env := by rfl) (hplain : (backTo cpos (starEach [] X.env)).any (·.1) = false := by rfl) :
    SE X W (.Call (.Attribute o "append" apos) [e] [] cpos) (eMeth fAppend mo t) :=
  se_meth lm_append PySem.F.plainAttrs_list PySem.F.slot_list_append PySem.F.type_list_append mt_append ho ha hbase hfew hline hs hplain
theorem se_popAt (ho : SE X W o mo) (ha : SA X W [e] t)
    (hbase : attributeBase o "pop" X.env (eval o X.env) = eval o X.env := by rfl)
    (hfew : ((backTo cpos (starEach [e] X.env)).all (fun x => !x.1) && (backToKw cpos (keywordEach [] X.env)).all (fun x => x.1.isSome)
      && decide (([e] : List Expr).length + ([] : List Keyword).length + (if ([] : List Keyword).isEmpty then 0 else 1) < 30)) = true := by rfl)
    (hline : (apos.endLine == cpos.line) = true := by rfl) (hs : starEach [e] X.env = (false, eval e X.env) :: starEach [] X.env := by rfl) (hplain : (backTo cpos (starEach [] X.env)).any (·.1) = false := by rfl) :
    SE X W (.Call (.Attribute o "pop" apos) [e] [] cpos) (eMeth fPopAt mo t) :=
  se_meth lm_popAt PySem.F.plainAttrs_list PySem.F.slot_list_pop PySem.F.type_list_pop mt_popAt ho ha hbase hfew hline hs hplain
theorem se_pop (ho : SE X W o mo) (hbase : attributeBase o "pop" X.env (eval o X.env) = eval o X.env := by rfl) (hline : (apos.endLine == cpos.line) = true := by rfl) :
    SE X W (.Call (.Attribute o "pop" apos) [] [] cpos) (eMeth0 fPop mo) :=
  se_meth0 lm_pop PySem.F.plainAttrs_list PySem.F.slot_list_pop PySem.F.type_list_pop mt_pop ho hbase hline
end
end Fu

namespace Fu
open PySem PySem.Spec PyProof.Rows L2

/-! ### fields -/
def insOf (S : List O) : D → Option (Addr × List Str × List D)
  | .ins C ns ds => some (C, ns, ds)
  | .obj n => match S[n]? with
    | some (.ins C ns ds) => some (C, ns, ds)
    | _ => none
  | _ => none
def fval : List Str → List D → Str → Option D
  | n :: ns, d :: ds, f => if f == n then some d else fval ns ds f
  | _, _, _ => none
def eFld (C : Addr) (f : Str) (m : ME) : ME := fun env S => (m env S).bind fun d S1 => match insOf S1 d with
  | some (C', ns, ds) => if C' = C then liftO (fval ns ds f) S1 else .fail
  | none => .fail
theorem insOf_rep {K : PySem.W.Frag} {al : Al} {S : List O} {H : Hp} {d : D} {v : V} {C : Addr} {ns : List Str} {ds : List D} (a : Abs K al S H) (h : insOf S d = some (C, ns, ds)) (r : Rep K al H d v) :
    ∃ p dx fs, v = .ref p ∧ H p = some (.ins C dx fs) ∧ fs.map (·.1) = ns ∧ Reps K al H ds (fs.map (·.2)) := by
  cases d with
  | ins C' ns' ds' =>
    simp only [insOf, Option.some.injEq, Prod.mk.injEq] at h
    obtain ⟨rfl, rfl, rfl⟩ := h
    obtain ⟨p, dx, fs, rfl, h1, _, h2, h3⟩ := r
    exact ⟨p, dx, fs, rfl, h1, h2, h3⟩
  | obj n =>
    obtain ⟨p, rfl, e⟩ := r
    simp only [insOf] at h
    split at h
    · rename_i C' ns' ds' q
      simp only [Option.some.injEq, Prod.mk.injEq] at h
      obtain ⟨rfl, rfl, rfl⟩ := h
      obtain ⟨dx, fs, h1, h2, h3⟩ := a.obj n p _ e q
      exact ⟨p, dx, fs, rfl, h1, h2, h3⟩
    · cases h
  | _ => simp [insOf] at h
theorem fval_rep {K : PySem.W.Frag} {al : Al} {H : Hp} {f : Str} : ∀ {ns : List Str} {ds : List D} {fs : List (Str × V)} {d : D}, fs.map (·.1) = ns → Reps K al H ds (fs.map (·.2)) → fval ns ds f = some d → ∃ v, fs.lookup f = some v ∧ Rep K al H d v
  | [], ds, fs, d, e, r, h => by cases ds <;> simp [fval] at h
  | n :: ns, [], fs, d, e, r, h => by simp [fval] at h
  | n :: ns, d' :: ds, fs, d, e, r, h => by
    cases fs with
    | nil => cases e
    | cons p fs =>
      simp only [List.map_cons, List.cons.injEq] at e r
      obtain ⟨e1, e2⟩ := e
      obtain ⟨v, vs, e3, r1, r2⟩ := r
      simp only [List.cons.injEq] at e3
      obtain ⟨e3, rfl⟩ := e3
      obtain ⟨p1, p2⟩ := p
      simp only at e1 e3
      subst e1 e3
      simp only [fval] at h
      rw [List.lookup_cons]
      by_cases hk : (f == p1) = true
      · rw [if_pos hk] at h; cases h
        simp only [hk]
        exact ⟨p2, rfl, r1⟩
      · rw [if_neg hk] at h
        have : (f == p1) = false := by simpa using hk
        simp only [this]
        exact fval_rep e2 r2 h
section
variable {X : Cx} {W : WX} {pos : Pos} {o e : Expr} {es : List Expr} {mo : ME} {t : MA} {f : Str} {C : Addr}
theorem se_fld (hc : Cls X.K C) (hn : NoAttr X.K C f) (ho : SE X W o mo) (hb : attributeBase o f X.env (eval o X.env) = eval o X.env := by rfl) : SE X W (.Attribute o f pos) (eFld C f mo) := (pe_fld ho hb).le fun σ H Q q => by
  obtain ⟨al, S, env, er, ab, q⟩ := q
  refine ⟨al, S, env, er, ab, (FinG.bind q).imp fun x H1 ⟨al1, S1, d, e1, a1, g1, q1⟩ => ?_⟩
  cases e2 : insOf S1 d with
  | none => rw [e2] at q1; exact q1.elim
  | some p =>
    obtain ⟨C', ns, ds⟩ := p
    rw [e2] at q1
    simp only at q1
    by_cases hC : C' = C
    · rw [if_pos hC] at q1
      subst hC
      obtain ⟨d', e3, h⟩ := liftO_fin q1
      obtain ⟨a, dx, fs, rfl, h1, h2, h3⟩ := insOf_rep a1 e2 g1
      obtain ⟨v, e4, r4⟩ := fval_rep h2 h3 e3
      exact ⟨a, C', dx, fs, v, rfl, h1, hc, hn, e4, fin_same a1 h r4⟩
    · rw [if_neg hC] at q1; exact q1.elim
end

/-! ### own defs -/
abbrev Fn := List D → List O → R D
def spF (K : PySem.W.Frag) (n : Nat) (F : Fn) : Sp := fun vs H Q E => ∃ al S ds, Abs K al S H ∧ Reps K al H ds vs ∧ ds.length = n ∧ FinE K E al H (F ds S) Q
theorem spF_len {K : PySem.W.Frag} {n : Nat} {F : Fn} {vs : List V} {H : Hp} {Q : VK} {E : XK} (h : spF K n F vs H Q E) : vs.length = n := by
  obtain ⟨al, S, ds, ab, r, e, _⟩ := h
  rw [r.len, e]
def noErr {β : Type} : R β → R β
  | .ok b S => .ok b S
  | _ => .fail
theorem noErr_fin {K : PySem.W.Frag} {β ω : Type} {Good : Al → Hp → β → ω → Prop} {W W' : WK} {al : Al} {H : Hp} {r : R β} {Q : ω → Hp → Prop} (h : FinG K Good W al H (noErr r) Q) : FinG K Good W' al H r Q := by
  cases r with
  | ok b S => exact h
  | err x S => exact h.elim
  | fail => exact h
def eCall (n : Nat) (F : Fn) (t : MA) : ME := fun env S => (t env S).bind fun ds S1 => if ds.length = n then noErr (F ds S1) else .fail
def eCallX (n : Nat) (F : Fn) (t : MA) : ME := fun env S => (t env S).bind fun ds S1 => if ds.length = n then F ds S1 else .fail
section
variable {X : Cx} {W : WX} {k n : Nat} {f : Addr} {fd : FuncData} {ps : List Str} {F' : Fn} {x : Str} {p pos : Pos} {e : Expr} {es : List Expr} {t : MA}
theorem se_call (F : FnOk X.prog X.w X.K X.mg X.base CX0 k f fd ps (spF X.K n F')) (hr : Room k X.A) (hg : Gl X x) (hm : X.mg x = some (.ref f)) (hk : PySem.W.keepIn X.K (.ref f) = true) (hb : Binds X.K fd ps [])
    (ha : SA X W (e :: es) t) (hdb : (x == ("__debug__" : Str)) = false := by decide) (he : starEach (e :: es) X.env = (false, eval e X.env) :: starEach es X.env := by rfl) (hpl : (backTo pos (starEach es X.env)).any (·.1) = false := by rfl) :
    SE X W (.Call (.Name x p) (e :: es) [] pos) (eCall n F' t) := (pe_call F hr hg hm hk hb .nil pass0 ha hdb he hpl).le fun σ H Q q => by
  obtain ⟨al, S, env, er, ab, q⟩ := q
  refine ⟨al, S, env, er, ab, (FinG.bind q).imp fun vs H1 ⟨al1, S1, ds, e1, a1, g1, q1⟩ => ?_⟩
  by_cases hl : ds.length = n
  · rw [if_pos hl] at q1
    refine ⟨al1, S1, ds, a1, by simpa using g1, hl, noErr_fin q1⟩
  · rw [if_neg hl] at q1; exact q1.elim
theorem se_callX {w : World} (F : FnOk X.prog X.w X.K X.mg X.base (L2.CX X.prog X.w) k f fd ps (spF X.K n F')) (tk : Takes X W) (hr : Room k X.A) (hg : Gl X x) (hm : X.mg x = some (.ref f)) (hk : PySem.W.keepIn X.K (.ref f) = true) (hb : Binds X.K fd ps [])
    (ha : SA X W (e :: es) t) (hdb : (x == ("__debug__" : Str)) = false := by decide) (he : starEach (e :: es) X.env = (false, eval e X.env) :: starEach es X.env := by rfl) (hpl : (backTo pos (starEach es X.env)).any (·.1) = false := by rfl) :
    SE X W (.Call (.Name x p) (e :: es) [] pos) (eCallX n F' t) := (pe_callS F hr hg hm hk hb (fun σ => passAt tk σ) ha hdb he hpl).le fun σ H Q q => by
  obtain ⟨al, S, env, er, ab, q⟩ := q
  refine ⟨al, S, env, er, ab, (FinG.bind q).imp fun vs H1 ⟨al1, S1, ds, e1, a1, g1, q1⟩ => ?_⟩
  by_cases hl : ds.length = n
  · rw [if_pos hl] at q1
    exact ⟨al1, S1, ds, a1, g1, hl, q1⟩
  · rw [if_neg hl] at q1; exact q1.elim
end

/-! ### statements -/
inductive RS where
  | nx (env : Env1) (S : List O) | rt (d : D) (S : List O) | bk (env : Env1) (S : List O) | ct (env : Env1) (S : List O) | err (x : Exn) (env : Env1) (S : List O) | fail
abbrev MS := Env1 → List O → RS
def FinS (K : PySem.W.Frag) (W : WX) (al : Al) (H : Hp) (r : RS) (D : Ends) : Prop :=
  match r with
  | .nx env S' => ∀ al' H' σ', Ext al al' H H' → Abs K al' S' H' → EnvR K al' H' env σ' → D.nx σ' H'
  | .bk env S' => ∀ al' H' σ', Ext al al' H H' → Abs K al' S' H' → EnvR K al' H' env σ' → D.bk σ' H'
  | .ct env S' => ∀ al' H' σ', Ext al al' H H' → Abs K al' S' H' → EnvR K al' H' env σ' → D.ct σ' H'
  | .rt d S' => ∀ al' H' v, Ext al al' H H' → Abs K al' S' H' → Rep K al' H' d v → D.rt v H'
  | .err x env S' => ∀ al' H' σ' c od, Ext al al' H H' → Abs K al' S' H' → EnvR K al' H' env σ' → XRep K al' H' x c od → W c od σ' H'
  | .fail => False
def rdSt (K : PySem.W.Frag) (W : WX) (m : MS) : TS := fun D σ H => ∃ al S env, EnvR K al H env σ ∧ Abs K al S H ∧ FinS K W al H (m env S) D
abbrev SS (X : Cx) (W : WX) (st : Stmt) (m : MS) : Prop := PS X st (rdSt X.K W m)
abbrev SSs (X : Cx) (W : WX) (st : List Stmt) (m : MS) : Prop := PSs X st (rdSt X.K W m)
def R.bindS {β : Type} (r : R β) (env : Env1) (f : β → List O → RS) : RS := match r with
  | .ok b S => f b S
  | .err x S => .err x env S
  | .fail => .fail
section
variable {K : PySem.W.Frag} {W : WX} {al al' : Al} {H H' : Hp} {r : RS} {D D' : Ends}
theorem FinS.mono (e : Ext al al' H H') (h : FinS K W al H r D) : FinS K W al' H' r D := by
  cases r with
  | nx env S => exact fun al2 H2 v e2 a g => h al2 H2 v (e.trans e2) a g
  | rt d S => exact fun al2 H2 v e2 a g => h al2 H2 v (e.trans e2) a g
  | bk env S => exact fun al2 H2 v e2 a g => h al2 H2 v (e.trans e2) a g
  | ct env S => exact fun al2 H2 v e2 a g => h al2 H2 v (e.trans e2) a g
  | err x env S => exact fun al2 H2 v c od e2 a g => h al2 H2 v c od (e.trans e2) a g
  | fail => exact h
theorem FinS.bindE {β ω : Type} {Good : Al → Hp → β → ω → Prop} {r : R β} {env : Env1} {σ : L2.St} {f : β → List O → RS} (er : EnvR K al H env σ) (h : FinS K W al H (r.bindS env f) D) :
    FinG K Good (fun c od => W c od σ) al H r (fun v H1 => ∃ al1 S1 d, Ext al al1 H H1 ∧ Abs K al1 S1 H1 ∧ Good al1 H1 d v ∧ EnvR K al1 H1 env σ ∧ FinS K W al1 H1 (f d S1) D) := by
  cases r with
  | ok b S => exact fun al2 H2 v e a g => ⟨al2, S, b, e, a, g, er.mono e, FinS.mono e h⟩
  | err x S => exact fun al2 H2 c od e a g => h al2 H2 σ c od e a (er.mono e) g
  | fail => exact h
theorem EnvR.set {env : Env1} {σ : L2.St} {d : Fu.D} {v : V} (er : EnvR K al H env σ) (r : Rep K al H d v) (i : Nat) : EnvR K al H (env.set i (some d)) (σ.set i (some v)) := by
  refine ⟨by simp [er.len], fun j e h => ?_⟩
  by_cases hj : i = j
  · subst hj
    have hl : i < env.length := by
      have := (List.getElem?_eq_some_iff.mp h).1
      simpa using this
    rw [List.getElem?_set_self hl] at h
    cases h
    exact ⟨v, by rw [List.getElem?_set_self (by rw [← er.len]; exact hl)], r⟩
  · rw [List.getElem?_set_ne hj] at h ⊢
    exact er.get j e h
end
def sSeq (m1 m2 : MS) : MS := fun env S => match m1 env S with
  | .nx env' S' => m2 env' S'
  | r => r
def sNil : MS := fun env S => .nx env S
def sSet (i : Nat) (e : ME) : MS := fun env S => (e env S).bindS env fun d S1 => .nx (env.set i (some d)) S1
def sRet (e : ME) : MS := fun env S => (e env S).bindS env fun d S1 => .rt d S1
def sExpr (e : ME) : MS := fun env S => (e env S).bindS env fun _ S1 => .nx env S1
def sIf (t : MT) (a b : MS) : MS := fun env S => (t env S).bindS env fun k S1 => match k with
  | true => a env S1
  | false => b env S1
section
variable {X : Cx} {W : WX} {st : Stmt} {rest : List Stmt} {m1 m2 : MS} {e c : Expr} {me : ME} {mt : MT} {pos : Pos}
theorem ss_nil : SSs X W [] sNil := pss_nil.le fun D σ H q => by
  obtain ⟨al, S, env, er, ab, q⟩ := q
  exact q al H σ Ext.refl ab er
theorem seq_fin {K : PySem.W.Frag} {al : Al} {H : Hp} {D : Ends} {r : RS} (q : FinS K W al H (match r with | .nx env' S' => m2 env' S' | r => r) D) : FinS K W al H r { D with nx := rdSt K W m2 D } := by
  cases r with
  | nx env S => exact fun al2 H2 σ2 e a g => ⟨al2, S, env, g, a, FinS.mono e q⟩
  | rt d S => exact q
  | bk env S => exact q
  | ct env S => exact q
  | err x env S => exact q
  | fail => exact q
theorem ss_cons (h1 : SS X W st m1) (h2 : SSs X W rest m2) : SSs X W (st :: rest) (sSeq m1 m2) := (pss_cons h1 h2).le fun D σ H q => by
  obtain ⟨al, S, env, er, ab, q⟩ := q
  exact ⟨al, S, env, er, ab, seq_fin q⟩
theorem ss_one (h1 : SS X W st m1) : SSs X W [st] m1 := pss_one h1
theorem ss_set {i : Nat} {x : Str} {pos' : Pos} (hN : X.N.Nodup) (he : SE X W e me) (hi : X.N[i]? = some x := by rfl) (hx : Loc X.env.scope x := by first | exact Or.inl rfl | exact Or.inr rfl) (hs : swapsWith e (some (.Name x pos')) pos.line X.env = pure false := by rfl) (hf : X.fn x = true ∨ X.env.scope.names.lookup x = some .local := by first | exact .inl rfl | exact .inr rfl | assumption) :
    SS X W (.Assign [.Name x pos'] e pos) (sSet i me) := (ps_set hN hi hx he hs hf).le fun D σ H q => by
  obtain ⟨al, S, env, er, ab, q⟩ := q
  refine ⟨al, S, env, er, ab, (FinS.bindE er q).imp fun v H1 ⟨al1, S1, d, e1, a1, g1, er1, q1⟩ => ?_⟩
  exact q1 al1 H1 _ Ext.refl a1 (er1.set g1 i)
theorem ss_ret (he : SE X W e me) : SS X W (.Return (some e) pos) (sRet me) := (ps_ret he).le fun D σ H q => by
  obtain ⟨al, S, env, er, ab, q⟩ := q
  refine ⟨al, S, env, er, ab, (FinS.bindE er q).imp fun v H1 ⟨al1, S1, d, e1, a1, g1, er1, q1⟩ => ?_⟩
  exact q1 al1 H1 _ Ext.refl a1 g1
theorem ss_retN : SS X W (.Return none pos) (fun _ S => .rt .non S) := ps_retN.le fun D σ H q => by
  obtain ⟨al, S, env, er, ab, q⟩ := q
  exact q al H _ Ext.refl ab rfl
theorem ss_expr (he : SE X W e me) (hs : swapsWith e none pos.line X.env = pure false := by rfl) : SS X W (.Expr e pos) (sExpr me) := (ps_expr he hs).le fun D σ H q => by
  obtain ⟨al, S, env, er, ab, q⟩ := q
  refine ⟨al, S, env, er, ab, (FinS.bindE er q).imp fun v H1 ⟨al1, S1, d, e1, a1, g1, er1, q1⟩ => ?_⟩
  exact q1 al1 H1 _ Ext.refl a1 er1
theorem ss_if {a b : List Stmt} (hc : ST X W c mt) (ha : SSs X W a m1) (hb : SSs X W b m2) : SS X W (.If c a b pos) (sIf mt m1 m2) := (ps_if hc ha hb).le fun D σ H q => by
  obtain ⟨al, S, env, er, ab, q⟩ := q
  refine ⟨al, S, env, er, ab, (FinS.bindE er q).imp fun v H1 ⟨al1, S1, d, e1, a1, g1, er1, q1⟩ => ?_⟩
  subst g1
  cases d with
  | true => rw [if_pos rfl]; exact ⟨al1, S1, env, er1, a1, q1⟩
  | false => rw [if_neg Bool.false_ne_true]; exact ⟨al1, S1, env, er1, a1, q1⟩
theorem ss_pass : SS X W (.Pass pos) sNil := ps_pass.le fun D σ H q => by
  obtain ⟨al, S, env, er, ab, q⟩ := q
  exact q al H σ Ext.refl ab er
theorem ss_break : SS X W (.Break pos) (fun env S => .bk env S) := ps_break.le fun D σ H q => by
  obtain ⟨al, S, env, er, ab, q⟩ := q
  exact q al H σ Ext.refl ab er
theorem ss_cont : SS X W (.Continue pos) (fun env S => .ct env S) := ps_continue.le fun D σ H q => by
  obtain ⟨al, S, env, er, ab, q⟩ := q
  exact q al H σ Ext.refl ab er
end
end Fu

namespace Fu
open PySem PySem.Spec PyProof.Rows L2

/-! ### targets -/
inductive Tg where
  | n (i : Nat) | t (l : List Tg)
mutual
def asg : Tg → D → Env1 → Option Env1
  | .n i, d, env => some (env.set i (some d))
  | .t l, .tup ds, env => asgs l ds env
  | .t _, _, _ => none
def asgs : List Tg → List D → Env1 → Option Env1
  | [], [], env => some env
  | T :: Ts, d :: ds, env => match asg T d env with
    | some env' => asgs Ts ds env'
    | none => none
  | _, _, _ => none
end
mutual
def gOf (K : PySem.W.Frag) : Tg → TG
  | .n i => gName i
  | .t l => gTup K l.length (gsOf K l)
def gsOf (K : PySem.W.Frag) : List Tg → TGs
  | [] => gNil
  | T :: Ts => gCons (gOf K T) (gsOf K Ts)
end
mutual
def Tg.sl : Tg → List Nat
  | .n i => [i]
  | .t l => sls l
def sls : List Tg → List Nat
  | [] => []
  | T :: Ts => T.sl ++ sls Ts
end
def Keeps (sl : List Nat) (σ σ' : L2.St) : Prop := σ'.length = σ.length ∧ ∀ j, j ∉ sl → σ'[j]? = σ[j]?
section
variable {K : PySem.W.Frag} {al : Al} {H : Hp}
theorem asgs_len : ∀ {Ts : List Tg} {ds : List D} {env env' : Env1}, asgs Ts ds env = some env' → ds.length = Ts.length
  | [], [], _, _, _ => rfl
  | [], _ :: _, _, _, h => by simp [asgs] at h
  | _ :: _, [], _, _, h => by simp [asgs] at h
  | T :: Ts, d :: ds, env, env', h => by
    simp only [asgs] at h
    split at h
    · simp [asgs_len h]
    · cases h
mutual
theorem gOf_ok : ∀ (T : Tg) {d : D} {v : V} {env env' : Env1} {σ : L2.St} {Q : L2.St → Hp → Prop}, Rep K al H d v → EnvR K al H env σ → asg T d env = some env' → (∀ σ', EnvR K al H env' σ' → Keeps T.sl σ σ' → Q σ' H) → gOf K T v σ H Q
  | .n i, d, v, env, env', σ, Q, r, er, h, q => by
    simp only [asg, Option.some.injEq] at h
    subst h
    refine q _ (er.set r i) ⟨by simp, fun j hj => ?_⟩
    have hj' : i ≠ j := fun e => hj (by simp [Tg.sl, e])
    rw [List.getElem?_set_ne hj']
  | .t l, d, v, env, env', σ, Q, r, er, h, q => by
    cases d with
    | tup ds =>
      obtain ⟨a, vs, rfl, t, rs⟩ := r
      simp only [asg] at h
      refine ⟨a, vs, rfl, t.sq, by rw [rs.len, asgs_len h], ?_⟩
      exact gsOf_ok l rs er h fun σ' er' k => q σ' er' (by simpa [Tg.sl] using k)
    | _ => simp [asg] at h
theorem gsOf_ok : ∀ (Ts : List Tg) {ds : List D} {vs : List V} {env env' : Env1} {σ : L2.St} {Q : L2.St → Hp → Prop}, Reps K al H ds vs → EnvR K al H env σ → asgs Ts ds env = some env' → (∀ σ', EnvR K al H env' σ' → Keeps (sls Ts) σ σ' → Q σ' H) → gsOf K Ts vs σ H Q
  | [], ds, vs, env, env', σ, Q, r, er, h, q => by
    cases ds with
    | nil =>
      simp only [asgs, Option.some.injEq] at h
      subst h
      exact ⟨r, q σ er ⟨rfl, fun _ _ => rfl⟩⟩
    | cons _ _ => simp [asgs] at h
  | T :: Ts, ds, vs, env, env', σ, Q, r, er, h, q => by
    cases ds with
    | nil => simp [asgs] at h
    | cons d ds =>
      obtain ⟨v, vs', rfl, r1, r2⟩ := r
      simp only [asgs] at h
      split at h
      · rename_i env1 h1
        refine ⟨v, vs', rfl, gOf_ok T r1 er h1 fun σ1 er1 k1 => gsOf_ok Ts r2 er1 h fun σ2 er2 k2 => q σ2 er2 ⟨k2.1.trans k1.1, fun j hj => ?_⟩⟩
        simp only [sls, List.mem_append, not_or] at hj
        exact (k2.2 j hj.2).trans (k1.2 j hj.1)
      · cases h
end
end
abbrev SG (X : Cx) (e : Expr) (T : Tg) : Prop := PG X e (gOf X.K T)
abbrev SGs (X : Cx) (es : List Expr) (Ts : List Tg) : Prop := PGs X es (gsOf X.K Ts)
section
variable {X : Cx} {W : WX} {pos : Pos}
theorem sg_n (i : Nat) {x : Str} (hN : X.N.Nodup) (hi : X.N[i]? = some x := by rfl) (hx : Loc X.env.scope x := by first | exact Or.inl rfl | exact Or.inr rfl) (hf : X.fn x = true ∨ X.env.scope.names.lookup x = some .local := by first | exact .inl rfl | exact .inr rfl | assumption) : SG X (.Name x pos) (.n i) := pg_name hN hi hx hf
theorem sgs_nil : SGs X [] [] := pgs_nil
theorem sgs_cons {e : Expr} {es : List Expr} {T : Tg} {Ts : List Tg} (h1 : SG X e T) (h2 : SGs X es Ts) (hs : (assignEach (e :: es) X.env).map (·.2) = assign e X.env :: (assignEach es X.env).map (·.2) := by rfl) : SGs X (e :: es) (T :: Ts) := pgs_cons h1 h2 hs
theorem sg_t {es : List Expr} {k : Nat} {Ts : List Tg} (h : SGs X es Ts) (hc : X.calm = true := by rfl) (hn : (assignEach es X.env).length = Ts.length := by rfl) (hst : (assignEach es X.env).findIdx? (·.1) = none := by rfl) : SG X (.Tuple es k pos) (.t Ts) :=
  pg_tup hc h hn hst
/-- target = e, names and tuples of them -/
def sAsg (T : Tg) (e : ME) : MS := fun env S => (e env S).bindS env fun d S1 => match asg T d env with
  | some env' => .nx env' S1
  | none => .fail
theorem ss_asg {tg e : Expr} {me : ME} {T : Tg} (he : SE X W e me) (hg : SG X tg T) (hs : swapsWithSole [tg] e pos.line X.env = pure false := by rfl) (hw : swappedStores [tg] e X.env = pure none := by rfl)
    (h1 : (assignEach [tg] X.env).map (·.2) = [assign tg X.env] := by rfl) : SS X W (.Assign [tg] e pos) (sAsg T me) := (ps_asg he hg hs hw h1).le fun D σ H q => by
  obtain ⟨al, S, env, er, ab, q⟩ := q
  refine ⟨al, S, env, er, ab, (FinS.bindE er q).imp fun v H1 ⟨al1, S1, d, e1, a1, g1, er1, q1⟩ => ?_⟩
  cases e2 : asg T d env with
  | none => rw [e2] at q1; exact q1.elim
  | some env' =>
    rw [e2] at q1
    exact gOf_ok T g1 er1 e2 fun σ' er' _ => q1 al1 H1 σ' Ext.refl a1 er'
/-- xs[i] = e of a tracked list -/
def sSetIx (e o i : ME) : MS := fun env S => (e env S).bindS env fun d S1 => (o env S1).bindS env fun x S2 => (i env S2).bindS env fun y S3 => match x, y with
  | .obj n, .int k => match S3[n]? with
    | some (.lst es) => match ixN es.length k with
      | some j => .nx env (S3.set n (.lst (es.set j d)))
      | none => .fail
    | _ => .fail
  | _, _ => .fail
theorem ss_setIx {o i e : Expr} {me mo mi : ME} {pt : Pos} (he : SE X W e me) (ho : SE X W o mo) (hi : SE X W i mi)
    (ha : ∀ v, assign (.Subscript o i pt) X.env v = (do
      let ov ← holding [v] (eval o X.env)
      let iv ← holding [v, ov] (eval i X.env)
      standAt pt
      holding [v, ov, iv] (setItem ov iv v)
      release [v, ov, iv] []) := by intro _; rfl)
    (hs : swapsWithSole [.Subscript o i pt] e pos.line X.env = pure false := by rfl) (hw : swappedStores [.Subscript o i pt] e X.env = pure none := by rfl)
    (h1 : (assignEach [.Subscript o i pt] X.env).map (·.2) = [assign (.Subscript o i pt) X.env] := by rfl) : SS X W (.Assign [.Subscript o i pt] e pos) (sSetIx me mo mi) :=
  (ps_asg he (pg_sub ho hi set_list ha) hs hw h1).le fun D σ H q => by
    obtain ⟨al, S, env, er, ab, q⟩ := q
    refine ⟨al, S, env, er, ab, (FinS.bindE er q).imp fun v H1 ⟨al1, S1, d, e1, a1, g1, er1, q1⟩ => ?_⟩
    refine ⟨al1, S1, env, er1, a1, (FinS.bindE er1 q1).imp fun x H2 ⟨al2, S2, dx, e2, a2, g2, er2, q2⟩ => ?_⟩
    refine ⟨al2, S2, env, er2, a2, (FinS.bindE er2 q2).imp fun y H3 ⟨al3, S3, dy, e3, a3, g3, er3, q3⟩ => ?_⟩
    cases dx with
    | obj n =>
      cases dy with
      | int k =>
        cases (show y = _ from g3)
        obtain ⟨a, rfl, hn⟩ := g2
        have hn3 := e3.get hn
        simp only at q3
        cases e4 : S3[n]? with
        | none => rw [e4] at q3; exact q3.elim
        | some o1 =>
          cases o1 with
          | lst es =>
            rw [e4] at q3
            simp only at q3
            cases e5 : ixN es.length k with
            | none => rw [e5] at q3; exact q3.elim
            | some j =>
              rw [e5] at q3
              obtain ⟨vs, h2, r2⟩ := a3.obj n a _ hn3 e4
              refine ⟨a, vs, k, j, rfl, rfl, h2, by rw [r2.len]; exact e5, ?_⟩
              have g4 := (g1.mono e2).mono e3
              have ex := ext_updE (H := H3) (o := .lst (vs.set j v)) (List.mem_of_getElem? hn3) (a3.dj a (List.mem_of_getElem? hn3))
              obtain ⟨e6, a6⟩ := ext_upd (o := .lst (vs.set j v)) (u := .lst (es.set j d)) a3 hn3 ⟨_, upd_same, (r2.set g4 j).mono ex⟩
              exact q3 _ _ σ e6 a6 (er3.mono e6)
          | _ => rw [e4] at q3; exact q3.elim
      | _ => exact q3.elim
    | _ => exact q3.elim
end

/-! ### what is walked -/
structure Src where
  ds : List D
  ob : Option Nat
def Src.Chk (s : Src) (S : List O) : Prop := match s.ob with
  | none => True
  | some n => S[n]? = some (.lst s.ds)
def JOk (K : PySem.W.Frag) (al : Al) (H : Hp) (J : It) (s : Src) : Prop :=
  ∀ al' H' S', Wk al al' H H' → Abs K al' S' H' → s.Chk S' → ∀ i : Nat, (s.ds.length ≤ i → J.stop i H') ∧
    (i < s.ds.length → J.go i H' ∧ ∀ x H2, J.yld i H' x H2 → ∃ d, s.ds[i]? = some d ∧ Ext al' al' H' H2 ∧ Abs K al' S' H2 ∧ Rep K al' H2 d x)
theorem JOk.mono {K : PySem.W.Frag} {al al' : Al} {H H' : Hp} {J : It} {s : Src} (h : JOk K al H J s) (e : Ext al al' H H') : JOk K al' H' J s :=
  fun al2 H2 S2 e2 => h al2 H2 S2 (e.wk.trans e2)
theorem JOk.wk {K : PySem.W.Frag} {al al' : Al} {H H' : Hp} {J : It} {s : Src} (h : JOk K al H J s) (e : Wk al al' H H') : JOk K al' H' J s :=
  fun al2 H2 S2 e2 => h al2 H2 S2 (e.trans e2)
abbrev MI := Env1 → List O → R Src
abbrev FinI (K : PySem.W.Frag) := FinG (β := Src) (ω := It) K (fun al H s J => JOk K al H J s)
def rdI (K : PySem.W.Frag) (W : WX) (m : MI) : TI := fun σ H R => ∃ al S env, EnvR K al H env σ ∧ Abs K al S H ∧ FinI K (fun c od => W c od σ) al H (m env S) R
abbrev SI (X : Cx) (W : WX) (tg iter : Expr) (m : MI) : Prop := PI X tg iter (rdI X.K W m)
theorem _root_.L2.PI.le {X : Cx} {tg e : Expr} {t t' : TI} (h : PI X tg e t') (l : ∀ σ H Q, t σ H Q → t' σ H Q) : PI X tg e t := ⟨fun pins s σ H Q I q => h.run pins s σ H Q I (l _ _ _ q)⟩
/-- a tuple, a list -/
def iSeq1 (m : ME) : MI := fun env S => (m env S).bind fun d S1 => match d with
  | .tup ds => .ok ⟨ds, none⟩ S1
  | .lst ds => .ok ⟨ds, none⟩ S1
  | .scr ns => .ok ⟨ns.map D.int, none⟩ S1
  | .obj n => match S1[n]? with
    | some (.lst ds) => .ok ⟨ds, some n⟩ S1
    | _ => .fail
  | _ => .fail
def iSq (K : PySem.W.Frag) (tl : TE) : TI := fun σ H R => tl σ H fun x H1 => ∃ a, x = .ref a ∧ (((∃ xs, SqL K H1 a xs) ∧ R (Itl K a) H1) ∨ ((∃ xs, SqT K H1 a xs) ∧ R (Itt K a) H1))
section
variable {X : Cx} {W : WX} {tg : Expr}
theorem pi_sq {l : Expr} {tl : TE} (hl : PE X l tl) : PI X tg l (iSq X.K tl) := by
  refine ⟨fun pins s σ H R I h => ?_⟩
  refine thn (hl.run pins s σ H _ I h) fun v s1 ⟨x, H1, I1, r1, q1⟩ => ?_
  obtain ⟨a, e, q⟩ := q1
  subst e
  cases r1
  rcases q with ⟨⟨xs, hq⟩, q⟩ | ⟨⟨xs, hq⟩, q⟩
  · obtain ⟨its, rv, p, hz⟩ := I1.list hq
    refine wpAny_pyIter_list p.isList ?_
    refine ⟨s1.heap.objs.size, [s1.heap.objs.size], _, _, H1, rfl, I1.kept (t' := s1.toks) fun b o e => Heap.get?_push_of_some _ e, turn_list a _, ⟨_, Heap.get?_push_size _ rfl, rfl, rfl⟩, fun b hb => ?_, q⟩
    have e : b = s1.heap.objs.size := by simpa using hb
    subst e
    exact I1.fpOk (Nat.le_refl _) (I1.hok.fresh (Nat.le_refl _))
  · obtain ⟨its, rv, p, hz⟩ := I1.tuple hq
    refine wpAny_pyIter_tuple (show s1.heap.IsTuple a its.toArray from p) ?_
    refine ⟨s1.heap.objs.size, [s1.heap.objs.size], _, _, H1, rfl, I1.kept (t' := s1.toks) fun b o e => Heap.get?_push_of_some _ e, turn_tuple a _, ⟨_, Heap.get?_push_size _ rfl, rfl, rfl⟩, fun b hb => ?_, q⟩
    have e : b = s1.heap.objs.size := by simpa using hb
    subst e
    exact I1.fpOk (Nat.le_refl _) (I1.hok.fresh (Nat.le_refl _))
theorem jok_tup {K : PySem.W.Frag} {al : Al} {H : Hp} {a : Addr} {vs : List V} {ds : List D} (t : TupAt K al H a vs) (rs : Reps K al H ds vs) : JOk K al H (Itt K a) ⟨ds, none⟩ := by
  intro al' H' S' e ab _ i
  have t' := (e.tup t).sq
  have rs' := rs.wk e
  refine ⟨fun h => ⟨vs, t', by rw [rs.len]; exact h⟩, fun h => ?_⟩
  obtain ⟨v, ev, rv⟩ := rs'.get (List.getElem?_eq_getElem h)
  refine ⟨⟨vs, v, t', ev⟩, fun x H2 y => ?_⟩
  obtain ⟨rfl, y⟩ := y
  have := y vs t'
  rw [ev] at this; cases this
  exact ⟨_, List.getElem?_eq_getElem h, Ext.refl, ab, rv⟩
theorem jok_lst {K : PySem.W.Frag} {al : Al} {H : Hp} {a : Addr} {vs : List V} {ds : List D} {ob : Option Nat}
    (hs : ∀ al' H' S', Wk al al' H H' → Abs K al' S' H' → Src.Chk ⟨ds, ob⟩ S' → ∃ vs, SqL K H' a vs ∧ Reps K al' H' ds vs) : JOk K al H (Itl K a) ⟨ds, ob⟩ := by
  intro al' H' S' e ab hc i
  obtain ⟨vs, t', rs'⟩ := hs al' H' S' e ab hc
  refine ⟨fun h => ⟨vs, t', by rw [rs'.len]; exact h⟩, fun h => ?_⟩
  obtain ⟨v, ev, rv⟩ := rs'.get (List.getElem?_eq_getElem h)
  refine ⟨⟨vs, v, t', ev⟩, fun x H2 y => ?_⟩
  obtain ⟨rfl, y⟩ := y
  have := y vs t'
  rw [ev] at this; cases this
  exact ⟨_, List.getElem?_eq_getElem h, Ext.refl, ab, rv⟩
theorem ScrAt.mono {K : PySem.W.Frag} {al al' : Al} {H H' : Hp} {a : Addr} {vs : List V} (e : Wk al al' H H') (t : ScrAt K al H a vs) : ScrAt K al' H' a vs := by
  rcases t with ⟨q, n⟩ | q
  · exact .inl (e.rd q n)
  · exact .inr q
theorem si_seq {l : Expr} {m : ME} (hl : SE X W l m) : SI X W tg l (iSeq1 m) := (pi_sq hl).le fun σ H R q => by
  obtain ⟨al, S, env, er, ab, q⟩ := q
  refine ⟨al, S, env, er, ab, (FinG.bind q).imp fun x H1 ⟨al1, S1, d, e1, a1, g1, q1⟩ => ?_⟩
  cases d with
  | tup ds =>
    obtain ⟨p, vs, rfl, t, rs⟩ := g1
    exact ⟨p, rfl, .inr ⟨⟨vs, t.sq⟩, q1.ok_self a1 (jok_tup t rs)⟩⟩
  | lst ds =>
    obtain ⟨p, vs, rfl, t, rs⟩ := g1
    refine ⟨p, rfl, .inl ⟨⟨vs, t.sq⟩, q1.ok_self a1 (jok_lst (vs := vs) fun al' H' S' e ab _ => ⟨vs, .inl (.inl (e.fr _ _ t.1 t.2).1), rs.wk e⟩)⟩⟩
  | scr ns =>
    obtain ⟨p, rfl, t⟩ := g1
    refine ⟨p, rfl, .inl ⟨⟨_, t.sq⟩, q1.ok_self a1 (jok_lst (vs := ns.map V.int) fun al' H' S' e ab _ => ⟨_, (t.mono e).sq, reps_ints ns⟩)⟩⟩
  | obj n =>
    obtain ⟨p, rfl, hn⟩ := g1
    simp only at q1
    cases e2 : S1[n]? with
    | none => rw [e2] at q1; exact q1.elim
    | some o1 =>
      cases o1 with
      | lst ds =>
        rw [e2] at q1
        obtain ⟨vs, h1, _⟩ := a1.obj n p _ hn e2
        refine ⟨p, rfl, .inl ⟨⟨vs, .inl (.inl h1)⟩, q1.ok_self a1 (jok_lst (vs := vs) fun al' H' S' e ab hc => ?_)⟩⟩
        obtain ⟨vs', h3, r3⟩ := ab.obj n p _ (e.get hn) hc
        exact ⟨vs', .inl (.inl h3), r3⟩
      | _ => rw [e2] at q1; exact q1.elim
  | _ => exact q1.elim
/-- range -/
def rangeD (lo : Int) (n : Nat) : List D := (List.range n).map fun (i : Nat) => D.int (lo + (i : Int))
structure SmallR (j : Int) : Prop where
  lo : -(2 ^ 62) ≤ j
  hi : j < 2 ^ 62
theorem jok_range {K : PySem.W.Frag} {al : Al} {H : Hp} {lo : Int} {n : Nat} : JOk K al H (Itr lo n) ⟨rangeD lo n, none⟩ := by
  intro al' H' S' e ab _ i
  have hl : (rangeD lo n).length = n := by simp [rangeD]
  refine ⟨fun h => by rw [hl] at h; exact h, fun h => ?_⟩
  rw [hl] at h
  refine ⟨h, fun x H2 y => ?_⟩
  obtain ⟨rfl, rfl⟩ := y
  exact ⟨.int (lo + i), by simp [rangeD, h], Ext.refl, ab, rfl⟩
open Classical in
noncomputable def iRange1 (t : MA) : MI := fun env S => (t env S).bind fun ds S1 => match ds with
  | [.int j] => if SmallR j then .ok ⟨rangeD 0 j.toNat, none⟩ S1 else .fail
  | _ => .fail
open Classical in
noncomputable def iRange2 (t : MA) : MI := fun env S => (t env S).bind fun ds S1 => match ds with
  | [.int i, .int j] => if SmallR i ∧ SmallR j then .ok ⟨rangeD i (j - i).toNat, none⟩ S1 else .fail
  | _ => .fail
theorem si_range1 {a : Expr} {t : MA} {p pos : Pos} (hg : Gl X "range") (hm : X.mg "range" = none) (ha : SA X W [a] t) (hs : starEach [a] X.env = [(false, eval a X.env)] := by rfl) : SI X W tg (.Call (.Name "range" p) [a] [] pos) (iRange1 t) :=
  (pi_range1 hg hm ha hs).le fun σ H R q => by
    obtain ⟨al, S, env, er, ab, q⟩ := q
    refine ⟨al, S, env, er, ab, (FinG.bind q).imp fun vs H1 ⟨al1, S1, ds, e1, a1, g1, q1⟩ => ?_⟩
    cases ds with
    | nil => exact q1.elim
    | cons d ds =>
      cases ds with
      | cons _ _ => cases d <;> exact q1.elim
      | nil =>
        cases d with
        | int j =>
          obtain ⟨v, rfl, rv⟩ := reps_one g1
          cases (show v = _ from rv)
          simp only at q1
          by_cases hj : SmallR j
          · rw [if_pos hj] at q1
            exact ⟨j, rfl, hj.lo, hj.hi, q1.ok_self a1 jok_range⟩
          · rw [if_neg hj] at q1; exact q1.elim
        | _ => exact q1.elim
theorem si_range2 {a b : Expr} {t : MA} {p pos : Pos} (hg : Gl X "range") (hm : X.mg "range" = none) (ha : SA X W [a, b] t) (hs : starEach [a, b] X.env = [(false, eval a X.env), (false, eval b X.env)] := by rfl) (hs2 : starEach [b] X.env = [(false, eval b X.env)] := by rfl) :
    SI X W tg (.Call (.Name "range" p) [a, b] [] pos) (iRange2 t) :=
  (pi_range2 hg hm ha hs hs2).le fun σ H R q => by
    obtain ⟨al, S, env, er, ab, q⟩ := q
    refine ⟨al, S, env, er, ab, (FinG.bind q).imp fun vs H1 ⟨al1, S1, ds, e1, a1, g1, q1⟩ => ?_⟩
    cases ds with
    | nil => exact q1.elim
    | cons d ds =>
      cases ds with
      | nil => cases d <;> exact q1.elim
      | cons d' ds =>
        cases ds with
        | cons _ _ => cases d <;> cases d' <;> exact q1.elim
        | nil =>
          cases d with
          | int i =>
            cases d' with
            | int j =>
              obtain ⟨v, w, rfl, rv, rw'⟩ := reps_two g1
              cases (show v = _ from rv)
              cases (show w = _ from rw')
              simp only at q1
              by_cases hj : SmallR i ∧ SmallR j
              · rw [if_pos hj] at q1
                exact ⟨i, j, rfl, ⟨hj.1.lo, hj.1.hi, hj.2.lo, hj.2.hi⟩, q1.ok_self a1 jok_range⟩
              · rw [if_neg hj] at q1; exact q1.elim
            | _ => exact q1.elim
          | _ => exact q1.elim
end

/-! ### for -/
open Classical in
noncomputable def forL (s : Src) (T : Tg) (body : MS) : List D → Env1 → List O → RS
  | [], env, S => if s.Chk S then .nx env S else .fail
  | d :: ds, env, S => if s.Chk S then (match asg T d env with
      | none => .fail
      | some env1 => match body env1 S with
        | .nx env2 S2 => forL s T body ds env2 S2
        | .ct env2 S2 => forL s T body ds env2 S2
        | .bk env2 S2 => .nx env2 S2
        | r => r) else .fail
noncomputable def sFor (mi : MI) (T : Tg) (body : MS) : MS := fun env S => (mi env S).bindS env fun s S1 => forL s T body s.ds env S1
theorem forL_chk {s : Src} {T : Tg} {body : MS} {ds : List D} {env : Env1} {S : List O} {K : PySem.W.Frag} {W : WX} {al : Al} {H : Hp} {D : Ends} (q : FinS K W al H (forL s T body ds env S) D) : s.Chk S := by
  cases ds with
  | nil =>
    unfold forL at q
    split at q
    · assumption
    · exact q.elim
  | cons d ds =>
    unfold forL at q
    split at q
    · assumption
    · exact q.elim
theorem ss_for {X : Cx} {W : WX} {tg iter : Expr} {body : List Stmt} {mi : MI} {T : Tg} {mb : MS} {pos : Pos} (hp : PassesOwn (model X.prog X.w) X.A X.env X.xe) (hi : SI X W tg iter mi) (hg : SG X tg T) (hb : SSs X W body mb)
    (hc : X.calm = true := by rfl) (hs : ∀ x, foldedSetIterable iter X.env x = pure x := by intro _; rfl) : SS X W (.For tg iter body [] pos) (sFor mi T mb) := (ps_for hp hc hi hg hb hs).le fun D σ H q => by
  obtain ⟨al, S, env, er, ab, q⟩ := q
  refine ⟨al, S, env, er, ab, (FinS.bindE er q).imp fun J H1 ⟨al1, S1, s, e1, a1, jo, er1, q1⟩ => ?_⟩
  refine ⟨fun i m σ2 H2 => m = s.ds.length - i ∧ ∃ al2 S2 env2, Ext al1 al2 H1 H2 ∧ EnvR X.K al2 H2 env2 σ2 ∧ Abs X.K al2 S2 H2 ∧ FinS X.K W al2 H2 (forL s T mb (s.ds.drop i) env2 S2) D,
    ⟨_, rfl, al1, S1, env, Ext.refl, er1, a1, q1⟩, fun i m σ2 H2 hW => ?_⟩
  obtain ⟨rfl, al2, S2, env2, e2, er2, a2, q2⟩ := hW
  have hchk := forL_chk q2
  obtain ⟨js, jg⟩ := jo al2 H2 S2 e2.wk a2 hchk i
  by_cases hl : i < s.ds.length
  · obtain ⟨go, hy⟩ := jg hl
    refine .inr ⟨go, fun σ3 H3 => ∃ al3 S3 env3, Ext al1 al3 H1 H3 ∧ EnvR X.K al3 H3 env3 σ3 ∧ Abs X.K al3 S3 H3 ∧ FinS X.K W al3 H3 (forL s T mb (s.ds.drop (i + 1)) env3 S3) D,
      fun σ3 H3 h => ⟨_, by omega, rfl, h⟩, fun x H3 y => ?_⟩
    obtain ⟨d, ed, e3, a3, rd⟩ := hy x H3 y
    rw [List.drop_eq_getElem_cons hl] at q2
    have : s.ds[i] = d := by
      rw [List.getElem?_eq_getElem hl] at ed
      exact Option.some.inj ed
    rw [this] at q2
    unfold forL at q2
    rw [if_pos hchk] at q2
    cases ea : asg T d env2 with
    | none => rw [ea] at q2; exact q2.elim
    | some env3 =>
      rw [ea] at q2
      simp only at q2
      refine gOf_ok T rd (er2.mono e3) ea fun σ4 er4 _ => ⟨al2, S2, env3, er4, a3, ?_⟩
      have q3 := FinS.mono e3 q2
      have e5 := e2.trans e3
      revert q3
      cases mb env3 S2 with
      | nx env5 S5 => exact fun q3 al5 H5 σ5 e6 a6 er6 => ⟨al5, S5, env5, e5.trans e6, er6, a6, FinS.mono e6 q3⟩
      | ct env5 S5 => exact fun q3 al5 H5 σ5 e6 a6 er6 => ⟨al5, S5, env5, e5.trans e6, er6, a6, FinS.mono e6 q3⟩
      | bk env5 S5 => exact fun q3 => q3
      | rt d5 S5 => exact fun q3 => q3
      | err x5 env5 S5 => exact fun q3 => q3
      | fail => exact fun q3 => q3
  · refine .inl ⟨js (by omega), ?_⟩
    rw [List.drop_eq_nil_of_le (by omega)] at q2
    unfold forL at q2
    rw [if_pos hchk] at q2
    exact q2 al2 H2 σ2 Ext.refl a2 er2

/-! ### while -/
def whileL (t : MT) (body : MS) : Nat → Env1 → List O → RS
  | 0, _, _ => .fail
  | n + 1, env, S => (t env S).bindS env fun k S1 => match k with
    | false => .nx env S1
    | true => match body env S1 with
      | .nx env2 S2 => whileL t body n env2 S2
      | .ct env2 S2 => whileL t body n env2 S2
      | .bk env2 S2 => .nx env2 S2
      | r => r
def sWhile (fuel : Nat) (t : MT) (body : MS) : MS := fun env S => whileL t body fuel env S
theorem ss_while {X : Cx} {W : WX} {c : Expr} {body : List Stmt} {mt : MT} {mb : MS} {pos : Pos} (fuel : Nat) (hp : PassesOwn (model X.prog X.w) X.A X.env X.xe) (ht : ST X W c mt) (hb : SSs X W body mb) : SS X W (.While c body [] pos) (sWhile fuel mt mb) :=
  (ps_while hp ht hb).le fun D σ H q => by
    refine ⟨fun m σ2 H2 => ∃ al2 S2 env2, EnvR X.K al2 H2 env2 σ2 ∧ Abs X.K al2 S2 H2 ∧ FinS X.K W al2 H2 (whileL mt mb m env2 S2) D, ⟨fuel, q⟩, fun m σ2 H2 hW => ?_⟩
    obtain ⟨al2, S2, env2, er2, a2, q2⟩ := hW
    cases m with
    | zero => exact q2.elim
    | succ n =>
      unfold whileL at q2
      refine ⟨al2, S2, env2, er2, a2, (FinS.bindE er2 q2).imp fun b H3 ⟨al3, S3, k, e3, a3, g3, er3, q3⟩ => ?_⟩
      subst g3
      cases k with
      | false => rw [if_neg Bool.false_ne_true]; exact q3 al3 H3 σ2 Ext.refl a3 er3
      | true =>
        rw [if_pos rfl]
        refine ⟨fun σ4 H4 => ∃ al4 S4 env4, EnvR X.K al4 H4 env4 σ4 ∧ Abs X.K al4 S4 H4 ∧ FinS X.K W al4 H4 (whileL mt mb n env4 S4) D, fun σ' H' h => ⟨n, by omega, h⟩, al3, S3, env2, er3, a3, ?_⟩
        revert q3
        cases mb env2 S3 with
        | nx env5 S5 => exact fun q3 al5 H5 σ5 e6 a6 er6 => ⟨al5, S5, env5, er6, a6, FinS.mono e6 q3⟩
        | ct env5 S5 => exact fun q3 al5 H5 σ5 e6 a6 er6 => ⟨al5, S5, env5, er6, a6, FinS.mono e6 q3⟩
        | bk env5 S5 => exact fun q3 => q3
        | rt d5 S5 => exact fun q3 => q3
        | err x5 env5 S5 => exact fun q3 => q3
        | fail => exact fun q3 => q3
end Fu

namespace Fu
open PySem PySem.Spec PyProof.Rows L2

/-! ### an object hidden for a while -/
def Al.hide (al : Al) (p : Addr) : Al := ⟨al.tr, p :: al.ex⟩
section
variable {K : PySem.W.Frag} {al al' : Al} {H H' : Hp} {S : List O} {p : Addr} {o : HO}
theorem hide_wk (n : H p = none) : Wk al (al.hide p) H (upd H p o) := ⟨⟨[], by simp [Al.hide]⟩, fun b u h nb => by
  have hb : b ≠ p := ne_of_none h n
  refine ⟨by rw [upd_ne hb]; exact h, ?_⟩
  rw [notin_al] at nb ⊢
  exact ⟨nb.1, fun z => (List.mem_cons.mp z).elim hb nb.2⟩⟩
theorem ORep.wk (e : Wk al al' H H') {a : Addr} {u : O} (h : ORep K al H a u) (q : H' a = H a) : ORep K al' H' a u := by
  cases u with
  | lst ds => obtain ⟨vs, h1, h2⟩ := h; exact ⟨vs, q.trans h1, h2.wk e⟩
  | ins C ns ds => obtain ⟨dx, fs, h1, h2, h3⟩ := h; exact ⟨dx, fs, q.trans h1, h2, h3.wk e⟩
  | dic ks ds => obtain ⟨kvs, h1, h2, h3⟩ := h; exact ⟨kvs, q.trans h1, h2, h3.wk e⟩
theorem hide_abs (a : Abs K al S H) (n : H p = none) : Abs K (al.hide p) S (upd H p o) := by
  refine ⟨a.len, a.nd, fun q hq => ?_, fun q hq z => (List.mem_cons.mp z).elim (fun z => a.notin n (.inl (by rw [← z]; exact hq))) (a.dj q hq), fun k b u h1 h2 => (a.obj k b u h1 h2).wk (hide_wk n) ?_⟩
  · rcases List.mem_cons.mp hq with e | hq
    · rw [e, upd_same]; exact ⟨_, rfl⟩
    · exact hid_upd a.hid q hq
  · have : b ≠ p := fun z => a.notin n (.inl (z ▸ List.mem_of_getElem? h1))
    rw [upd_ne this]
theorem unhide_wk {ex : List Addr} (h : ∃ p, al.ex = p :: ex) : Wk al ⟨al.tr, ex⟩ H H := ⟨⟨[], by simp⟩, fun b u hb nb => by
  obtain ⟨p, e⟩ := h
  rw [notin_al, e] at nb
  exact ⟨hb, notin_al.mpr ⟨nb.1, fun z => nb.2 (List.mem_cons_of_mem _ z)⟩⟩⟩
theorem unhide_abs {ex : List Addr} (h : ∃ p, al.ex = p :: ex) (a : Abs K al S H) : Abs K ⟨al.tr, ex⟩ S H := by
  refine ⟨a.len, a.nd, fun q hq => ?_, fun q hq z => ?_, fun k b u h1 h2 => (a.obj k b u h1 h2).wk (unhide_wk h) rfl⟩
  · obtain ⟨p, e⟩ := h
    exact a.hid q (by rw [e]; exact List.mem_cons_of_mem _ hq)
  · obtain ⟨p, e⟩ := h
    exact a.dj q hq (by rw [e]; exact List.mem_cons_of_mem _ z)
/-- the hidden object changes -/
theorem hid_wk (hp : p ∈ al.ex) : Wk al al H (upd H p o) := ⟨⟨[], by simp⟩, fun b u h nb => by
  refine ⟨?_, nb⟩
  rw [upd_ne (fun z => (notin_al.mp nb).2 (by rw [z]; exact hp))]; exact h⟩
theorem hid_abs (a : Abs K al S H) (hp : p ∈ al.ex) : Abs K al S (upd H p o) := by
  refine ⟨a.len, a.nd, hid_upd a.hid, a.dj, fun k b u h1 h2 => (a.obj k b u h1 h2).wk (hid_wk hp) ?_⟩
  rw [upd_ne (fun z => a.dj b (List.mem_of_getElem? h1) (by rw [z]; exact hp))]
/-- seen from outside -/
theorem out_step {al1 al2 al5 : Al} {H1 H2 H5 : Hp} (out : Ext al1 ⟨al2.tr, al1.ex⟩ H1 H2) (hx : al2.ex = p :: al1.ex) (n : H1 p = none) (e : Ext al2 al5 H2 H5) : Ext al1 ⟨al5.tr, al1.ex⟩ H1 H5 where
  pre := by
    obtain ⟨r, h1⟩ := out.pre
    obtain ⟨r', h2⟩ := e.pre
    exact ⟨r ++ r', by simp only at h1 ⊢; rw [h2, h1]; simp⟩
  ex := rfl
  new := fun q hq nq => by
    by_cases h : q ∈ al2.tr
    · exact out.new q h nq
    · obtain ⟨h1, h2⟩ := e.new q hq h
      rw [hx] at h2
      have h3 : q ∉ al1.ex := fun z => h2 (List.mem_cons_of_mem _ z)
      refine ⟨?_, h3⟩
      cases h4 : H1 q with
      | none => rfl
      | some o =>
        have := out.fr q o h4 (notin_al.mpr ⟨nq, h3⟩)
        rw [h1] at this; cases this
  fr := fun b o h nb => by
    have hb : b ≠ p := ne_of_none h n
    refine e.fr b o (out.fr b o h nb) ?_
    have := out.notin h nb
    rw [notin_al] at this ⊢
    refine ⟨this.1, ?_⟩
    rw [hx]
    exact fun z => (List.mem_cons.mp z).elim hb this.2
  hd := fun b o h hb => e.hd b o (out.hd b o h hb) (by rw [hx]; exact List.mem_cons_of_mem _ hb)
theorem out_upd {al1 al2 : Al} {H1 H2 : Hp} (out : Ext al1 ⟨al2.tr, al1.ex⟩ H1 H2) (n : H1 p = none) : Ext al1 ⟨al2.tr, al1.ex⟩ H1 (upd H2 p o) :=
  ⟨out.pre, rfl, out.new, fun b u h nb => by rw [upd_ne (ne_of_none h n)]; exact out.fr b u h nb, fun b u h nb => by rw [upd_ne (ne_of_none h n)]; exact out.hd b u h nb⟩
end

/-! ### list comprehensions -/
def wipeE (env : Env1) : List Nat → Env1
  | [] => env
  | v :: vs => (wipeE env vs).set v none
theorem wipe_envR {K : PySem.W.Frag} {al : Al} {H : Hp} {env : Env1} {σ : L2.St} (er : EnvR K al H env σ) : ∀ vs : List Nat, EnvR K al H (wipeE env vs) (wipe σ vs)
  | [] => er
  | v :: vs => by
    have ih := wipe_envR er vs
    refine ⟨by simp only [wipeE, wipe, List.length_set]; exact ih.len, fun i d h => ?_⟩
    by_cases hi : v = i
    · subst hi
      simp only [wipeE] at h
      by_cases hl : v < (wipeE env vs).length
      · rw [List.getElem?_set_self hl] at h; cases h
      · rw [List.getElem?_eq_none (by rw [List.length_set]; omega)] at h; cases h
    · simp only [wipeE, wipe] at h ⊢
      rw [List.getElem?_set_ne hi] at h ⊢
      exact ih.get i d h
open Classical in
noncomputable def compL (s : Src) (T : Tg) (ts : MT) (elt : ME) (envw : Env1) : List D → List O → List D → R (List D)
  | [], S, acc => if s.Chk S then .ok acc S else .fail
  | d :: ds, S, acc => if s.Chk S then (match asg T d envw with
      | none => .fail
      | some env1 => match ts env1 S with
        | .ok true S1 => (match elt env1 S1 with
          | .ok y S2 => if acc.length < LIM then compL s T ts elt envw ds S2 (acc ++ [y]) else .fail
          | _ => .fail)
        | .ok false S1 => compL s T ts elt envw ds S1 acc
        | _ => .fail) else .fail
noncomputable def eComp (vs : List Nat) (mi : MI) (T : Tg) (ts : MT) (elt : ME) : ME := fun env S => (mi env S).bind fun s S1 => (compL s T ts elt (wipeE env vs) s.ds S1 []).bind fun acc S2 => .ok (.lst acc) S2
/-- .. a list that may change -/
noncomputable def eCompO (vs : List Nat) (mi : MI) (T : Tg) (ts : MT) (elt : ME) : ME := fun env S => (mi env S).bind fun s S1 => (compL s T ts elt (wipeE env vs) s.ds S1 []).bind fun acc S2 => .ok (.obj S2.length) (S2 ++ [.lst acc])
theorem wipe_out {us : List Nat} {j : Nat} (hj : j ∉ us) : ∀ (τ : L2.St), (wipe τ us)[j]? = τ[j]? := by
  induction us with
  | nil => intro τ; rfl
  | cons v us ih2 =>
    intro τ
    simp only [wipe]
    rw [List.getElem?_set_ne (fun z => hj (by rw [z]; exact List.mem_cons_self))]
    exact ih2 (fun z => hj (List.mem_cons_of_mem _ z)) τ
theorem wipe_in {us : List Nat} {j : Nat} (hj : j ∈ us) : ∀ (τ : L2.St), j < τ.length → (wipe τ us)[j]? = some none := by
  induction us with
  | nil => cases hj
  | cons v us ih2 =>
    intro τ hlt
    simp only [wipe]
    by_cases hv : v = j
    · subst hv; rw [List.getElem?_set_self (by rw [wipe_length]; exact hlt)]
    · rw [List.getElem?_set_ne hv]
      exact ih2 ((List.mem_cons.mp hj).elim (fun z => absurd z.symm hv) id) τ hlt
theorem wipe_eq {us : List Nat} {τ τ' : L2.St} (hl : τ.length = τ'.length) (h : ∀ j, j ∉ us → τ[j]? = τ'[j]?) : wipe τ us = wipe τ' us := by
  refine List.ext_getElem? fun j => ?_
  by_cases hm : j ∈ us
  · by_cases hlt : j < τ.length
    · rw [wipe_in hm τ hlt, wipe_in hm τ' (by omega)]
    · rw [List.getElem?_eq_none (by rw [wipe_length]; omega), List.getElem?_eq_none (by rw [wipe_length]; omega)]
  · rw [wipe_out hm, wipe_out hm]
    exact h j hm
abbrev WF : WX := fun _ _ _ _ => False
theorem compL_chk {s : Src} {T : Tg} {ts : MT} {elt : ME} {envw : Env1} {ds : List D} {S S' : List O} {acc acc' : List D} (q : compL s T ts elt envw ds S acc = .ok acc' S') : s.Chk S := by
  cases ds with
  | nil => unfold compL at q; split at q <;> first | assumption | cases q
  | cons d ds => unfold compL at q; split at q <;> first | assumption | cases q
theorem comp_ok {K : PySem.W.Frag} {J : It} {s : Src} {T : Tg} {ts : MT} {elt : ME} {vs : List Nat} {σ : L2.St} {env : Env1} {al1 : Al} {S1 SF : List O} {H1 : Hp} {accF : List D} {Q : VK} (hT : ∀ j ∈ T.sl, j ∈ vs)
    (jo : JOk K al1 H1 J s) (er : EnvR K al1 H1 env σ) (a1 : Abs K al1 S1 H1) (hc : compL s T ts elt (wipeE env vs) s.ds S1 [] = .ok accF SF)
    (hQ : ∀ D, H1 D = none → ∀ (al2 : Al) H2 accV, Ext al1 ⟨al2.tr, al1.ex⟩ H1 H2 → al2.ex = D :: al1.ex → Abs K al2 SF H2 → Reps K al2 H2 accF accV → H2 D = some (.lst accV) → Q (.ref D) H2) :
    ∀ D, H1 D = none → ∃ W : Nat → Nat → Hp → Prop, (∃ m, W 0 m (upd H1 D (.lst []))) ∧ ∀ i m H, W i m H →
      (J.stop i H ∧ Q (.ref D) H) ∨ (J.go i H ∧ ∃ Nx : Hp → Prop, (∀ H', Nx H' → ∃ m', m' < m ∧ W (i + 1) m' H') ∧ ∀ x H', J.yld i H x H' → gOf K T x (wipe σ vs) H' fun σ2 H2 => wipe σ2 vs = wipe σ vs ∧ rdT K WF ts σ2 H2 fun b H3 =>
        if b = true then rdE K WF elt σ2 H3 fun y H4 => ∃ acc, H4 D = some (.lst acc) ∧ acc.length < sizeLine ∧ Nx (upd H4 D (.lst (acc ++ [y]))) else Nx H3) := by
  intro D n
  have nD := a1.notin n
  have jo2 : JOk K (al1.hide D) (upd H1 D (.lst [])) J s := jo.wk (hide_wk n)
  have er2 : EnvR K (al1.hide D) (upd H1 D (.lst [])) env σ := er.wk (hide_wk n)
  let I : Nat → Hp → Prop := fun i H2 => ∃ al2 S2 acc accV, Wk (al1.hide D) al2 (upd H1 D (.lst [])) H2 ∧ Ext al1 ⟨al2.tr, al1.ex⟩ H1 H2 ∧ al2.ex = D :: al1.ex ∧ Abs K al2 S2 H2 ∧ H2 D = some (.lst accV) ∧ Reps K al2 H2 acc accV ∧
    compL s T ts elt (wipeE env vs) (s.ds.drop i) S2 acc = .ok accF SF
  have out0 : Ext al1 ⟨(al1.hide D).tr, al1.ex⟩ H1 (upd H1 D (.lst [])) := out_upd (al2 := al1) (H2 := H1) Ext.refl n
  refine ⟨fun i m H2 => m = s.ds.length - i ∧ I i H2, ⟨_, rfl, al1.hide D, S1, [], [], Ext.refl.wk, out0, rfl, hide_abs a1 n, upd_same, rfl, hc⟩, fun i m H2 hW => ?_⟩
  obtain ⟨rfl, al2, S2, acc, accV, w2, out, hx, a2, hD, ra, q2⟩ := hW
  have hchk := compL_chk q2
  obtain ⟨js, jg⟩ := jo2 al2 H2 S2 w2 a2 hchk i
  have exD : D ∈ al2.ex := by rw [hx]; exact List.mem_cons_self
  by_cases hl : i < s.ds.length
  · obtain ⟨go, hy⟩ := jg hl
    refine .inr ⟨go, I (i + 1), fun H3 h => ⟨_, by omega, rfl, h⟩, fun x H3 y => ?_⟩
    obtain ⟨d, ed, e3, a3, rd⟩ := hy x H3 y
    rw [List.drop_eq_getElem_cons hl] at q2
    have : s.ds[i] = d := by
      rw [List.getElem?_eq_getElem hl] at ed
      exact Option.some.inj ed
    rw [this] at q2
    unfold compL at q2
    rw [if_pos hchk] at q2
    cases ea : asg T d (wipeE env vs) with
    | none => rw [ea] at q2; cases q2
    | some env1 =>
      rw [ea] at q2
      simp only at q2
      refine gOf_ok T rd (wipe_envR (er2.wk (w2.trans e3.wk)) vs) ea fun σ4 er4 kp => ⟨?_, ?_⟩
      · rw [wipe_eq (τ' := wipe σ vs) kp.1 fun j hj => kp.2 j fun z => hj (hT j z)]
        exact wipe_eq (wipe_length σ vs) fun j hj => wipe_out hj σ
      · cases et : ts env1 S2 with
        | fail => rw [et] at q2; cases q2
        | err x S => rw [et] at q2; cases q2
        | ok b S3 =>
          rw [et] at q2
          refine ⟨al2, S2, env1, er4, a3, ?_⟩
          rw [et]
          intro al4 H4 b' e4 a4 eb
          subst eb
          have e34 := e3.trans e4
          have hx4 : al4.ex = D :: al1.ex := e34.ex.trans hx
          cases b with
          | false =>
            rw [if_neg Bool.false_ne_true]
            exact ⟨al4, S3, acc, accV, w2.trans e34.wk, out_step out hx n e34, hx4, a4, e34.hd _ _ hD exD, ra.mono e34, q2⟩
          | true =>
            rw [if_pos rfl]
            simp only at q2
            cases ee : elt env1 S3 with
            | fail => rw [ee] at q2; cases q2
            | err x S => rw [ee] at q2; cases q2
            | ok y S4 =>
              rw [ee] at q2
              simp only at q2
              by_cases hlen : acc.length < LIM
              · rw [if_pos hlen] at q2
                refine ⟨al4, S3, env1, er4.mono e4, a4, ?_⟩
                rw [ee]
                intro al5 H5 v e5 a5 rv
                have e35 := e34.trans e5
                have hx5 : al5.ex = D :: al1.ex := e35.ex.trans hx
                have exD5 : D ∈ al5.ex := by rw [hx5]; exact List.mem_cons_self
                have w5 := hid_wk (H := H5) (o := .lst (accV ++ [v])) exD5
                exact ⟨accV, e35.hd _ _ hD exD, Nat.lt_of_lt_of_le (by rw [ra.len]; exact hlen) lim_line, al5, S4, acc ++ [y], accV ++ [v], (w2.trans e35.wk).trans w5,
                  out_upd (out_step out hx n e35) n, hx5, hid_abs a5 exD5, upd_same, ((ra.mono e35).append (show Reps K al5 H5 [y] [v] from ⟨v, [], rfl, rv, rfl⟩)).wk w5, q2⟩
              · rw [if_neg hlen] at q2; cases q2
  · rw [List.drop_eq_nil_of_le (by omega)] at q2
    unfold compL at q2
    rw [if_pos hchk] at q2
    injection q2 with q3 q4
    subst q3 q4
    refine .inl ⟨js (by omega), ?_⟩
    exact hQ D n al2 H2 accV out hx a2 ra hD
abbrev STs (X : Cx) (W : WX) (ifs : List Expr) (m : MT) : Prop := PTs X ifs (rdT X.K W m)
theorem _root_.L2.PTs.le {X : Cx} {e : List Expr} {t t' : TT} (h : PTs X e t') (l : ∀ σ H Q, t σ H Q → t' σ H Q) : PTs X e t := ⟨fun pins s σ H Q I q => h.run pins s σ H Q I (l _ _ _ q)⟩
def tYes1 : MT := fun _ S => .ok true S
section
variable {X : Cx} {W : WX} {pos : Pos}
theorem sts_nil : STs X W [] tYes1 := pts_nil.le fun σ H Q q => by
  obtain ⟨al, S, env, er, ab, q⟩ := q
  exact q.ok_self ab rfl
theorem sts_one {c : Expr} {m : MT} (h : ST X W c m) : STs X W [c] m := pts_one h
theorem comp_frz {K : PySem.W.Frag} {al1 al2 : Al} {S : List O} {H1 H2 : Hp} {D : Addr} {ds : List Fu.D} {vs : List V} (n : H1 D = none) (a1 : D ∉ al1) (hx : al2.ex = D :: al1.ex) (a : Abs K al2 S H2) (r : Reps K al2 H2 ds vs) (h : H2 D = some (.lst vs)) :
    Abs K ⟨al2.tr, al1.ex⟩ S H2 ∧ Rep K ⟨al2.tr, al1.ex⟩ H2 (.lst ds) (.ref D) := by
  have hex : ∃ p, al2.ex = p :: al1.ex := ⟨D, hx⟩
  have exD : D ∈ al2.ex := by rw [hx]; exact List.mem_cons_self
  exact ⟨unhide_abs hex a, D, vs, rfl, ⟨h, notin_al.mpr ⟨fun z => a.dj D z exD, (notin_al.mp a1).2⟩⟩, r.wk (unhide_wk hex)⟩
/-- a new list becomes a tracked one -/
theorem comp_trk {K : PySem.W.Frag} {al1 al2 : Al} {S : List O} {H1 H2 : Hp} {D : Addr} {ds : List Fu.D} {vs : List V} (n : H1 D = none) (a1 : D ∉ al1) (e : Ext al1 ⟨al2.tr, al1.ex⟩ H1 H2) (hx : al2.ex = D :: al1.ex) (a : Abs K al2 S H2) (r : Reps K al2 H2 ds vs) (h : H2 D = some (.lst vs)) :
    ∃ al3, Ext al1 al3 H1 H2 ∧ Abs K al3 (S ++ [.lst ds]) H2 ∧ Rep K al3 H2 (.obj S.length) (.ref D) := by
  have exD : D ∈ al2.ex := by rw [hx]; exact List.mem_cons_self
  have nt : D ∉ al2.tr := fun z => a.dj D z exD
  have w : Wk al2 ⟨al2.tr ++ [D], al1.ex⟩ H2 H2 := ⟨⟨[D], rfl⟩, fun b u hb nb => by
    rw [notin_al, hx] at nb
    refine ⟨hb, notin_al.mpr ⟨fun z => ?_, fun z => nb.2 (List.mem_cons_of_mem _ z)⟩⟩
    rcases List.mem_append.mp z with z | z
    · exact nb.1 z
    · rw [List.mem_singleton.mp z] at nb
      exact nb.2 List.mem_cons_self⟩
  refine ⟨⟨al2.tr ++ [D], al1.ex⟩, ⟨?_, rfl, fun q hq nq => ?_, e.fr, e.hd⟩, ⟨by simp [a.len], ?_, fun q hq => a.hid q (by rw [hx]; exact List.mem_cons_of_mem _ hq), fun q hq z => ?_, fun k b u h1 h2 => ?_⟩, D, rfl, ?_⟩
  · obtain ⟨r', h'⟩ := e.pre
    exact ⟨r' ++ [D], by simp only at h' ⊢; rw [h']; simp⟩
  · rcases List.mem_append.mp hq with hq | hq
    · exact e.new q hq nq
    · rw [List.mem_singleton.mp hq]
      exact ⟨n, (notin_al.mp a1).2⟩
  · show (al2.tr ++ [D]).Nodup
    rw [List.nodup_append]
    exact ⟨a.nd, by simp, fun x hx' y hy z => nt (by rw [List.mem_singleton.mp hy] at z; rw [← z]; exact hx')⟩
  · rcases List.mem_append.mp hq with hq | hq
    · exact a.dj q hq (by rw [hx]; exact List.mem_cons_of_mem _ z)
    · rw [List.mem_singleton.mp hq] at z
      exact (notin_al.mp a1).2 z
  · replace h1 : (al2.tr ++ [D])[k]? = _ := h1
    by_cases hk : k < al2.tr.length
    · rw [List.getElem?_append_left hk] at h1
      rw [List.getElem?_append_left (by rw [← a.len]; exact hk)] at h2
      exact (a.obj k b u h1 h2).wk w rfl
    · rw [List.getElem?_append_right (by omega)] at h1
      rw [List.getElem?_append_right (by rw [← a.len]; omega)] at h2
      rw [a.len] at h1
      cases q : k - S.length with
      | zero =>
        rw [q] at h1 h2
        simp at h1 h2
        subst h1 h2
        exact ⟨vs, h, r.wk w⟩
      | succ j => rw [q] at h1; simp at h1
  · show (al2.tr ++ [D])[S.length]? = _
    rw [← a.len]; simp
theorem compL_noerr {s : Src} {T : Tg} {ts : MT} {elt : ME} {envw : Env1} {x : Exn} {S' : List O} : ∀ {ds : List D} {S : List O} {acc : List D}, compL s T ts elt envw ds S acc ≠ .err x S'
  | [], S, acc => by unfold compL; split <;> simp
  | d :: ds, S, acc => by
    unfold compL
    split
    · split
      · simp
      · split
        · split
          · split
            · exact compL_noerr
            · simp
          · simp
        · exact compL_noerr
        · simp
    · simp
theorem se_comp {elt tg iter : Expr} {ifs : List Expr} {scope : Scope} {own : List (Str × Nat)} {mi : MI} {T : Tg} {mt : MT} {me : ME} (hN : X.N.Nodup) (hi : SI X W tg iter mi) (ok : BlkOk X.N X.env.scope scope own)
    (hg : ∀ (s : Shared) (H : Hp) (C : Addr) (cl : List (Str × Addr)) (fp : List Addr), SG (X.blk s H scope (compEnvC scope cl C X.env) fp) tg T) (ht : ∀ (s : Shared) (H : Hp) (C : Addr) (cl : List (Str × Addr)) (fp : List Addr), STs (X.blk s H scope (compEnvC scope cl C X.env) fp) WF ifs mt)
    (he : ∀ (s : Shared) (H : Hp) (C : Addr) (cl : List (Str × Addr)) (fp : List Addr), SE (X.blk s H scope (compEnvC scope cl C X.env) fp) WF elt me) (hT : ∀ j ∈ T.sl, j ∈ own.map (·.2) := by decide) (hc : X.calm = true := by rfl) (hs : ∀ x, foldedSetIterable iter X.env x = pure x := by intro _; rfl) :
    SE X W (.ListComp elt [⟨tg, iter, ifs, 0⟩] scope pos) (eComp (own.map (·.2)) mi T mt me) := (pe_lc hc hN hi ok hg ht he hs).le fun σ H Q q => by
  obtain ⟨al, S, env, er, ab, q⟩ := q
  refine ⟨al, S, env, er, ab, (FinG.bind q).imp fun J H1 ⟨al1, S1, s, e1, a1, jo, q1⟩ => ?_⟩
  cases hcq : compL s T mt me (wipeE env (own.map (·.2))) s.ds S1 [] with
  | fail => rw [hcq] at q1; exact q1.elim
  | err x S2 => exact absurd hcq compL_noerr
  | ok accF SF =>
    rw [hcq] at q1
    refine comp_ok hT jo (er.mono e1) a1 hcq fun D n al2 H2 accV e2 hx a2 ra hD => ?_
    obtain ⟨a3, r3⟩ := comp_frz n (a1.notin n) hx a2 ra hD
    exact q1 _ H2 _ e2 a3 r3
theorem se_compO {elt tg iter : Expr} {ifs : List Expr} {scope : Scope} {own : List (Str × Nat)} {mi : MI} {T : Tg} {mt : MT} {me : ME} (hN : X.N.Nodup) (hi : SI X W tg iter mi) (ok : BlkOk X.N X.env.scope scope own)
    (hg : ∀ (s : Shared) (H : Hp) (C : Addr) (cl : List (Str × Addr)) (fp : List Addr), SG (X.blk s H scope (compEnvC scope cl C X.env) fp) tg T) (ht : ∀ (s : Shared) (H : Hp) (C : Addr) (cl : List (Str × Addr)) (fp : List Addr), STs (X.blk s H scope (compEnvC scope cl C X.env) fp) WF ifs mt)
    (he : ∀ (s : Shared) (H : Hp) (C : Addr) (cl : List (Str × Addr)) (fp : List Addr), SE (X.blk s H scope (compEnvC scope cl C X.env) fp) WF elt me) (hT : ∀ j ∈ T.sl, j ∈ own.map (·.2) := by decide) (hc : X.calm = true := by rfl) (hs : ∀ x, foldedSetIterable iter X.env x = pure x := by intro _; rfl) :
    SE X W (.ListComp elt [⟨tg, iter, ifs, 0⟩] scope pos) (eCompO (own.map (·.2)) mi T mt me) := (pe_lc hc hN hi ok hg ht he hs).le fun σ H Q q => by
  obtain ⟨al, S, env, er, ab, q⟩ := q
  refine ⟨al, S, env, er, ab, (FinG.bind q).imp fun J H1 ⟨al1, S1, s, e1, a1, jo, q1⟩ => ?_⟩
  cases hcq : compL s T mt me (wipeE env (own.map (·.2))) s.ds S1 [] with
  | fail => rw [hcq] at q1; exact q1.elim
  | err x S2 => exact absurd hcq compL_noerr
  | ok accF SF =>
    rw [hcq] at q1
    refine comp_ok hT jo (er.mono e1) a1 hcq fun D n al2 H2 accV e2 hx a2 ra hD => ?_
    obtain ⟨al3, e3, a3, r3⟩ := comp_trk n (a1.notin n) e2 hx a2 ra hD
    exact q1 al3 H2 _ e3 a3 r3
/-- name = [..] on one line -/
theorem ss_comp {i : Nat} {y : Str} {py : Pos} {elt tg iter : Expr} {ifs : List Expr} {scope : Scope} {own : List (Str × Nat)} {spos : Pos} {mi : MI} {T : Tg} {mt : MT} {me : ME} (hN : X.N.Nodup) (hsw : swapsWith (.ListComp elt [⟨tg, iter, ifs, 0⟩] scope pos) (some (.Name y py)) spos.line X.env = pure true)
    (hi : SI X W tg iter mi) (ok : BlkOk X.N X.env.scope scope own)
    (hg : ∀ (s : Shared) (H : Hp) (C : Addr) (cl : List (Str × Addr)) (fp : List Addr), SG (X.blk s H scope (compEnvC scope cl C X.env) fp) tg T) (ht : ∀ (s : Shared) (H : Hp) (C : Addr) (cl : List (Str × Addr)) (fp : List Addr), STs (X.blk s H scope (compEnvC scope cl C X.env) fp) WF ifs mt)
    (he : ∀ (s : Shared) (H : Hp) (C : Addr) (cl : List (Str × Addr)) (fp : List Addr), SE (X.blk s H scope (compEnvC scope cl C X.env) fp) WF elt me) (hy : X.N[i]? = some y := by rfl) (hyl : X.env.scope.names.lookup y = some .local := by rfl) (hT : ∀ j ∈ T.sl, j ∈ own.map (·.2) := by decide) (hc : X.calm = true := by rfl) (hs : ∀ x, foldedSetIterable iter X.env x = pure x := by intro _; rfl) :
    SS X W (.Assign [.Name y py] (.ListComp elt [⟨tg, iter, ifs, 0⟩] scope pos) spos) (sSet i (eComp (own.map (·.2)) mi T mt me)) := (ps_setLc hc hN hy hyl hsw hi ok hg ht he hs).le fun D σ H q => by
  obtain ⟨al, S, env, er, ab, q⟩ := q
  refine ⟨al, S, env, er, ab, ?_⟩
  have q0 := FinS.bindE (Good := fun al H d v => Rep X.K al H d v) er q
  refine (FinG.bind q0).imp fun J H1 ⟨al1, S1, s, e1, a1, jo, q1⟩ => ?_
  cases hcq : compL s T mt me (wipeE env (own.map (·.2))) s.ds S1 [] with
  | fail => rw [hcq] at q1; exact q1.elim
  | err x S2 => exact absurd hcq compL_noerr
  | ok accF SF =>
    rw [hcq] at q1
    refine comp_ok (Q := fun x H2 => D.nx (σ.set i (some x)) H2) hT jo (er.mono e1) a1 hcq fun D' n al2 H2 accV e2 hx a2 ra hD => ?_
    obtain ⟨a3, r3⟩ := comp_frz n (a1.notin n) hx a2 ra hD
    obtain ⟨al4, S4, d4, e4, a4, g4, er4, q4⟩ := q1 _ H2 _ e2 a3 r3
    exact q4 al4 H2 _ Ext.refl a4 (er4.set g4 i)
theorem ss_compO {i : Nat} {y : Str} {py : Pos} {elt tg iter : Expr} {ifs : List Expr} {scope : Scope} {own : List (Str × Nat)} {spos : Pos} {mi : MI} {T : Tg} {mt : MT} {me : ME} (hN : X.N.Nodup) (hsw : swapsWith (.ListComp elt [⟨tg, iter, ifs, 0⟩] scope pos) (some (.Name y py)) spos.line X.env = pure true)
    (hi : SI X W tg iter mi) (ok : BlkOk X.N X.env.scope scope own)
    (hg : ∀ (s : Shared) (H : Hp) (C : Addr) (cl : List (Str × Addr)) (fp : List Addr), SG (X.blk s H scope (compEnvC scope cl C X.env) fp) tg T) (ht : ∀ (s : Shared) (H : Hp) (C : Addr) (cl : List (Str × Addr)) (fp : List Addr), STs (X.blk s H scope (compEnvC scope cl C X.env) fp) WF ifs mt)
    (he : ∀ (s : Shared) (H : Hp) (C : Addr) (cl : List (Str × Addr)) (fp : List Addr), SE (X.blk s H scope (compEnvC scope cl C X.env) fp) WF elt me) (hy : X.N[i]? = some y := by rfl) (hyl : X.env.scope.names.lookup y = some .local := by rfl) (hT : ∀ j ∈ T.sl, j ∈ own.map (·.2) := by decide) (hc : X.calm = true := by rfl) (hs : ∀ x, foldedSetIterable iter X.env x = pure x := by intro _; rfl) :
    SS X W (.Assign [.Name y py] (.ListComp elt [⟨tg, iter, ifs, 0⟩] scope pos) spos) (sSet i (eCompO (own.map (·.2)) mi T mt me)) := (ps_setLc hc hN hy hyl hsw hi ok hg ht he hs).le fun D σ H q => by
  obtain ⟨al, S, env, er, ab, q⟩ := q
  refine ⟨al, S, env, er, ab, ?_⟩
  have q0 := FinS.bindE (Good := fun al H d v => Rep X.K al H d v) er q
  refine (FinG.bind q0).imp fun J H1 ⟨al1, S1, s, e1, a1, jo, q1⟩ => ?_
  cases hcq : compL s T mt me (wipeE env (own.map (·.2))) s.ds S1 [] with
  | fail => rw [hcq] at q1; exact q1.elim
  | err x S2 => exact absurd hcq compL_noerr
  | ok accF SF =>
    rw [hcq] at q1
    refine comp_ok (Q := fun x H2 => D.nx (σ.set i (some x)) H2) hT jo (er.mono e1) a1 hcq fun D' n al2 H2 accV e2 hx a2 ra hD => ?_
    obtain ⟨al3, e3, a3, r3⟩ := comp_trk n (a1.notin n) e2 hx a2 ra hD
    obtain ⟨al4, S4, d4, e4, a4, g4, er4, q4⟩ := q1 al3 H2 _ e3 a3 r3
    exact q4 al4 H2 _ Ext.refl a4 (er4.set g4 i)
end
end Fu

namespace Fu
open PySem PySem.Spec PyProof.Rows L2

/-! ### a def: from its body's reading to its promise -/
mutual
def sc : Nat → D → Bool
  | k, .obj n => decide (n < k)
  | k, .tup ds => scs k ds
  | k, .lst ds => scs k ds
  | k, .ins _ _ ds => scs k ds
  | k, .dic _ ds => scs k ds
  | _, _ => true
def scs : Nat → List D → Bool
  | _, [] => true
  | k, d :: ds => sc k d && scs k ds
end
def scO (k : Nat) : O → Bool
  | .lst ds => scs k ds
  | .ins _ _ ds => scs k ds
  | .dic _ ds => scs k ds
def Al.cut (al : Al) (k : Nat) : Al := ⟨al.tr.take k, al.ex⟩
section
variable {K : PySem.W.Frag} {al : Al} {H : Hp} {k : Nat}
theorem cut_notin {a : Addr} (h : a ∉ al) : a ∉ al.cut k := notin_al.mpr ⟨fun z => (notin_al.mp h).1 (List.mem_of_mem_take z), (notin_al.mp h).2⟩
mutual
theorem Rep.cut : ∀ {d : D} {v : V}, sc k d = true → Rep K al H d v → Rep K (al.cut k) H d v
  | .non, _, _, h => h
  | .bl _, _, _, h => h
  | .int _, _, _, h => h
  | .str _, _, _, h => h
  | .fn _, _, _, h => h
  | .ty _, _, _, h => h
  | .tup ds, _, s, h => by
    obtain ⟨a, vs, rfl, t, r⟩ := h
    refine ⟨a, vs, rfl, ?_, Reps.cutA (by simpa [sc] using s) r⟩
    rcases t with ⟨t, n⟩ | t
    · exact .inl ⟨t, cut_notin n⟩
    · exact .inr t
  | .lst ds, _, s, h => by
    obtain ⟨a, vs, rfl, t, r⟩ := h
    exact ⟨a, vs, rfl, ⟨t.1, cut_notin t.2⟩, Reps.cutA (by simpa [sc] using s) r⟩
  | .scr ns, _, _, h => by
    obtain ⟨a, rfl, q⟩ := h
    refine ⟨a, rfl, ?_⟩
    rcases q with ⟨q, n⟩ | q
    · exact .inl ⟨q, cut_notin n⟩
    · exact .inr q
  | .obj n, _, s, h => by
    obtain ⟨a, rfl, q⟩ := h
    refine ⟨a, rfl, ?_⟩
    have hn : n < k := by simpa [sc] using s
    show (al.tr.take k)[n]? = _
    rw [List.getElem?_take_of_lt hn]
    exact q
  | .ins C ns ds, _, s, h => by
    obtain ⟨a, dx, fs, rfl, q, n, f, r⟩ := h
    exact ⟨a, dx, fs, rfl, q, cut_notin n, f, Reps.cutA (by simpa [sc] using s) r⟩
  | .dic ks ds, _, s, h => by
    obtain ⟨a, kvs, rfl, q, n, f, r⟩ := h
    exact ⟨a, kvs, rfl, q, cut_notin n, f, Reps.cutA (by simpa [sc] using s) r⟩
theorem Reps.cutA : ∀ {ds : List D} {vs : List V}, scs k ds = true → Reps K al H ds vs → Reps K (al.cut k) H ds vs
  | [], _, _, h => h
  | d :: ds, _, s, h => by
    obtain ⟨v, r, rfl, h1, h2⟩ := h
    simp only [scs, Bool.and_eq_true] at s
    exact ⟨v, r, rfl, Rep.cut s.1 h1, Reps.cutA s.2 h2⟩
end
theorem ORep.cutO {a : Addr} {o : O} (s : scO k o = true) (h : ORep K al H a o) : ORep K (al.cut k) H a o := by
  cases o with
  | lst ds => obtain ⟨vs, h1, h2⟩ := h; exact ⟨vs, h1, h2.cutA s⟩
  | ins C ns ds => obtain ⟨dx, fs, h1, h2, h3⟩ := h; exact ⟨dx, fs, h1, h2, h3.cutA s⟩
  | dic ks ds => obtain ⟨kvs, h1, h2, h3⟩ := h; exact ⟨kvs, h1, h2, h3.cutA s⟩
theorem Abs.cutA {S : List O} (a : Abs K al S H) (s : (S.take k).all (scO k) = true) : Abs K (al.cut k) (S.take k) H := by
  refine ⟨by show (al.tr.take k).length = _; rw [List.length_take, List.length_take, a.len], a.nd.sublist (List.take_sublist _ _), a.hid, fun p hp => a.dj p (List.mem_of_mem_take hp), fun n b o h1 h2 => ?_⟩
  have hn : n < k := by
    have := (List.getElem?_eq_some_iff.mp h2).1
    rw [List.length_take] at this; omega
  replace h1 : (al.tr.take k)[n]? = _ := h1
  rw [List.getElem?_take_of_lt hn] at h1
  have h2' := h2
  rw [List.getElem?_take_of_lt hn] at h2'
  exact (a.obj n b o h1 h2').cutO (List.all_eq_true.mp s o (List.mem_of_getElem? h2))
end
theorem Ext.cutE {al al' : Al} {H H' : Hp} {k : Nat} (e : Ext al al' H H') (h : al.tr.length ≤ k) : Ext al (al'.cut k) H H' where
  pre := by
    obtain ⟨r, h1⟩ := e.pre
    refine ⟨r.take (k - al.tr.length), ?_⟩
    show al'.tr.take k = _
    rw [h1, List.take_append, List.take_of_length_le h]
  ex := e.ex
  new := fun p hp n => e.new p (List.mem_of_mem_take hp) n
  fr := e.fr
  hd := e.hd
/-- a result as the caller gets it: what is new is not tracked any more; a new list becomes a fixed one -/
def frz (S1 : List O) (k : Nat) : D → Option D
  | .obj n => if n < k then some (.obj n) else match S1[n]? with
    | some (.lst ds) => if scs k ds then some (.lst ds) else none
    | some (.ins C ns ds) => if scs k ds then some (.ins C ns ds) else none
    | some (.dic ks ds) => if scs k ds then some (.dic ks ds) else none
    | none => none
  | d => if sc k d then some d else none
theorem frz_ok {K : PySem.W.Frag} {al : Al} {S : List O} {H : Hp} {k : Nat} {d d' : D} {v : V} (a : Abs K al S H) (h : frz S k d = some d') (r : Rep K al H d v) : Rep K (al.cut k) H d' v := by
  by_cases ho : ∃ n, d = .obj n
  · obtain ⟨n, rfl⟩ := ho
    simp only [frz] at h
    by_cases hn : n < k
    · rw [if_pos hn] at h; cases h
      exact r.cut (by simpa [sc] using hn)
    · rw [if_neg hn] at h
      obtain ⟨p, rfl, hp⟩ := r
      have np : p ∉ al.cut k := notin_al.mpr ⟨fun z => by
        obtain ⟨j, hj⟩ := List.mem_iff_getElem?.mp z
        replace hj : (al.tr.take k)[j]? = some p := hj
        have hjk : j < k := by
          have := (List.getElem?_eq_some_iff.mp hj).1
          rw [List.length_take] at this; omega
        rw [List.getElem?_take_of_lt hjk] at hj
        obtain ⟨l1, e1⟩ := List.getElem?_eq_some_iff.mp hj
        obtain ⟨l2, e2⟩ := List.getElem?_eq_some_iff.mp hp
        have := (List.getElem_inj a.nd).mp (e1.trans e2.symm)
        omega, a.dj p (List.mem_of_getElem? hp)⟩
      split at h
      · rename_i ds q
        split at h
        · rename_i hs
          cases h
          obtain ⟨vs, h1, h2⟩ := a.obj n p _ hp q
          exact ⟨p, vs, rfl, ⟨h1, np⟩, h2.cutA hs⟩
        · cases h
      · rename_i C ns ds q
        split at h
        · rename_i hs
          cases h
          obtain ⟨dx, fs, h1, h2, h3⟩ := a.obj n p _ hp q
          exact ⟨p, dx, fs, rfl, h1, np, h2, h3.cutA hs⟩
        · cases h
      · rename_i ks ds q
        split at h
        · rename_i hs
          cases h
          obtain ⟨kvs, h1, h2, h3⟩ := a.obj n p _ hp q
          exact ⟨p, kvs, rfl, h1, np, h2, h3.cutA hs⟩
        · cases h
      · cases h
  · have h' : (if sc k d then some d else none) = some d' := by
      cases d with
      | obj n => exact absurd ⟨n, rfl⟩ ho
      | _ => exact h
    split at h'
    · rename_i hs
      cases h'
      exact r.cut hs
    · cases h'
/-- what a body's end gives the caller: k objects are kept -/
def endOf (r : RS) (k : Nat) : R D := match r with
  | .rt d S => if (S.take k).all (scO k) then match frz S k d with
    | some d' => .ok d' (S.take k)
    | none => .fail
    else .fail
  | .nx _ S => if (S.take k).all (scO k) then .ok .non (S.take k) else .fail
  | .err x _ S => if (S.take k).all (scO k) && sc k x.arg then .err x (S.take k) else .fail
  | _ => .fail
def env0 (N : Nat) (ds : List D) : Env1 := ds.map some ++ List.replicate (N - ds.length) none
/-- a def's meaning: its body run at its arguments; up to j new objects are handed on -/
def bodyFn (N : Nat) (m : MS) (j : Nat) : Fn := fun ds S => endOf (m (env0 N ds) S) (S.length + j)
theorem env0_ok {K : PySem.W.Frag} {al : Al} {H : Hp} {N : List Str} {ds : List D} {vs : List V} (r : Reps K al H ds vs) : EnvR K al H (env0 N.length ds) (L2.start N vs) := by
  unfold env0 L2.start
  refine ⟨by simp [r.len], fun i d h => ?_⟩
  by_cases hi : i < ds.length
  · rw [List.getElem?_append_left (by simpa using hi), List.getElem?_map, List.getElem?_eq_getElem hi] at h
    simp at h
    obtain ⟨v, e, rv⟩ := r.get (List.getElem?_eq_getElem hi)
    rw [h] at rv
    refine ⟨v, ?_, rv⟩
    rw [List.getElem?_append_left (by simpa [r.len] using hi), List.getElem?_map, e]
    rfl
  · rw [List.getElem?_append_right (by simpa using hi), List.getElem?_replicate] at h
    split at h <;> cases h
theorem body_fin {K : PySem.W.Frag} {W : WX} {E : XK} {al : Al} {H : Hp} {r : RS} {k : Nat} {Q : VK} (hW : ∀ c od σ H, E c od H → W c od σ H) (hk : al.tr.length ≤ k) (h : FinE K E al H (endOf r k) Q) :
    FinS K W al H r { nx := fun _ H' => Q .non H', rt := Q } := by
  cases r with
  | rt d S =>
    simp only [endOf] at h
    intro al' H' v e a rv
    split at h
    · rename_i hs
      split at h
      · rename_i d' hd
        exact h _ H' v (e.cutE hk) (a.cutA hs) (frz_ok a hd rv)
      · exact h.elim
    · exact h.elim
  | nx env S =>
    simp only [endOf] at h
    intro al' H' σ e a er
    split at h
    · rename_i hs
      exact h _ H' .non (e.cutE hk) (a.cutA hs) rfl
    · exact h.elim
  | err x env S =>
    simp only [endOf] at h
    intro al' H' σ c od e a er xr
    split at h
    · rename_i hs
      rw [Bool.and_eq_true] at hs
      obtain ⟨h1, d, v, h2, h3, h4, h5⟩ := xr
      exact hW _ _ _ _ (h _ H' c od (e.cutE hk) (a.cutA hs.1) ⟨h1, d, v, h2, h3, cut_notin h4, h5.cut hs.2⟩)
    · exact h.elim
  | _ => exact h.elim
section
variable {P : Program} {w : World} {K : PySem.W.Frag} {mg : Str → Option Value} {base : Heap}
/-- THE RULE: a def that lets no exception out -/
theorem def_ok {x qual : Str} {st : Stmt} {f : Addr} {fd : FuncData} {N ps : List Str} {k np : Nat} (F0 : Fn) (n1 : Nat) (m : MS) (j : Nat) (F : Fun K x qual st f fd) (S : FnScope N ps (defScope st)) (hN : N.length = n1) (hp : ps.length = np)
    (hF : ∀ ds S, F0 ds S = noErr (bodyFn n1 m j ds S))
    (hbody : ∀ (cdv : Value) (A : Around) (outer : List Env) (s : Shared) (H : Hp) (E : XK), Room k (A.deeper (envOfC qual (defScope st) s.heap.objs.size f cdv)) →
      SSs (cxOf CX0 P w K mg base N qual (defScope st) f cdv A outer s H E).nox WF (defBody st) m) :
    FnOk P w K mg base CX0 (k + 1) f fd ps (spF K np F0) := by
  subst hN hp
  refine F.ok S (fun vs H Q E h => spF_len h) (fun cdv A outer s H vs Q E hr h => ?_)
  obtain ⟨al, S0, ds, ab, r, e, q⟩ := h
  refine ⟨_, hbody cdv A outer s H E hr, al, S0, _, env0_ok (N := N) r, ab, ?_⟩
  rw [hF] at q
  exact body_fin (E := fun _ _ _ => False) (fun _ _ _ _ z => z) (by rw [ab.len]; omega) (noErr_fin q)
/-- .. one that may -/
theorem def_okX {x qual : Str} {st : Stmt} {f : Addr} {fd : FuncData} {N ps : List Str} {k np : Nat} (F0 : Fn) (n1 : Nat) (m : MS) (j : Nat) (F : Fun K x qual st f fd) (S : FnScope N ps (defScope st)) (hN : N.length = n1) (hp : ps.length = np)
    (hF : ∀ ds S, F0 ds S = bodyFn n1 m j ds S)
    (hbody : ∀ (cdv : Value) (A : Around) (outer : List Env) (s : Shared) (H : Hp) (E : XK), Room k (A.deeper (envOfC qual (defScope st) s.heap.objs.size f cdv)) →
      SSs (cxOf (L2.CX P w) P w K mg base N qual (defScope st) f cdv A outer s H E) (fun c od _ H => E c od H) (defBody st) m) :
    FnOk P w K mg base (L2.CX P w) (k + 1) f fd ps (spF K np F0) := by
  subst hN hp
  refine F.okX S (fun vs H Q E h => spF_len h) (fun cdv A outer s H vs Q E hr h => ?_)
  obtain ⟨al, S0, ds, ab, r, e, q⟩ := h
  refine ⟨_, hbody cdv A outer s H E hr, al, S0, _, env0_ok (N := N) r, ab, ?_⟩
  rw [hF] at q
  exact body_fin (fun _ _ _ _ z => z) (by rw [ab.len]; omega) q
end
/-- another function that says no more -/
theorem spF_imp {K : PySem.W.Frag} {n : Nat} {F G : Fn} (h : ∀ ds S, ds.length = n → G ds S = .fail ∨ F ds S = G ds S) : ∀ vs H Q E, spF K n G vs H Q E → spF K n F vs H Q E := fun vs H Q E ⟨al, S, ds, ab, r, e, q⟩ => by
  rcases h ds S e with h | h
  · rw [h] at q; exact q.elim
  · exact ⟨al, S, ds, ab, r, e, by rw [h]; exact q⟩
theorem fn_imp {P : Program} {w : World} {K : PySem.W.Frag} {mg : Str → Option Value} {base : Heap} {CX : CXT} {k n : Nat} {f : Addr} {fd : FuncData} {ps : List Str} {F G : Fn} (h : FnOk P w K mg base CX k f fd ps (spF K n F)) (e : ∀ ds S, ds.length = n → G ds S = .fail ∨ F ds S = G ds S) :
    FnOk P w K mg base CX k f fd ps (spF K n G) := h.imp (spF_imp e)
end Fu

namespace Fu
open PySem PySem.Spec PyProof.Rows L2

theorem room65 {k : Nat} {A : Around} (r : Room k A) : A.units + 65 < cLine := by have := r.un; omega
section
variable {X : Cx} {W : WX} {pos : Pos} {a b c : Expr} {ma mb mc : ME}
theorem se_chain {op op' : CmpOp} {f g : Op2} (ho : SO X (compareOp op) f) (ho' : SO X (compareOp op') g) (ha : SE X W a ma) (hb : SE X W b mb) (hc : SE X W c mc) (hm : lastMarks [op, op'] [b, c] = false := by with_unfolding_all rfl) :
    SE X W (.Compare a [op, op'] [b, c] pos) (eChain f g ma mb mc) := (pe_chain ho ho' ha hb hc hm).le fun _ _ _ q => chain_le q
theorem st_chain {op op' : CmpOp} {f g : Op2} (ho : SO X (compareOp op) f) (ho' : SO X (compareOp op') g) (ha : SE X W a ma) (hb : SE X W b mb) (hc : SE X W c mc) (hm : lastMarks [op, op'] [b, c] = false := by with_unfolding_all rfl) :
    ST X W (.Compare a [op, op'] [b, c] pos) (tBl (eChain f g ma mb mc)) := (pt_chain ho ho' ha hb hc hm).le fun σ H Q q => by
  obtain ⟨al, S, env, er, ab, q⟩ := tBl_le q
  exact chain_le ⟨al, S, env, er, ab, q⟩
/-- len(set(xs)), xs unlike ints -/
def eLenSet (m : ME) : ME := fun env S => (m env S).bind fun d S1 => match (lstOf S1 d).bind intsOf with
  | some ns => if ns.Nodup ∧ ns.length ≤ 4000 then .ok (.int ns.length) S1 else .fail
  | none => .fail
theorem se_lenSet {p p2 q : Pos} (hg : Gl X "len") (hm : X.mg "len" = none) (hg2 : Gl X "set") (hm2 : X.mg "set" = none) (ha : SE X W a ma) (hc : X.calm = true := by rfl)
    (hs2 : starEach [a] X.env = (false, eval a X.env) :: starEach [] X.env := by rfl) :
    SE X W (.Call (.Name "len" p) [.Call (.Name "set" p2) [a] [] q] [] pos) (eLenSet ma) := (RZ.pe_lenSetI hg hm hg2 hm2 ha hc hs2).le fun σ H Q q => by
  obtain ⟨al, S, env, er, ab, q⟩ := q
  refine ⟨al, S, env, er, ab, (FinG.bind q).imp fun x H1 ⟨al1, S1, d, e1, a1, g1, q1⟩ => ?_⟩
  cases e2 : (lstOf S1 d).bind intsOf with
  | none => rw [e2] at q1; exact q1.elim
  | some ns =>
    rw [e2] at q1
    simp only at q1
    split at q1
    · rename_i hn
      rw [Option.bind_eq_some_iff] at e2
      obtain ⟨ds, e3, e4⟩ := e2
      obtain ⟨p, us, rfl, sq, rs⟩ := lstOf_sq a1 e3 g1
      have := intsOf_eq e4
      subst this
      have := reps_ints_eq rs
      subst this
      exact ⟨p, ns, rfl, sq, hn.1, hn.2, q1.ok_self a1 rfl⟩
    · exact q1.elim
end
theorem law_sp {K : PySem.W.Frag} {H : Hp} {a : Addr} {ns : List Int} {F : Fn} {E : XK} (h : ∃ S', F [.scr ns] [] = .ok (.bl true) S') (hS : SqL K H a (ns.map V.int)) : spF K 1 F [.ref a] H (fun v _ => v = .bl true) E := by
  obtain ⟨S', h⟩ := h
  have ab : Abs K ⟨[], []⟩ [] H := ⟨rfl, List.nodup_nil, fun _ h => absurd h (by simp), fun _ h => absurd h (by simp), fun n b o h1 _ => by simp at h1⟩
  refine ⟨⟨[], []⟩, [], [.scr ns], ab, ⟨.ref a, [], rfl, ⟨a, rfl, ?_⟩, rfl⟩, rfl, ?_⟩
  · rcases hS with h | h
    · exact .inl ⟨h, notin_al.mpr ⟨by simp, by simp⟩⟩
    · exact .inr h
  · rw [h]
    exact fun al' H' v _ _ r => r
end Fu

namespace Fu
open PySem PySem.Spec PyProof.Rows L2
@[simp] theorem lim_le0 : 0 ≤ LIM := lim_ok (by decide)
@[simp] theorem lim_lt0 : 0 < LIM := lim_lt (by decide)
@[simp] theorem lim_le1 : 1 ≤ LIM := lim_ok (by decide)
@[simp] theorem lim_lt1 : 1 < LIM := lim_lt (by decide)
@[simp] theorem lim_le2 : 2 ≤ LIM := lim_ok (by decide)
@[simp] theorem lim_lt2 : 2 < LIM := lim_lt (by decide)
@[simp] theorem lim_le3 : 3 ≤ LIM := lim_ok (by decide)
@[simp] theorem lim_lt3 : 3 < LIM := lim_lt (by decide)
@[simp] theorem lim_le4 : 4 ≤ LIM := lim_ok (by decide)
@[simp] theorem lim_lt4 : 4 < LIM := lim_lt (by decide)
@[simp] theorem lim_le5 : 5 ≤ LIM := lim_ok (by decide)
@[simp] theorem lim_lt5 : 5 < LIM := lim_lt (by decide)
@[simp] theorem lim_le6 : 6 ≤ LIM := lim_ok (by decide)
@[simp] theorem lim_lt6 : 6 < LIM := lim_lt (by decide)
@[simp] theorem lim_le7 : 7 ≤ LIM := lim_ok (by decide)
@[simp] theorem lim_lt7 : 7 < LIM := lim_lt (by decide)
@[simp] theorem lim_le8 : 8 ≤ LIM := lim_ok (by decide)
@[simp] theorem lim_lt8 : 8 < LIM := lim_lt (by decide)
@[simp] theorem lim_le9 : 9 ≤ LIM := lim_ok (by decide)
@[simp] theorem lim_lt9 : 9 < LIM := lim_lt (by decide)
@[simp] theorem lim_le10 : 10 ≤ LIM := lim_ok (by decide)
@[simp] theorem lim_lt10 : 10 < LIM := lim_lt (by decide)
@[simp] theorem lim_le11 : 11 ≤ LIM := lim_ok (by decide)
@[simp] theorem lim_lt11 : 11 < LIM := lim_lt (by decide)
@[simp] theorem lim_le12 : 12 ≤ LIM := lim_ok (by decide)
@[simp] theorem lim_lt12 : 12 < LIM := lim_lt (by decide)
end Fu
namespace Fu
open PySem PySem.Spec PyProof.Rows L2
section
variable {env : Env1} {S : List O} {f g : Op2} {a b c : ME} {t u : MT} {r : MA} {m1 m2 : MS}
@[simp] theorem ev_C (d : D) : eC d env S = .ok d S := rfl
@[simp] theorem ev_op : eOp f a b env S = (a env S).bind fun x S1 => (b env S1).bind fun y S2 => liftO (f x y S2) S2 := rfl
@[simp] theorem ev_lift (d : D) : liftO (some d) S = .ok d S := rfl
@[simp] theorem ev_tup : eTup r env S = (r env S).bind fun ds S1 => if ds.length ≤ LIM then .ok (.tup ds) S1 else .fail := rfl
@[simp] theorem ev_lst : eLst r env S = (r env S).bind fun ds S1 => if ds.length ≤ LIM then .ok (.lst ds) S1 else .fail := rfl
@[simp] theorem ev_lstO : eLstO r env S = (r env S).bind fun ds S1 => if ds.length ≤ LIM then .ok (.obj S1.length) (S1 ++ [.lst ds]) else .fail := rfl
@[simp] theorem ev_nil : aNil env S = .ok [] S := rfl
@[simp] theorem ev_cons : aCons a r env S = (a env S).bind fun d S1 => (r env S1).bind fun ds S2 => .ok (d :: ds) S2 := rfl
@[simp] theorem ev_cb (g : OpN) : eCB g r env S = (r env S).bind fun ds S1 => liftO (g ds S1) S1 := rfl
@[simp] theorem ev_call (n : Nat) (F : Fn) : eCall n F r env S = (r env S).bind fun ds S1 => if ds.length = n then noErr (F ds S1) else .fail := rfl
@[simp] theorem ev_noErr {β : Type} (b : β) : noErr (R.ok b S) = .ok b S := rfl
@[simp] theorem ev_if : eIf t a b env S = (t env S).bind fun k S1 => match k with
  | true => a env S1
  | false => b env S1 := rfl
@[simp] theorem ev_not : eNot a env S = (a env S).bind fun x S1 => match x with
  | .bl b => .ok (.bl (!b)) S1
  | _ => .fail := rfl
@[simp] theorem ev_neg : eNeg a env S = (a env S).bind fun x S1 => match x with
  | .int i => .ok (.int (-i)) S1
  | _ => .fail := rfl
@[simp] theorem ev_and : eAnd a b env S = (a env S).bind fun x S1 => match x with
  | .bl true => b env S1
  | .bl false => .ok (.bl false) S1
  | _ => .fail := rfl
@[simp] theorem ev_or : eOr a b env S = (a env S).bind fun x S1 => match x with
  | .bl true => .ok (.bl true) S1
  | .bl false => b env S1
  | _ => .fail := rfl
@[simp] theorem ev_tbl : tBl a env S = (a env S).bind fun d S1 => match d with
  | .bl b => .ok b S1
  | _ => .fail := rfl
@[simp] theorem ev_ttru : tTru a env S = (a env S).bind fun d S1 => match truth S1 d with
  | some b => .ok b S1
  | none => .fail := rfl
@[simp] theorem ev_tnot : tNot1 t env S = (t env S).bind fun b S1 => .ok (!b) S1 := rfl
@[simp] theorem ev_tand : tAnd1 t u env S = (t env S).bind fun b S1 => match b with
  | true => u env S1
  | false => .ok false S1 := rfl
@[simp] theorem ev_tor : tOr1 t u env S = (t env S).bind fun b S1 => match b with
  | true => .ok true S1
  | false => u env S1 := rfl
@[simp] theorem ev_yes : tYes1 env S = .ok true S := rfl
@[simp] theorem ev_meth (f : OpL) : eMeth f a r env S = (a env S).bind fun d S1 => if isL S1 d = true then (r env S1).bind fun args S2 => lMeth f d args S2 else .fail := rfl
@[simp] theorem ev_meth0 (f : OpL) : eMeth0 f a env S = (a env S).bind fun d S1 => lMeth f d [] S1 := rfl
@[simp] theorem ev_fld (C : Addr) (x : Str) : eFld C x a env S = (a env S).bind fun d S1 => match insOf S1 d with
  | some (C', ns, ds) => if C' = C then liftO (fval ns ds x) S1 else .fail
  | none => .fail := rfl
@[simp] theorem ev_seq : sSeq m1 m2 env S = match m1 env S with
  | .nx env' S' => m2 env' S'
  | r => r := rfl
@[simp] theorem ev_snil : sNil env S = .nx env S := rfl
@[simp] theorem ev_sset (i : Nat) : sSet i a env S = (a env S).bindS env fun d S1 => .nx (env.set i (some d)) S1 := rfl
@[simp] theorem ev_sret : sRet a env S = (a env S).bindS env fun d S1 => .rt d S1 := rfl
@[simp] theorem ev_sexpr : sExpr a env S = (a env S).bindS env fun _ S1 => .nx env S1 := rfl
@[simp] theorem ev_sif : sIf t m1 m2 env S = (t env S).bindS env fun k S1 => match k with
  | true => m1 env S1
  | false => m2 env S1 := rfl
@[simp] theorem ev_sasg (T : Tg) : sAsg T a env S = (a env S).bindS env fun d S1 => match asg T d env with
  | some env' => .nx env' S1
  | none => .fail := rfl
@[simp] theorem ev_setix : sSetIx a b c env S = (a env S).bindS env fun d S1 => (b env S1).bindS env fun x S2 => (c env S2).bindS env fun y S3 => match x, y with
  | .obj n, .int k => match S3[n]? with
    | some (.lst es) => match ixN es.length k with
      | some j => .nx env (S3.set n (.lst (es.set j d)))
      | none => .fail
    | _ => .fail
  | _, _ => .fail := rfl
@[simp] theorem bindS_ok {β : Type} (x : β) (f : β → List O → RS) : (R.ok x S).bindS env f = f x S := rfl
@[simp] theorem bind_ok {β γ : Type} (x : β) (f : β → List O → R γ) : (R.ok x S).bind f = f x S := rfl
end
theorem ev_var (i : Nat) (env : Env1) (S : List O) (d : D) (h : env[i]? = some (some d)) : eVar i env S = .ok d S := by unfold eVar; rw [h]
end Fu
namespace Fu
open PySem PySem.Spec PyProof.Rows L2
section
variable {S : List O} {i j : Int} {ds es : List D} {d : D}
@[simp] theorem vSub_ii : vSub (.int i) (.int j) S = some (.int (i - j)) := rfl
open Classical in
theorem vMul_if : vMul (.int i) (.int j) S = if MulOk i j then some (.int (i * j)) else none := rfl
theorem vMul_ii (h : MulOk i j) : vMul (.int i) (.int j) S = some (.int (i * j)) := by rw [vMul_if, if_pos h]
theorem mulL (h0 : -1000000000000 < i) (h1 : i < 1000000000000) : MulOk i j := ⟨.inl ⟨by omega, by omega⟩⟩
theorem mulR (h0 : -1000000000000 < j) (h1 : j < 1000000000000) : MulOk i j := ⟨.inr ⟨by omega, by omega⟩⟩
@[simp] theorem mul_a : vMul (.int i) (.int 69621) S = some (.int (i * 69621)) := vMul_ii (mulR (by omega) (by omega))
@[simp] theorem mul_b : vMul (.int i) (.int 48271) S = some (.int (i * 48271)) := vMul_ii (mulR (by omega) (by omega))
@[simp] theorem mul_2 : vMul (.int 2) (.int i) S = some (.int (2 * i)) := vMul_ii (mulL (by omega) (by omega))
@[simp] theorem mul_m2 : vMul (.int (-2)) (.int i) S = some (.int (-2 * i)) := vMul_ii (mulL (by omega) (by omega))
@[simp] theorem mul_r : vMul (.int (i % 2147483647)) (.int (j % 2147483647)) S = some (.int (i % 2147483647 * (j % 2147483647))) := vMul_ii (mulL (by omega) (by omega))
@[simp] theorem vMod_ii : vMod (.int i) (.int j) S = if 0 < j then some (.int (i % j)) else none := rfl
open Classical in
theorem vDiv_if : vDiv (.int i) (.int j) S = if DivOk j then some (.int (i / j)) else none := rfl
theorem vDiv_ii (h0 : 0 < j) (h1 : j < 1073741824) : vDiv (.int i) (.int j) S = some (.int (i / j)) := by rw [vDiv_if, if_pos ⟨h0, h1⟩]
open Classical in
theorem vPow_if : vPow (.int i) (.int j) S = if PowOk i j then some (.int (i ^ j.toNat)) else none := rfl
@[simp] theorem vLt_ii : vLt (.int i) (.int j) S = some (.bl (decide (i < j))) := rfl
@[simp] theorem vLe_ii : vLe (.int i) (.int j) S = some (.bl (decide (i ≤ j))) := rfl
@[simp] theorem vGt_ii : vGt (.int i) (.int j) S = some (.bl (decide (j < i))) := rfl
@[simp] theorem vGe_ii : vGe (.int i) (.int j) S = some (.bl (decide (j ≤ i))) := rfl
@[simp] theorem vAdd_ii : vAdd (.int i) (.int j) S = some (.int (i + j)) := rfl
@[simp] theorem vAdd_tt : vAdd (.tup ds) (.tup es) S = if ds.length + es.length ≤ LIM then some (.tup (ds ++ es)) else none := by
  simp only [vAdd, vAddI, vI, vAddS, vAddT, vAddL, catL, lstOf, Option.none_or, Option.map_none, Option.or_none]
@[simp] theorem vAdd_ss {x y : Str} : vAdd (.str x) (.str y) S = if x.length + y.length ≤ LIM then some (.str (x ++ y)) else none := by
  simp only [vAdd, vAddI, vI, vAddS, vAddT, vAddL, catL, lstOf, Option.none_or, Option.map_none, Option.or_none]
@[simp] theorem vAdd_ll : vAdd (.lst ds) (.lst es) S = if ds.length + es.length ≤ LIM then some (.lst (ds ++ es)) else none := by
  simp only [vAdd, vAddI, vI, vAddS, vAddT, vAddL, catL, lstOf, Option.none_or]
  split <;> rfl
@[simp] theorem vAdd_ol {n : Nat} : vAdd (.obj n) (.lst es) S = match S[n]? with
    | some (.lst ds) => if ds.length + es.length ≤ LIM then some (.lst (ds ++ es)) else none
    | _ => none := by
  simp only [vAdd, vAddI, vI, vAddS, vAddT, vAddL, catL, lstOf, Option.none_or]
  cases S[n]? with
  | none => rfl
  | some o =>
    cases o with
    | lst ds => simp only; split <;> rfl
    | _ => rfl
theorem atI_nat' {α : Type} (xs : List α) (n : Nat) : atI xs (n : Int) = xs[n]? := by
  cases h : xs[n]? with
  | some v => exact atI_nat h
  | none =>
    have hl : xs.length ≤ n := List.getElem?_eq_none_iff.mp h
    unfold atI ixN
    rw [if_pos (by omega), if_neg (by omega)]; rfl
@[simp] theorem atI_zero {α : Type} (xs : List α) : atI xs 0 = xs[0]? := atI_nat' xs 0
@[simp] theorem atI_one {α : Type} (xs : List α) : atI xs 1 = xs[1]? := atI_nat' xs 1
@[simp] theorem atI_2 {α : Type} (xs : List α) : atI xs 2 = xs[2]? := atI_nat' xs 2
@[simp] theorem atI_3 {α : Type} (xs : List α) : atI xs 3 = xs[3]? := atI_nat' xs 3
@[simp] theorem atI_4 {α : Type} (xs : List α) : atI xs 4 = xs[4]? := atI_nat' xs 4
@[simp] theorem atI_5 {α : Type} (xs : List α) : atI xs 5 = xs[5]? := atI_nat' xs 5
@[simp] theorem atI_6 {α : Type} (xs : List α) : atI xs 6 = xs[6]? := atI_nat' xs 6
@[simp] theorem atI_7 {α : Type} (xs : List α) : atI xs 7 = xs[7]? := atI_nat' xs 7
@[simp] theorem atI_cast {α : Type} (xs : List α) (n : Nat) : atI xs (n : Int) = xs[n]? := atI_nat' xs n
theorem ixN_nat (m n : Nat) : ixN m (n : Int) = if n < m then some n else none := by
  unfold ixN
  by_cases h : n < m
  · rw [if_pos (by omega), if_pos (by omega), if_pos h]; simp
  · rw [if_pos (by omega), if_neg (by omega), if_neg h]
@[simp] theorem ixN_zero (m : Nat) : ixN m 0 = if 0 < m then some 0 else none := ixN_nat m 0
@[simp] theorem ixN_one (m : Nat) : ixN m 1 = if 1 < m then some 1 else none := ixN_nat m 1
@[simp] theorem ixN_2 (m : Nat) : ixN m 2 = if 2 < m then some 2 else none := ixN_nat m 2
@[simp] theorem ixN_3 (m : Nat) : ixN m 3 = if 3 < m then some 3 else none := ixN_nat m 3
@[simp] theorem ixN_4 (m : Nat) : ixN m 4 = if 4 < m then some 4 else none := ixN_nat m 4
@[simp] theorem ixN_5 (m : Nat) : ixN m 5 = if 5 < m then some 5 else none := ixN_nat m 5
@[simp] theorem ixN_6 (m : Nat) : ixN m 6 = if 6 < m then some 6 else none := ixN_nat m 6
@[simp] theorem ixN_7 (m : Nat) : ixN m 7 = if 7 < m then some 7 else none := ixN_nat m 7
@[simp] theorem ixN_cast (m n : Nat) : ixN m (n : Int) = if n < m then some n else none := ixN_nat m n
@[simp] theorem vIx_t : vIx (.tup ds) (.int i) S = atI ds i := rfl
@[simp] theorem vIx_l : vIx (.lst ds) (.int i) S = atI ds i := rfl
@[simp] theorem vIx_o {n : Nat} : vIx (.obj n) (.int i) S = match S[n]? with
    | some (.lst ds) => atI ds i
    | _ => none := by
  simp only [vIx, seqOf, lstOf]
  cases S[n]? with
  | none => rfl
  | some o => cases o <;> rfl
@[simp] theorem vLen_t : vLen [.tup ds] S = some (.int ds.length) := rfl
@[simp] theorem vLen_l : vLen [.lst ds] S = some (.int ds.length) := rfl
@[simp] theorem vLen_o {n : Nat} : vLen [.obj n] S = match S[n]? with
    | some (.lst ds) => some (.int ds.length)
    | _ => none := by
  simp only [vLen, seqOf, lstOf]
  cases S[n]? with
  | none => rfl
  | some o => cases o <;> rfl
@[simp] theorem vTuple_t : vTuple [.tup ds] S = some (.tup ds) := rfl
@[simp] theorem vTuple_l : vTuple [.lst ds] S = some (.tup ds) := rfl
@[simp] theorem vTuple_o {n : Nat} : vTuple [.obj n] S = match S[n]? with
    | some (.lst ds) => some (.tup ds)
    | _ => none := by
  simp only [vTuple, lstOf]
  cases S[n]? with
  | none => rfl
  | some o => cases o <;> rfl
@[simp] theorem vList_t : vList [.tup ds] S = some (.lst ds) := rfl
@[simp] theorem vList_l : vList [.lst ds] S = some (.lst ds) := rfl
@[simp] theorem vList_s {ns : List Int} : vList [.scr ns] S = some (.lst (ns.map .int)) := rfl
@[simp] theorem vList_o {n : Nat} : vList [.obj n] S = match S[n]? with
    | some (.lst ds) => some (.lst ds)
    | _ => none := by
  simp only [vList, seqOf, lstOf]
  cases S[n]? with
  | none => rfl
  | some o => cases o <;> rfl
@[simp] theorem vIntC_i : vIntC [.int i] S = some (.int i) := rfl
@[simp] theorem vIntC_b {b : Bool} : vIntC [.bl b] S = some (.int (if b then 1 else 0)) := rfl
@[simp] theorem ev_listO {r : MA} {env : Env1} : eListO r env S = (r env S).bind fun ds S1 => match vList ds S1 with
  | some (.lst es) => .ok (.obj S1.length) (S1 ++ [.lst es])
  | _ => .fail := rfl
@[simp] theorem kit_tt : kitB "tuple" "tuple" = some true := by decide +kernel
@[simp] theorem kit_ll : kitB "list" "list" = some true := by decide +kernel
@[simp] theorem kit_ii : kitB "int" "int" = some true := by decide +kernel
@[simp] theorem kit_bi : kitB "bool" "int" = some true := by decide +kernel
@[simp] theorem kit_ib : kitB "int" "bool" = some false := by decide +kernel
@[simp] theorem kit_bb : kitB "bool" "bool" = some true := by decide +kernel
@[simp] theorem kit_ss : kitB "str" "str" = some true := by decide +kernel
@[simp] theorem vIsi_t {n : String} : vIsi [.tup ds, .ty n] S = (kitB "tuple" n).map .bl := rfl
@[simp] theorem vIsi_l {n : String} : vIsi [.lst ds, .ty n] S = (kitB "list" n).map .bl := rfl
@[simp] theorem vIsi_i {n : String} : vIsi [.int i, .ty n] S = (kitB "int" n).map .bl := rfl
@[simp] theorem vIsi_b {n : String} {b : Bool} : vIsi [.bl b, .ty n] S = (kitB "bool" n).map .bl := rfl
@[simp] theorem vIsi_s {n : String} {x : Str} : vIsi [.str x, .ty n] S = (kitB "str" n).map .bl := rfl
@[simp] theorem vIsi_o {n : String} {k : Nat} : vIsi [.obj k, .ty n] S = match S[k]? with
    | some (.lst _) => (kitB "list" n).map .bl
    | some (.dic _ _) => (kitB "dict" n).map .bl
    | _ => none := by
  simp only [vIsi, tyName]
  cases S[k]? with
  | none => rfl
  | some o => cases o <;> rfl
@[simp] theorem truth_b {b : Bool} : truth S (.bl b) = some b := rfl
@[simp] theorem truth_n : truth S .non = some false := rfl
@[simp] theorem truth_t : truth S (.tup ds) = some (!ds.isEmpty) := rfl
@[simp] theorem truth_l : truth S (.lst ds) = some (!ds.isEmpty) := rfl
@[simp] theorem truth_o {n : Nat} : truth S (.obj n) = match S[n]? with
    | some (.lst ds) => some (!ds.isEmpty)
    | some (.dic ks _) => some (!ks.isEmpty)
    | _ => none := rfl
@[simp] theorem rdS_o {n : Nat} : rdS S (.obj n) = match S[n]? with
    | some (.lst ds) => .lst ds
    | _ => .obj n := rfl
@[simp] theorem rdS_t : rdS S (.tup ds) = .tup ds := rfl
@[simp] theorem rdS_l : rdS S (.lst ds) = .lst ds := rfl
@[simp] theorem rdS_i : rdS S (.int i) = .int i := rfl
@[simp] theorem rdS_s {x : Str} : rdS S (.str x) = .str x := rfl
@[simp] theorem rdS_b {b : Bool} : rdS S (.bl b) = .bl b := rfl
@[simp] theorem rdS_n : rdS S .non = .non := rfl
@[simp] theorem isL_o {n : Nat} : isL S (.obj n) = match S[n]? with
    | some (.lst _) => true
    | _ => false := rfl
@[simp] theorem lMeth_o {f : OpL} {n : Nat} {args : List D} : lMeth f (.obj n) args S = match S[n]? with
    | some (.lst es) => match f es args with
      | some (r, es') => .ok r (S.set n (.lst es'))
      | none => .fail
    | _ => .fail := rfl
@[simp] theorem fApp {x : D} : fAppend es [x] = if es.length < LIM then some (.non, es ++ [x]) else none := rfl
@[simp] theorem fPop0 {x : D} : fPopAt (x :: es) [.int 0] = some (x, es) := by
  simp [fPopAt]
end
end Fu
namespace Fu
open PySem PySem.Spec PyProof.Rows L2
@[simp] theorem scs_ints (k : Nat) (ns : List Int) : scs k (ns.map D.int) = true := by
  induction ns with
  | nil => rfl
  | cons n ns ih => simp [scs, sc, ih]
theorem scs_map {α : Type} {f : α → D} {k : Nat} (h : ∀ x, sc k (f x) = true) (l : List α) : scs k (l.map f) = true := by
  induction l with
  | nil => rfl
  | cons n ns ih => simp [scs, h, ih]
end Fu
namespace Fu
open PySem PySem.Spec PyProof.Rows L2
section
variable {S : List O} {k : Nat} {ds : List D} {d : D}
@[simp] theorem frz_i {i : Int} : frz S k (.int i) = some (.int i) := rfl
@[simp] theorem frz_b {i : Bool} : frz S k (.bl i) = some (.bl i) := rfl
@[simp] theorem frz_s {i : Str} : frz S k (.str i) = some (.str i) := rfl
@[simp] theorem frz_n : frz S k .non = some .non := rfl
@[simp] theorem frz_t : frz S k (.tup ds) = if scs k ds then some (.tup ds) else none := rfl
@[simp] theorem frz_l : frz S k (.lst ds) = if scs k ds then some (.lst ds) else none := rfl
@[simp] theorem frz_ins {C : Addr} {ns : List Str} : frz S k (.ins C ns ds) = if scs k ds then some (.ins C ns ds) else none := rfl
@[simp] theorem frz_dic {ks : List Key} : frz S k (.dic ks ds) = if scs k ds then some (.dic ks ds) else none := rfl
theorem frz_o {n : Nat} : frz S k (.obj n) = if n < k then some (.obj n) else match S[n]? with
    | some (.lst ds) => if scs k ds then some (.lst ds) else none
    | some (.ins C ns ds) => if scs k ds then some (.ins C ns ds) else none
    | some (.dic ks ds) => if scs k ds then some (.dic ks ds) else none
    | none => none := rfl
@[simp] theorem sc_i {i : Int} : sc k (.int i) = true := rfl
@[simp] theorem sc_b {i : Bool} : sc k (.bl i) = true := rfl
@[simp] theorem sc_s {i : Str} : sc k (.str i) = true := rfl
@[simp] theorem sc_n : sc k .non = true := rfl
@[simp] theorem sc_ty {n : String} : sc k (.ty n) = true := rfl
@[simp] theorem sc_t : sc k (.tup ds) = scs k ds := rfl
@[simp] theorem sc_l : sc k (.lst ds) = scs k ds := rfl
@[simp] theorem sc_ins {C : Addr} {ns : List Str} : sc k (.ins C ns ds) = scs k ds := rfl
@[simp] theorem sc_dic {ks : List Key} : sc k (.dic ks ds) = scs k ds := rfl
@[simp] theorem sc_o {n : Nat} : sc k (.obj n) = decide (n < k) := rfl
@[simp] theorem scs_nil : scs k [] = true := rfl
@[simp] theorem scs_cons : scs k (d :: ds) = (sc k d && scs k ds) := rfl
@[simp] theorem scO_l : scO k (.lst ds) = scs k ds := rfl
@[simp] theorem scO_i {C : Addr} {ns : List Str} : scO k (.ins C ns ds) = scs k ds := rfl
@[simp] theorem scO_d {ks : List Key} : scO k (.dic ks ds) = scs k ds := rfl
@[simp] theorem endOf_rt : endOf (.rt d S) k = if (S.take k).all (scO k) then match frz S k d with
    | some d' => .ok d' (S.take k)
    | none => .fail
    else .fail := rfl
@[simp] theorem endOf_nx {env : Env1} : endOf (.nx env S) k = if (S.take k).all (scO k) then .ok .non (S.take k) else .fail := rfl
theorem bodyFn_eq {N : Nat} {m : MS} {j : Nat} : bodyFn N m j ds S = endOf (m (env0 N ds) S) (S.length + j) := rfl
end
end Fu

namespace Fu
open PySem PySem.Spec PyProof.Rows L2
section
variable {env : Env1} {S : List O} {f g : Op2} {a b c : ME} {t u : MT} {r : MA} {m1 m2 : MS} {ds es : List D} {d : D} {T : Tg} {body : MS} {n : Nat}
@[simp] theorem chk_none : Src.Chk ⟨ds, none⟩ S = True := rfl
@[simp] theorem chk_some : Src.Chk ⟨ds, some n⟩ S = (S[n]? = some (.lst ds)) := rfl
theorem forL_nil {s : Src} (h : s.Chk S) : forL s T body [] env S = .nx env S := by unfold forL; rw [if_pos h]
theorem forL_cons {s : Src} (h : s.Chk S) : forL s T body (d :: ds) env S = match asg T d env with
      | none => .fail
      | some env1 => match body env1 S with
        | .nx env2 S2 => forL s T body ds env2 S2
        | .ct env2 S2 => forL s T body ds env2 S2
        | .bk env2 S2 => .nx env2 S2
        | r => r := by
  conv => lhs; unfold forL
  (rw [if_pos h]) <;> rfl
@[simp] theorem forL_nil0 : forL ⟨es, none⟩ T body [] env S = .nx env S := forL_nil trivial
theorem forL_cons0 : forL ⟨es, none⟩ T body (d :: ds) env S = match asg T d env with
      | none => .fail
      | some env1 => match body env1 S with
        | .nx env2 S2 => forL ⟨es, none⟩ T body ds env2 S2
        | .ct env2 S2 => forL ⟨es, none⟩ T body ds env2 S2
        | .bk env2 S2 => .nx env2 S2
        | r => r := forL_cons (s := ⟨es, none⟩) trivial
theorem compL_nil {s : Src} {ts : MT} {elt : ME} {acc : List D} (h : s.Chk S) : compL s T ts elt env [] S acc = .ok acc S := by unfold compL; rw [if_pos h]
theorem compL_cons {s : Src} {ts : MT} {elt : ME} {acc : List D} (h : s.Chk S) : compL s T ts elt env (d :: ds) S acc = match asg T d env with
      | none => .fail
      | some env1 => match ts env1 S with
        | .ok true S1 => (match elt env1 S1 with
          | .ok y S2 => if acc.length < LIM then compL s T ts elt env ds S2 (acc ++ [y]) else .fail
          | _ => .fail)
        | .ok false S1 => compL s T ts elt env ds S1 acc
        | _ => .fail := by
  conv => lhs; unfold compL
  (rw [if_pos h]) <;> rfl
/-- a comprehension that changes nothing: a map and a filter -/
theorem compL_map {α : Type} {s : Src} {ts : MT} {elt : ME} {f : α → D} (e : α → Env1) (p : α → Bool) (g : α → D) (hs : s.Chk S) : ∀ (l : List α) (acc : List D), (∀ x ∈ l, asg T (f x) env = some (e x)) → (∀ x ∈ l, ts (e x) S = .ok (p x) S) → (∀ x ∈ l, p x = true → elt (e x) S = .ok (g x) S) →
    acc.length + l.length ≤ LIM → compL s T ts elt env (l.map f) S acc = .ok (acc ++ (l.filter p).map g) S
  | [], acc, _, _, _, _ => by rw [List.map_nil, compL_nil hs]; simp
  | x :: l, acc, h1, h2, h3, hl => by
    simp only [List.length_cons] at hl
    rw [List.map_cons, compL_cons hs, h1 x List.mem_cons_self]
    simp only [h2 x List.mem_cons_self]
    cases hp : p x with
    | true =>
      simp only [h3 x List.mem_cons_self hp]
      rw [if_pos (by omega), compL_map e p g hs l _ (fun y hy => h1 y (List.mem_cons_of_mem _ hy)) (fun y hy => h2 y (List.mem_cons_of_mem _ hy)) (fun y hy => h3 y (List.mem_cons_of_mem _ hy)) (by simp; omega)]
      simp [hp]
    | false =>
      simp only
      rw [compL_map e p g hs l _ (fun y hy => h1 y (List.mem_cons_of_mem _ hy)) (fun y hy => h2 y (List.mem_cons_of_mem _ hy)) (fun y hy => h3 y (List.mem_cons_of_mem _ hy)) (by omega)]
      simp [hp]
@[simp] theorem ev_comp {vs : List Nat} {mi : MI} {ts : MT} {elt : ME} : eComp vs mi T ts elt env S = (mi env S).bind fun s S1 => (compL s T ts elt (wipeE env vs) s.ds S1 []).bind fun acc S2 => .ok (.lst acc) S2 := rfl
@[simp] theorem ev_compO {vs : List Nat} {mi : MI} {ts : MT} {elt : ME} : eCompO vs mi T ts elt env S = (mi env S).bind fun s S1 => (compL s T ts elt (wipeE env vs) s.ds S1 []).bind fun acc S2 => .ok (.obj S2.length) (S2 ++ [.lst acc]) := rfl
@[simp] theorem ev_for {mi : MI} : sFor mi T body env S = (mi env S).bindS env fun s S1 => forL s T body s.ds env S1 := rfl
@[simp] theorem wipe_nil : wipeE env [] = env := rfl
@[simp] theorem wipe_cons {v : Nat} {vs : List Nat} : wipeE env (v :: vs) = (wipeE env vs).set v none := rfl
@[simp] theorem asg_n {i : Nat} : asg (.n i) d env = some (env.set i (some d)) := rfl
@[simp] theorem asg_t {Ts : List Tg} : asg (.t Ts) (.tup ds) env = asgs Ts ds env := rfl
@[simp] theorem asgs_nil : asgs [] [] env = some env := rfl
@[simp] theorem asgs_cons {Ts : List Tg} : asgs (T :: Ts) (d :: ds) env = match asg T d env with
    | some env' => asgs Ts ds env'
    | none => none := rfl
@[simp] theorem ev_seq1 : iSeq1 a env S = (a env S).bind fun d S1 => match d with
  | .tup ds => .ok ⟨ds, none⟩ S1
  | .lst ds => .ok ⟨ds, none⟩ S1
  | .scr ns => .ok ⟨ns.map D.int, none⟩ S1
  | .obj n => match S1[n]? with
    | some (.lst ds) => .ok ⟨ds, some n⟩ S1
    | _ => .fail
  | _ => .fail := rfl
theorem ev_range1 {j : Int} (hm : r env S = .ok [.int j] S) (h : SmallR j) : iRange1 r env S = .ok ⟨rangeD 0 j.toNat, none⟩ S := by
  unfold iRange1; rw [hm]; simp only [bind_ok]; rw [if_pos h]
theorem small_of {j : Int} (h0 : -1000000000 ≤ j) (h1 : j ≤ 1000000000) : SmallR j := ⟨by omega, by omega⟩
open Classical in
@[simp] theorem ev_range1' : iRange1 r env S = (r env S).bind fun ds S1 => match ds with
  | [.int j] => if SmallR j then .ok ⟨rangeD 0 j.toNat, none⟩ S1 else .fail
  | _ => .fail := rfl
open Classical in
@[simp] theorem ev_range2' : iRange2 r env S = (r env S).bind fun ds S1 => match ds with
  | [.int i, .int j] => if SmallR i ∧ SmallR j then .ok ⟨rangeD i (j - i).toNat, none⟩ S1 else .fail
  | _ => .fail := rfl
@[simp] theorem ev_onone : oNone env S = .ok none S := rfl
@[simp] theorem ev_osome : oSome a env S = (a env S).bind fun d S1 => match d with
  | .int i => .ok (some i) S1
  | _ => .fail := rfl
@[simp] theorem ev_sl {lo hi : MO} : eSl a lo hi env S = (a env S).bind fun d S1 => (lo env S1).bind fun l S2 => (hi env S2).bind fun h S3 => liftO (vSl d l h S3) S3 := rfl
@[simp] theorem vSl_t {lo hi : Option Int} : vSl (.tup ds) lo hi S = some (.tup (cut ds lo hi)) := rfl
@[simp] theorem vSl_l {lo hi : Option Int} : vSl (.lst ds) lo hi S = some (.lst (cut ds lo hi)) := rfl
theorem cut_from {α : Type} (xs : List α) (k : Nat) : cut xs (some (k : Int)) none = xs.drop k := by
  unfold cut
  rw [HT.sIx_nat, HT.sIx_none]
  by_cases h : k ≤ xs.length
  · rw [Nat.min_eq_left h]
    exact List.take_of_length_le (by simp)
  · rw [Nat.min_eq_right (by omega)]
    simp only [Nat.sub_self, List.take_zero]
    rw [List.drop_eq_nil_of_le (by omega)]
@[simp] theorem cut_1 {α : Type} (xs : List α) : cut xs (some 1) none = xs.drop 1 := cut_from xs 1
@[simp] theorem ev_lenset : eLenSet a env S = (a env S).bind fun d S1 => match (lstOf S1 d).bind intsOf with
  | some ns => if ns.Nodup ∧ ns.length ≤ 4000 then .ok (.int ns.length) S1 else .fail
  | none => .fail := rfl
@[simp] theorem lstOf_l : lstOf S (.lst ds) = some ds := rfl
@[simp] theorem seqOf_l : seqOf S (.lst ds) = some ds := rfl
@[simp] theorem seqOf_t : seqOf S (.tup ds) = some ds := rfl
@[simp] theorem lstOf_o : lstOf S (.obj n) = match S[n]? with
    | some (.lst ds) => some ds
    | _ => none := rfl
@[simp] theorem seqOf_o : seqOf S (.obj n) = match S[n]? with
    | some (.lst ds) => some ds
    | _ => none := rfl
@[simp] theorem intsOf_map (ns : List Int) : intsOf (ns.map .int) = some ns := by
  induction ns with
  | nil => rfl
  | cons n ns ih => simp [intsOf, ih]
/-! ### == -/
@[simp] theorem deq_ii {i j : Int} : deq (.int i) (.int j) = decide (i = j) := by simp [deq, Bool.beq_eq_decide_eq]
@[simp] theorem deq_ss {i j : Str} : deq (.str i) (.str j) = (i == j) := by simp [deq]
@[simp] theorem deq_bb {i j : Bool} : deq (.bl i) (.bl j) = (i == j) := by simp [deq]
@[simp] theorem deq_nn : deq .non .non = true := by simp [deq]
@[simp] theorem deq_tt : deq (.tup ds) (.tup es) = deqs ds es := by simp [deq]
@[simp] theorem deq_ll : deq (.lst ds) (.lst es) = deqs ds es := by simp [deq]
@[simp] theorem deqs_nil : deqs [] [] = true := by simp [deqs]
@[simp] theorem deqs_cons : deqs (d :: ds) (e :: es) = (deq d e && deqs ds es) := by simp [deqs]
@[simp] theorem deqs_nc : deqs [] (e :: es) = false := by simp [deqs]
@[simp] theorem deqs_cn : deqs (d :: ds) [] = false := by simp [deqs]
theorem deqs_map {α : Type} [DecidableEq α] {f : α → D} (h : ∀ x y, deq (f x) (f y) = decide (x = y)) : ∀ l l' : List α, deqs (l.map f) (l'.map f) = decide (l = l')
  | [], [] => by simp
  | [], _ :: _ => by simp
  | _ :: _, [] => by simp
  | x :: l, y :: l' => by
    simp only [List.map_cons, deqs_cons, h, deqs_map h l l', List.cons.injEq, Bool.decide_and]
theorem anyEq_map {α : Type} [DecidableEq α] {f : α → D} (h : ∀ x y, deq (f x) (f y) = decide (x = y)) (x : α) : ∀ l : List α, anyEq (f x) (l.map f) = decide (x ∈ l)
  | [] => by simp [anyEq]
  | y :: l => by
    simp only [List.map_cons, anyEq, h, anyEq_map h x l, List.mem_cons, Bool.decide_or]
    congr 1
    by_cases e : y = x
    · simp [e]
    · simp [e, Ne.symm e]
/-! ### plain data -/
@[simp] theorem nice_i {k : Nat} {i : Int} : nice k (.int i) = true := by simp [nice]
@[simp] theorem nice_b {k : Nat} {i : Bool} : nice k (.bl i) = true := by simp [nice]
@[simp] theorem nice_n {k : Nat} : nice k .non = true := by simp [nice]
@[simp] theorem nice_s {k : Nat} {x : Str} : nice k (.str x) = PyData.strOk x := by simp [nice]
@[simp] theorem nice_t {k : Nat} : nice k (.tup ds) = (decide (0 < k) && nices (k - 1) ds) := by simp [nice]
@[simp] theorem nice_l {k : Nat} : nice k (.lst ds) = (decide (0 < k) && nices (k - 1) ds) := by simp [nice]
@[simp] theorem nices_nil {k : Nat} : nices k [] = true := by simp [nices]
@[simp] theorem nices_cons {k : Nat} : nices k (d :: ds) = (nice k d && nices k ds) := by simp [nices]
theorem nices_map {α : Type} {f : α → D} {k : Nat} (h : ∀ x, nice k (f x) = true) : ∀ l : List α, nices k (l.map f) = true
  | [] => rfl
  | x :: l => by simp [h, nices_map h l]
@[simp] theorem vEq_eq {x y : D} : vEq x y S = if nice 40 (rdS S x) && nice 40 (rdS S y) then some (.bl (deq (rdS S x) (rdS S y))) else none := rfl
@[simp] theorem vNe_eq {x y : D} : vNe x y S = if nice 40 (rdS S x) && nice 40 (rdS S y) then some (.bl (!deq (rdS S x) (rdS S y))) else none := rfl
@[simp] theorem vIn_eq {neg : Bool} {x y : D} : vIn neg x y S = match seqOf S y with
  | some ds => if nice 40 x && nices 40 ds then some (.bl (if neg then !anyEq x ds else anyEq x ds)) else none
  | none => none := rfl
@[simp] theorem scs_append {k : Nat} : scs k (ds ++ es) = (scs k ds && scs k es) := by
  induction ds with
  | nil => simp
  | cons d ds ih => simp [ih, Bool.and_assoc]
theorem compL_map0 {α : Type} {ts : MT} {elt : ME} {f : α → D} (l : List α) (e : α → Env1) (p : α → Bool) (g : α → D) (h1 : ∀ x ∈ l, asg T (f x) env = some (e x)) (h2 : ∀ x ∈ l, ts (e x) S = .ok (p x) S) (h3 : ∀ x ∈ l, p x = true → elt (e x) S = .ok (g x) S)
    (hl : l.length ≤ LIM) : compL ⟨es, none⟩ T ts elt env (l.map f) S [] = .ok ((l.filter p).map g) S := by
  have := compL_map (s := ⟨es, none⟩) (S := S) e p g trivial l [] h1 h2 h3 (by simpa using hl)
  simpa using this
/-- .. without a test -/
theorem compL_all {α : Type} {elt : ME} {f : α → D} (l : List α) (e : α → Env1) (g : α → D) (h1 : ∀ x ∈ l, asg T (f x) env = some (e x)) (h3 : ∀ x ∈ l, elt (e x) S = .ok (g x) S)
    (hl : l.length ≤ LIM) : compL ⟨es, none⟩ T tYes1 elt env (l.map f) S [] = .ok (l.map g) S := by
  rw [compL_map0 l e (fun _ => true) g h1 (fun _ _ => rfl) (fun x hx _ => h3 x hx) hl, List.filter_eq_self.mpr (fun _ _ => rfl)]
theorem rangeD_zero (lo : Int) : rangeD lo 0 = [] := rfl
theorem rangeD_succ (lo : Int) (n : Nat) : rangeD lo (n + 1) = .int lo :: rangeD (lo + 1) n := by
  unfold rangeD
  rw [List.range_succ_eq_map, List.map_cons, List.map_map]
  congr 1
  · simp
  · apply List.map_congr_left
    intro i _
    simp only [Function.comp, Nat.succ_eq_add_one]
    congr 1
    omega
/-! ### the store's end -/
@[simp] theorem at_end {x : O} : (S ++ [x])[S.length]? = some x := by simp
@[simp] theorem set_end {x y : O} : (S ++ [x]).set S.length y = S ++ [y] := by
  rw [List.set_append_right _ _ (Nat.le_refl _)]; simp
@[simp] theorem take_end {x : O} : (S ++ [x]).take (S.length + 0) = S := by simp
/-- nothing in the store points beyond it -/
def WS (S : List O) : Prop := S.all (scO S.length) = true
theorem ws_all {S : List O} (h : WS S) : ∀ o ∈ S, scO S.length o = true := by simpa [WS] using h
end
end Fu

namespace Lw
open PySem PySem.Spec PyProof.Rows L2 Fu
noncomputable def m_law_next : MS :=
  (sSeq (sIf (tBl (eOp vLt (eOp vIx (eVar 0) (eC (.int 1))) (eVar 1))) (sIf (tBl (eOp vGt (eCB vLen (aCons (eOp vIx (eVar 0) (eC (.int 0))) aNil)) (eC (.int 0)))) (sSeq (sSet 2 (eMeth fPopAt (eOp vIx (eVar 0) (eC (.int 0))) (aCons (eC (.int 0)) aNil)))
    (sSeq (sSetIx (eIf (tBl (eOp vGe (eVar 2) (eC (.int 0)))) (eOp vMul (eC (.int 2)) (eVar 2)) (eOp vSub (eOp vMul (eNeg (eC (.int 2))) (eVar 2)) (eC (.int 1)))) (eVar 0) (eC (.int 1)))
    (sSetIx (eOp vMod (eCB vIntC (aCons (eOp vAdd (eOp vMul (eOp vIx (eVar 0) (eC (.int 2))) (eC (.int 69621))) (eOp vIx (eVar 0) (eC (.int 1)))) aNil)) (eC (.int 2147483647))) (eVar 0) (eC (.int 2))))) (sSeq (sSetIx (eOp vMod (eCB vIntC (aCons (eOp vAdd (eOp vMul (eOp vIx (eVar 0) (eC (.int 2))) (eC (.int 48271))) (eC (.int 11))) aNil)) (eC (.int 2147483647))) (eVar 0) (eC (.int 2)))
    (sSetIx (eOp vMod (eCB vIntC (aCons (eOp vMul (eOp vIx (eVar 0) (eC (.int 2))) (eOp vIx (eVar 0) (eC (.int 2)))) aNil)) (eC (.int 1000003))) (eVar 0) (eC (.int 1))))) sNil)
    (sSeq (sSet 3 (eOp vMod (eCB vIntC (aCons (eOp vIx (eVar 0) (eC (.int 1))) aNil)) (eVar 1)))
    (sSeq (sSetIx (eOp vDiv (eOp vIx (eVar 0) (eC (.int 1))) (eVar 1)) (eVar 0) (eC (.int 1)))
    (sRet (eVar 3)))))
noncomputable def f_law_next : Fn := fun ds S => noErr (bodyFn 4 m_law_next 0 ds S)
noncomputable def m_law_put_b1 : MS :=
  (sIf (tBl (eOp vEq (eOp vIx (eOp vIx (eVar 2) (eVar 3)) (eC (.int 0))) (eOp vIx (eVar 1) (eC (.int 0))))) (sSeq (sSetIx (eVar 1) (eVar 2) (eVar 3))
    (sRet (eCB vTuple (aCons (eVar 2) aNil)))) sNil)
noncomputable def m_law_put : MS :=
  (sSeq (sSet 2 (eListO (aCons (eVar 0) aNil)))
    (sSeq (sFor (iRange1 (aCons (eCB vLen (aCons (eVar 2) aNil)) aNil)) (.n 3) m_law_put_b1)
    (sRet (eCB vTuple (aCons (eOp vAdd (eVar 2) (eLst (aCons (eVar 1) aNil))) aNil)))))
noncomputable def f_law_put : Fn := fun ds S => noErr (bodyFn 4 m_law_put 0 ds S)
noncomputable def m_put_e1 : ME :=
  (eIf (tBl (eOp vEq (eOp vIx (eVar 3) (eC (.int 0))) (eOp vIx (eVar 1) (eC (.int 0))))) (eVar 1) (eVar 3))
noncomputable def m_put : MS :=
  (sSeq (sSet 2 (eCompO [3] (iSeq1 (eVar 0)) (.n 3) tYes1 m_put_e1))
    (sSeq (sIf (tBl (eOp (vIn true) (eVar 1) (eVar 2))) (sExpr (eMeth fAppend (eVar 2) (aCons (eVar 1) aNil))) sNil)
    (sRet (eCB vTuple (aCons (eVar 2) aNil)))))
noncomputable def f_put : Fn := fun ds S => noErr (bodyFn 4 m_put 0 ds S)
noncomputable def m_law_b1 : MS :=
  (sIf (tNot1 (tTru (eCB vIsi (aCons (eVar 7) (aCons (eC (.ty "tuple")) aNil))))) (sRet (eC (.bl false))) sNil)
noncomputable def m_law_e2 : ME :=
  (eOp vIx (eVar 7) (eC (.int 0)))
noncomputable def m_law_b3 : MS :=
  (sSeq (sSet 4 (eTup (aCons (eCall 2 f_law_next (aCons (eVar 1) (aCons (eC (.int 4)) aNil))) (aCons (eCall 2 f_law_next (aCons (eVar 1) (aCons (eC (.int 8)) aNil))) aNil))))
    (sSeq (sIf (tAnd1 (tBl (eOp vGt (eCB vLen (aCons (eVar 2) aNil)) (eC (.int 0)))) (tBl (eOp vEq (eCall 2 f_law_next (aCons (eVar 1) (aCons (eC (.int 4)) aNil))) (eC (.int 0))))) (sSet 4 (eOp vIx (eVar 2) (eCall 2 f_law_next (aCons (eVar 1) (aCons (eCB vLen (aCons (eVar 2) aNil)) aNil))))) sNil)
    (sSeq (sSet 5 (eCall 2 f_law_put (aCons (eVar 2) (aCons (eVar 4) aNil))))
    (sSeq (sSet 6 (eCall 2 f_put (aCons (eVar 2) (aCons (eVar 4) aNil))))
    (sSeq (sIf (tOr1 (tNot1 (tTru (eCB vIsi (aCons (eVar 6) (aCons (eC (.ty "tuple")) aNil))))) (tBl (eOp vNe (eVar 6) (eVar 5)))) (sRet (eC (.bl false))) sNil)
    (sSeq (sFor (iSeq1 (eVar 6)) (.n 7) m_law_b1)
    (sSeq (sSet 8 (eComp [7] (iSeq1 (eVar 6)) (.n 7) tYes1 m_law_e2))
    (sSeq (sIf (tOr1 (tBl (eOp vNe (eLenSet (eVar 8)) (eCB vLen (aCons (eVar 8) aNil)))) (tBl (eOp (vIn true) (eVar 4) (eVar 6)))) (sRet (eC (.bl false))) sNil)
    (sSeq (sSet 2 (eVar 6))
    (sIf (tBl (eOp vEq (eCall 2 f_law_next (aCons (eVar 1) (aCons (eC (.int 3)) aNil))) (eC (.int 0)))) (sSet 2 (eSl (eVar 2) (oSome (eC (.int 1))) oNone)) sNil))))))))))
noncomputable def m_law : MS :=
  (sSeq (sSet 1 (eLstO (aCons (eListO (aCons (eVar 0) aNil)) (aCons (eC (.int 0)) (aCons (eC (.int 1)) aNil)))))
    (sSeq (sSet 2 (eTup aNil))
    (sSeq (sFor (iRange1 (aCons (eOp vAdd (eC (.int 1)) (eCall 2 f_law_next (aCons (eVar 1) (aCons (eC (.int 20)) aNil)))) aNil)) (.n 3) m_law_b3)
    (sRet (eC (.bl true))))))
noncomputable def f_law : Fn := fun ds S => noErr (bodyFn 9 m_law 0 ds S)
end Lw
namespace Lw
open PySem PySem.Spec PyProof.Rows L2 Fu
/-! the draws -/
structure LS where
  s : List Int
  c : Int
  h : Int
def stO (x : LS) : List O := [.lst (x.s.map .int), .lst [.obj 0, .int x.c, .int x.h]]
def refill (x : LS) : LS := match x.s with
  | [] => ⟨[], ((x.h * 48271 + 11) % 2147483647 * ((x.h * 48271 + 11) % 2147483647)) % 1000003, (x.h * 48271 + 11) % 2147483647⟩
  | a :: r => ⟨r, if 0 ≤ a then 2 * a else -2 * a - 1, (x.h * 69621 + (if 0 ≤ a then 2 * a else -2 * a - 1)) % 2147483647⟩
def ready (x : LS) (k : Int) : LS := if x.c < k then refill x else x
def drawV (x : LS) (k : Int) : Int := (ready x k).c % k
def drawS (x : LS) (k : Int) : LS := ⟨(ready x k).s, (ready x k).c / k, (ready x k).h⟩
theorem next_eq (x : LS) (k : Int) (R : List O) (h0 : 0 < k) (h1 : k < 1073741824) (hR : ∀ o ∈ R, scO (R.length + 2) o = true) : f_law_next [.obj 1, .int k] (stO x ++ R) = .ok (.int (drawV x k)) (stO (drawS x k) ++ R) := by
  obtain ⟨s, c, h⟩ := x
  by_cases hc : c < k
  · cases s with
    | nil =>
      simp [f_law_next, bodyFn_eq, m_law_next, env0, eVar, stO, hc, h0, vDiv_ii h0 h1, drawV, drawS, ready, refill]
      (rw [if_pos hR]) <;> rfl
    | cons a r =>
      by_cases ha : 0 ≤ a
      · simp [f_law_next, bodyFn_eq, m_law_next, env0, eVar, stO, hc, h0, vDiv_ii h0 h1, drawV, drawS, ready, refill, ha]
        (rw [if_pos hR]) <;> rfl
      · simp [f_law_next, bodyFn_eq, m_law_next, env0, eVar, stO, hc, h0, vDiv_ii h0 h1, drawV, drawS, ready, refill, ha]
        (rw [if_pos hR]) <;> rfl
  · simp [f_law_next, bodyFn_eq, m_law_next, env0, eVar, stO, hc, h0, vDiv_ii h0 h1, drawV, drawS, ready]
    (rw [if_pos hR]) <;> rfl
theorem draw_lt (x : LS) (k : Int) (h : 0 < k) : 0 ≤ drawV x k ∧ drawV x k < k := ⟨Int.emod_nonneg _ (by omega), Int.emod_lt_of_pos _ h⟩
theorem next0 (x : LS) (k : Int) (h0 : 0 < k) (h1 : k < 1073741824) : f_law_next [.obj 1, .int k] (stO x) = .ok (.int (drawV x k)) (stO (drawS x k)) := by
  have := next_eq x k [] h0 h1 (by simp)
  simpa using this
/-! put -/
abbrev Msg := Int × Int
def encM (m : Msg) : D := .tup [.int m.1, .int m.2]
def encQ (q : List Msg) : D := .tup (q.map encM)
theorem encM_eq (m n : Msg) : deq (encM m) (encM n) = decide (m = n) := by
  obtain ⟨a, b⟩ := m; obtain ⟨c, d⟩ := n
  simp [encM]
theorem encM_nice (k : Nat) (m : Msg) (h : 0 < k) : nice k (encM m) = true := by simp [encM, h]
theorem encM_sc (k : Nat) (m : Msg) : sc k (encM m) = true := by simp [encM]
def swapIn (q : List Msg) (m : Msg) : List Msg := q.map fun o => if o.1 = m.1 then m else o
def putQ (q : List Msg) (m : Msg) : List Msg := if m ∈ swapIn q m then swapIn q m else swapIn q m ++ [m]
theorem put_eq (q : List Msg) (m : Msg) (S : List O) (hS : WS S) (hq : q.length ≤ 1000) : f_put [encQ q, encM m] S = .ok (encQ (putQ q m)) S := by
  have hc : compL ⟨q.map encM, none⟩ (.n 3) tYes1 m_put_e1 [some (encQ q), some (encM m), none, none] (q.map encM) S [] = .ok ((swapIn q m).map encM) S := by
    rw [compL_all q (fun x => [some (encQ q), some (encM m), none, some (encM x)]) (fun o => encM (if o.1 = m.1 then m else o)) (fun x _ => by simp) (fun x _ => by
        obtain ⟨a, b⟩ := x; obtain ⟨c, d⟩ := m
        by_cases h : a = c <;> simp [m_put_e1, eVar, encM, h]) (lim_ok (by omega))]
    simp [swapIn]
  have hl : (swapIn q m).length ≤ 1000 := by simp [swapIn, hq]
  have ha := anyEq_map encM_eq m (swapIn q m)
  have hn : nices 40 ((swapIn q m).map encM) = true := nices_map (fun x => encM_nice 40 x (by decide)) _
  have hn2 : nice 40 (encM m) = true := encM_nice 40 m (by decide)
  have hs : ∀ l : List Msg, scs S.length (l.map encM) = true := fun l => scs_map (encM_sc _) l
  have hS' : ∀ o ∈ S, scO S.length o = true := by simpa [WS] using hS
  by_cases h : m ∈ swapIn q m
  · simp [f_put, bodyFn_eq, m_put, env0, eVar, encQ]
    rw [show D.tup (q.map encM) = encQ q from rfl, hc]
    simp [hn, hn2, ha, h, hs, putQ]
    (rw [if_pos hS']) <;> rfl
  · have hlt : (swapIn q m).length < LIM := lim_lt (by omega)
    simp [f_put, bodyFn_eq, m_put, env0, eVar, encQ]
    rw [show D.tup (q.map encM) = encQ q from rfl, hc]
    simp [hn, hn2, ha, h, hs, putQ, hlt, encM_sc]
    (rw [if_pos hS']) <;> rfl
end Lw

namespace Lw
open PySem PySem.Spec PyProof.Rows L2 Fu
def putF : List Msg → Msg → Option (List Msg)
  | [], _ => none
  | o :: r, m => if o.1 = m.1 then some (m :: r) else (putF r m).map (o :: ·)
theorem lput_loop (q0 : D) (m : Msg) (S : List O) (ds0 : List D) : ∀ (suf pre : List Msg) (o : Option D), 
    (∀ r, putF suf m = some r → forL ⟨ds0, none⟩ (.n 3) m_law_put_b1 (rangeD pre.length suf.length) [some q0, some (encM m), some (.obj S.length), o] (S ++ [.lst ((pre ++ suf).map encM)]) = .rt (encQ (pre ++ r)) (S ++ [.lst ((pre ++ r).map encM)])) ∧
    (putF suf m = none → ∃ o', forL ⟨ds0, none⟩ (.n 3) m_law_put_b1 (rangeD pre.length suf.length) [some q0, some (encM m), some (.obj S.length), o] (S ++ [.lst ((pre ++ suf).map encM)]) = .nx [some q0, some (encM m), some (.obj S.length), o'] (S ++ [.lst ((pre ++ suf).map encM)]))
  | [], pre, o => ⟨fun r h => by simp [putF] at h, fun _ => ⟨o, by simp [rangeD_zero]⟩⟩
  | x :: suf, pre, o => by
    have ih := lput_loop q0 m S ds0 suf (pre ++ [x]) (some (.int pre.length))
    have hg : ((pre ++ x :: suf).map encM)[pre.length]? = some (encM x) := by simp
    have e1 : pre ++ [x] ++ suf = pre ++ x :: suf := by simp
    have e2 : (pre ++ [x]).length = pre.length + 1 := by simp
    rw [e1, e2] at ih
    have step : forL ⟨ds0, none⟩ (.n 3) m_law_put_b1 (rangeD pre.length (x :: suf).length) [some q0, some (encM m), some (.obj S.length), o] (S ++ [.lst ((pre ++ x :: suf).map encM)]) =
        if x.1 = m.1 then .rt (encQ (pre ++ m :: suf)) (S ++ [.lst ((pre ++ m :: suf).map encM)]) else
        forL ⟨ds0, none⟩ (.n 3) m_law_put_b1 (rangeD ((pre.length + 1 : Nat) : Int) suf.length) [some q0, some (encM m), some (.obj S.length), some (.int pre.length)] (S ++ [.lst ((pre ++ x :: suf).map encM)]) := by
      rw [List.length_cons, rangeD_succ, forL_cons0]
      obtain ⟨a, b⟩ := x; obtain ⟨c, d⟩ := m
      by_cases h : a = c
      · subst h
        simp [m_law_put_b1, eVar, encM, encQ]
      · simp [m_law_put_b1, eVar, encM, h]
    rw [step]
    by_cases h : x.1 = m.1
    · simp [putF, h]
    · simp only [putF, h, if_false]
      refine ⟨fun r hr => ?_, fun hr => ?_⟩
      · rw [Option.map_eq_some_iff] at hr
        obtain ⟨r', hr, rfl⟩ := hr
        have := ih.1 r' hr
        simpa using this
      · rw [Option.map_eq_none_iff] at hr
        exact ih.2 hr

def putL (q : List Msg) (m : Msg) : List Msg := (putF q m).getD (q ++ [m])
theorem encQ_sc (k : Nat) (l : List Msg) : scs k (l.map encM) = true := scs_map (encM_sc _) l
theorem lput_eq (q : List Msg) (m : Msg) (S : List O) (hS : WS S) (hq : q.length ≤ 1000) : f_law_put [encQ q, encM m] S = .ok (encQ (putL q m)) S := by
  have hl := lput_loop (encQ q) m S (rangeD 0 q.length) q [] none
  have hsm : SmallR (q.length : Int) := small_of (by omega) (by omega)
  simp only [List.length_nil, List.nil_append, Int.ofNat_zero] at hl
  have hS' := ws_all hS
  have hlen : q.length + 1 ≤ LIM := lim_ok (by omega)
  cases hp : putF q m with
  | none =>
    obtain ⟨o', ho⟩ := hl.2 hp
    simp [f_law_put, bodyFn_eq, m_law_put, env0, eVar, encQ, hsm]
    rw [show D.tup (q.map encM) = encQ q from rfl, ho]
    simp [putL, hp, hlen, encQ, encQ_sc, encM_sc, eVar]
    (rw [if_pos hS']) <;> rfl
  | some r =>
    have ho := hl.1 r hp
    simp [f_law_put, bodyFn_eq, m_law_put, env0, eVar, encQ, hsm]
    rw [show D.tup (q.map encM) = encQ q from rfl, ho]
    simp [putL, hp, encQ, encQ_sc]
    (rw [if_pos hS']) <;> rfl
/-! the two are one -/
def Un (q : List Msg) : Prop := (q.map (·.1)).Nodup
theorem swap_none {q : List Msg} {m : Msg} (h : ∀ o ∈ q, o.1 ≠ m.1) : swapIn q m = q := by
  unfold swapIn
  conv => rhs; rw [← List.map_id q]
  exact List.map_congr_left fun o ho => by simp [h o ho]
theorem putF_none {q : List Msg} {m : Msg} : putF q m = none ↔ ∀ o ∈ q, o.1 ≠ m.1 := by
  induction q with
  | nil => simp [putF]
  | cons x q ih =>
    by_cases h : x.1 = m.1 <;> simp [putF, h, ih]
theorem putF_some {q r : List Msg} {m : Msg} (hu : Un q) (h : putF q m = some r) : r = swapIn q m ∧ m ∈ swapIn q m := by
  induction q generalizing r with
  | nil => simp [putF] at h
  | cons x q ih =>
    have hu' : Un q := (List.nodup_cons.mp hu).2
    by_cases hx : x.1 = m.1
    · simp [putF, hx] at h
      subst h
      have hn : ∀ o ∈ q, o.1 ≠ m.1 := fun o ho e => (List.nodup_cons.mp hu).1 (by show x.1 ∈ _; rw [hx, ← e]; exact List.mem_map_of_mem ho)
      have := swap_none hn
      simp only [swapIn, List.map_cons, hx, if_true] at this ⊢
      rw [this]
      exact ⟨rfl, List.mem_cons_self⟩
    · simp [putF, hx] at h
      obtain ⟨r', h, rfl⟩ := h
      obtain ⟨e, hm⟩ := ih hu' h
      simp only [swapIn, List.map_cons, hx, if_false] at e hm ⊢
      exact ⟨by rw [e], List.mem_cons_of_mem _ hm⟩
theorem put_same {q : List Msg} (m : Msg) (hu : Un q) : putL q m = putQ q m := by
  unfold putL putQ
  cases h : putF q m with
  | some r =>
    obtain ⟨e, hm⟩ := putF_some hu h
    rw [if_pos hm, e]; rfl
  | none =>
    have hn := putF_none.mp h
    rw [swap_none hn, if_neg fun hm => hn m hm rfl]; rfl
theorem put_un {q : List Msg} (m : Msg) (hu : Un q) : Un (putQ q m) ∧ m ∈ putQ q m ∧ (putQ q m).length ≤ q.length + 1 := by
  rw [← put_same m hu]
  unfold putL
  cases h : putF q m with
  | some r =>
    obtain ⟨e, hm⟩ := putF_some hu h
    subst e
    refine ⟨?_, hm, by simp [swapIn]⟩
    have : (swapIn q m).map (·.1) = q.map (·.1) := by
      unfold swapIn
      rw [List.map_map]
      exact List.map_congr_left fun o _ => by
        simp only [Function.comp]
        split
        · rename_i h; exact h.symm
        · rfl
    show ((swapIn q m).map (·.1)).Nodup
    rw [this]; exact hu
  | none =>
    have hn := putF_none.mp h
    refine ⟨?_, by simp, by simp⟩
    show ((q ++ [m]).map (·.1)).Nodup
    rw [List.map_append, List.nodup_append]
    refine ⟨hu, by simp, fun a ha b hb e => ?_⟩
    simp at hb
    obtain ⟨o, ho, rfl⟩ := List.mem_map.mp ha
    exact hn o ho (e.trans hb)
end Lw

namespace Lw
open PySem PySem.Spec PyProof.Rows L2 Fu
theorem ws_stO (x : LS) : WS (stO x) := by simp [WS, stO]
theorem put_eq' (q : List Msg) (m : Msg) (S : List O) (hS : WS S) (hq : q.length ≤ 1000) : f_put [.tup (q.map encM), encM m] S = .ok (.tup ((putQ q m).map encM)) S := put_eq q m S hS hq
theorem lput_eq' (q : List Msg) (m : Msg) (S : List O) (hS : WS S) (hq : q.length ≤ 1000) : f_law_put [.tup (q.map encM), encM m] S = .ok (.tup ((putL q m).map encM)) S := lput_eq q m S hS hq
theorem fold_M (a b : Int) : D.tup [D.int a, D.int b] = encM (a, b) := rfl
theorem vIx_M0 (m : Msg) (S : List O) : vIx (encM m) (.int 0) S = some (.int m.1) := by simp [encM]
theorem isi_M (m : Msg) (S : List O) (n : String) : vIsi [encM m, .ty n] S = (kitB "tuple" n).map .bl := rfl
theorem tups_loop (ds0 : List D) (a0 a1 a2 a3 a4 a5 a6 a8 : Option D) (S : List O) : ∀ (l : List Msg) (o : Option D), ∃ o', forL ⟨ds0, none⟩ (.n 7) m_law_b1 (l.map encM) [a0, a1, a2, a3, a4, a5, a6, o, a8] S = .nx [a0, a1, a2, a3, a4, a5, a6, o', a8] S
  | [], o => ⟨o, by simp⟩
  | m :: l, o => by
    obtain ⟨o', h⟩ := tups_loop ds0 a0 a1 a2 a3 a4 a5 a6 a8 S l (some (encM m))
    refine ⟨o', ?_⟩
    rw [List.map_cons, forL_cons0]
    simp [m_law_b1, eVar, isi_M]
    exact h
noncomputable def turnTail : MS :=
    (sSeq (sSet 5 (eCall 2 f_law_put (aCons (eVar 2) (aCons (eVar 4) aNil))))
    (sSeq (sSet 6 (eCall 2 f_put (aCons (eVar 2) (aCons (eVar 4) aNil))))
    (sSeq (sIf (tOr1 (tNot1 (tTru (eCB vIsi (aCons (eVar 6) (aCons (eC (.ty "tuple")) aNil))))) (tBl (eOp vNe (eVar 6) (eVar 5)))) (sRet (eC (.bl false))) sNil)
    (sSeq (sFor (iSeq1 (eVar 6)) (.n 7) m_law_b1)
    (sSeq (sSet 8 (eComp [7] (iSeq1 (eVar 6)) (.n 7) tYes1 m_law_e2))
    (sSeq (sIf (tOr1 (tBl (eOp vNe (eLenSet (eVar 8)) (eCB vLen (aCons (eVar 8) aNil)))) (tBl (eOp (vIn true) (eVar 4) (eVar 6)))) (sRet (eC (.bl false))) sNil)
    (sSeq (sSet 2 (eVar 6))
    (sIf (tBl (eOp vEq (eCall 2 f_law_next (aCons (eVar 1) (aCons (eC (.int 3)) aNil))) (eC (.int 0)))) (sSet 2 (eSl (eVar 2) (oSome (eC (.int 1))) oNone)) sNil))))))))
/-- what follows when the message is chosen -/
theorem turn_end (scr k : D) (q : List Msg) (m : Msg) (x : LS) (o5 o6 o7 o8 : Option D) (hu : Un q) (hq : q.length ≤ 100) :
    ∃ q' x' o5' o6' o7' o8', Un q' ∧ q'.length ≤ q.length + 1 ∧
    turnTail
      [some scr, some (.obj 1), some (.tup (q.map encM)), some k, some (encM m), o5, o6, o7, o8] (stO x) =
    .nx [some scr, some (.obj 1), some (.tup (q'.map encM)), some k, some (encM m), o5', o6', o7', o8'] (stO x') := by
  obtain ⟨u1, u2, u3⟩ := put_un m hu
  have hS := ws_stO x
  have e1 := put_eq' q m (stO x) hS (by omega)
  have e2 := lput_eq' q m (stO x) hS (by omega)
  rw [put_same m hu] at e2
  have hn : ∀ l : List Msg, nices 39 (l.map encM) = true := fun l => nices_map (fun x => encM_nice 39 x (by decide)) l
  have hn4 : ∀ l : List Msg, nices 40 (l.map encM) = true := fun l => nices_map (fun x => encM_nice 40 x (by decide)) l
  have hn2 : nice 40 (encM m) = true := encM_nice 40 m (by decide)
  have hd := deqs_map encM_eq
  have ha := anyEq_map encM_eq m (putQ q m)
  obtain ⟨o7', hl⟩ := tups_loop ((putQ q m).map encM) (some scr) (some (.obj 1)) (some (.tup (q.map encM))) (some k) (some (encM m)) (some (.tup ((putQ q m).map encM))) (some (.tup ((putQ q m).map encM))) o8 (stO x) (putQ q m) o7
  have hc : compL ⟨(putQ q m).map encM, none⟩ (.n 7) tYes1 m_law_e2 [some scr, some (.obj 1), some (.tup (q.map encM)), some k, some (encM m), some (.tup ((putQ q m).map encM)), some (.tup ((putQ q m).map encM)), none, o8] ((putQ q m).map encM) (stO x) [] = .ok (((putQ q m).map (·.1)).map .int) (stO x) := by
    rw [compL_all (putQ q m) (fun y => [some scr, some (.obj 1), some (.tup (q.map encM)), some k, some (encM m), some (.tup ((putQ q m).map encM)), some (.tup ((putQ q m).map encM)), some (encM y), o8]) (fun y => .int y.1) (fun y _ => by simp) (fun y _ => by simp [m_law_e2, eVar, vIx_M0]) (lim_ok (by omega))]
    simp
  have hnd : ((putQ q m).map (·.1)).Nodup := u1
  have hlen : (putQ q m).length ≤ 4000 := by omega
  have hint := intsOf_map ((putQ q m).map (·.1))
  have hnx := next0 x 3 (by decide) (by decide)
  by_cases hz : drawV x 3 = 0
  · refine ⟨(putQ q m).drop 1, drawS x 3, some (.tup ((putQ q m).map encM)), some (.tup ((putQ q m).map encM)), o7', some (.lst (((putQ q m).map (·.1)).map .int)), ?_, by simp; omega, ?_⟩
    · show (((putQ q m).drop 1).map (·.1)).Nodup
      rw [List.map_drop]
      exact List.Nodup.sublist (List.drop_sublist _ _) hnd
    · simp [turnTail, -List.map_map, -List.drop_one, eVar, e1, e2, hn, hd]
      rw [hl]
      simp [-List.map_map, -List.drop_one, eVar]
      rw [hc]
      simp [-List.map_map, -List.drop_one, eVar, hint, hnd, hlen, hn2, hn4, ha, u2, hnx, hz]
  · refine ⟨putQ q m, drawS x 3, some (.tup ((putQ q m).map encM)), some (.tup ((putQ q m).map encM)), o7', some (.lst (((putQ q m).map (·.1)).map .int)), u1, u3, ?_⟩
    simp [turnTail, -List.map_map, -List.drop_one, eVar, e1, e2, hn, hd]
    rw [hl]
    simp [-List.map_map, -List.drop_one, eVar]
    rw [hc]
    simp [-List.map_map, -List.drop_one, eVar, hint, hnd, hlen, hn2, hn4, ha, u2, hnx, hz]

theorem turn (scr k : D) (q : List Msg) (x : LS) (o4 o5 o6 o7 o8 : Option D) (hu : Un q) (hq : q.length ≤ 100) :
    ∃ q' x' o4' o5' o6' o7' o8', Un q' ∧ q'.length ≤ q.length + 1 ∧ m_law_b3 [some scr, some (.obj 1), some (.tup (q.map encM)), some k, o4, o5, o6, o7, o8] (stO x) =
    .nx [some scr, some (.obj 1), some (.tup (q'.map encM)), some k, o4', o5', o6', o7', o8'] (stO x') := by
  have h1 := next0 x 4 (by decide) (by decide)
  have h2 := next0 (drawS x 4) 8 (by decide) (by decide)
  have h3 := next0 (drawS (drawS x 4) 8) 4 (by decide) (by decide)
  show ∃ q' x' o4' o5' o6' o7' o8', Un q' ∧ q'.length ≤ q.length + 1 ∧ (sSeq _ (sSeq _ turnTail)) _ _ = _
  rw [ev_seq]
  simp only [ev_sset, ev_tup, ev_cons, ev_call, ev_nil, ev_C, eVar, bind_ok, bindS_ok, List.getElem?_cons_succ, List.getElem?_cons_zero, List.length_cons, List.length_nil, h1, h2, ev_noErr, if_true, Nat.zero_add, Nat.reduceAdd, lim_le2, List.set_cons_succ, List.set_cons_zero]
  rw [ev_seq]
  by_cases hz : q = []
  · subst hz
    obtain ⟨q', x', o5', o6', o7', o8', a, b, c⟩ := turn_end scr k [] (drawV x 4, drawV (drawS x 4) 8) (drawS (drawS x 4) 8) o5 o6 o7 o8 hu hq
    refine ⟨q', x', some (encM (drawV x 4, drawV (drawS x 4) 8)), o5', o6', o7', o8', a, b, ?_⟩
    simp [eVar, fold_M]
    exact c
  · have hl : 0 < q.length := List.length_pos_iff.mpr hz
    by_cases hy : drawV (drawS (drawS x 4) 8) 4 = 0
    · have h4 := next0 (drawS (drawS (drawS x 4) 8) 4) q.length (by omega) (by omega)
      obtain ⟨d0, d1⟩ := draw_lt (drawS (drawS (drawS x 4) 8) 4) q.length (by omega)
      obtain ⟨n, hn⟩ := Int.eq_ofNat_of_zero_le d0
      have hnl : n < q.length := by omega
      obtain ⟨q', x', o5', o6', o7', o8', a, b, c⟩ := turn_end scr k q q[n] (drawS (drawS (drawS (drawS x 4) 8) 4) q.length) o5 o6 o7 o8 hu hq
      refine ⟨q', x', some (encM q[n]), o5', o6', o7', o8', a, b, ?_⟩
      simp [eVar, fold_M, hl, h3, hy, h4, hn, hnl]
      exact c
    · obtain ⟨q', x', o5', o6', o7', o8', a, b, c⟩ := turn_end scr k q (drawV x 4, drawV (drawS x 4) 8) (drawS (drawS (drawS x 4) 8) 4) o5 o6 o7 o8 hu hq
      refine ⟨q', x', some (encM (drawV x 4, drawV (drawS x 4) 8)), o5', o6', o7', o8', a, b, ?_⟩
      simp [eVar, fold_M, hl, h3, hy]
      exact c
theorem main_loop (scr : D) (ds0 : List D) : ∀ (n : Nat) (lo : Int) (q : List Msg) (x : LS) (o3 o4 o5 o6 o7 o8 : Option D), Un q → q.length + n ≤ 100 →
    ∃ env x', forL ⟨ds0, none⟩ (.n 3) m_law_b3 (rangeD lo n) [some scr, some (.obj 1), some (.tup (q.map encM)), o3, o4, o5, o6, o7, o8] (stO x) = .nx env (stO x')
  | 0, lo, q, x, o3, o4, o5, o6, o7, o8, _, _ => ⟨_, x, by rw [rangeD_zero, forL_nil0]⟩
  | n + 1, lo, q, x, o3, o4, o5, o6, o7, o8, hu, hn => by
    obtain ⟨q', x', o4', o5', o6', o7', o8', a, b, c⟩ := turn scr (.int lo) q x o4 o5 o6 o7 o8 hu (by omega)
    obtain ⟨env, x2, ih⟩ := main_loop scr ds0 n (lo + 1) q' x' (some (.int lo)) o4' o5' o6' o7' o8' a (by omega)
    refine ⟨env, x2, ?_⟩
    rw [rangeD_succ, forL_cons0]
    simp only [asg_n, List.set_cons_succ, List.set_cons_zero]
    rw [c]
    exact ih
theorem law_true (ns : List Int) (hns : ns.length ≤ 63) : ∃ S, f_law [.scr ns] [] = .ok (.bl true) S := by
  have h1 := next0 ⟨ns, 0, 1⟩ 20 (by decide) (by decide)
  obtain ⟨d0, d1⟩ := draw_lt ⟨ns, 0, 1⟩ 20 (by decide)
  have hsm : SmallR (1 + drawV ⟨ns, 0, 1⟩ 20) := small_of (by omega) (by omega)
  obtain ⟨env, x', hl⟩ := main_loop (.scr ns) (rangeD 0 (1 + drawV ⟨ns, 0, 1⟩ 20).toNat) (1 + drawV ⟨ns, 0, 1⟩ 20).toNat 0 [] (drawS ⟨ns, 0, 1⟩ 20) none none none none none none List.nodup_nil (by simp; omega)
  have h1' : f_law_next [.obj 1, .int 20] [.lst (ns.map .int), .lst [.obj 0, .int 0, .int 1]] = .ok (.int (drawV ⟨ns, 0, 1⟩ 20)) (stO (drawS ⟨ns, 0, 1⟩ 20)) := h1
  refine ⟨[], ?_⟩
  simp [f_law, bodyFn_eq, m_law, env0, eVar, h1', hsm]
  rw [List.map_nil] at hl
  rw [hl]
  simp
end Lw

namespace Lw
open PySem PySem.Spec PyProof.Rows L2 Fu
def topS (i : Nat) : Stmt := PySem.Challenge.pw_twoknowers_k02_messages_put_into_queues.main.body.getD i (.Pass ⟨0, 0, 0, 0⟩)
abbrev st_law_next : Stmt := topS 3
theorem sc_law_next : FnScope ["_law_state", "_law_many", "_law_cell", "_law_drawn"] ["_law_state", "_law_many"] (defScope st_law_next) := ⟨rfl, rfl, rfl, by decide +kernel, rfl, by decide +kernel, by decide +kernel⟩
abbrev st_law_put : Stmt := topS 4
theorem sc_law_put : FnScope ["_law_queue", "_law_message", "_law_found", "_law_k"] ["_law_queue", "_law_message"] (defScope st_law_put) := ⟨rfl, rfl, rfl, by decide +kernel, rfl, by decide +kernel, by decide +kernel⟩
abbrev st_put : Stmt := topS 1
theorem sc_put : FnScope ["queue", "message", "found", "one"] ["queue", "message"] (defScope st_put) := ⟨rfl, rfl, rfl, by decide +kernel, rfl, by decide +kernel, by decide +kernel⟩
abbrev st_law : Stmt := topS 5
theorem sc_law : FnScope ["_law_script", "_law_state", "_law_queue", "_law_k", "_law_message", "_law_due", "_law_told", "_law_one", "_law_named"] ["_law_script"] (defScope st_law) := ⟨rfl, rfl, rfl, by decide +kernel, rfl, by decide +kernel, by decide +kernel⟩
structure Txt (K : PySem.W.Frag) (mg : Str → Option Value) (a_law_next a_law_put a_put a_law : Addr) (d_law_next d_law_put d_put d_law : FuncData) : Prop where
  n_int : mg "int" = none
  n_isinstance : mg "isinstance" = none
  n_len : mg "len" = none
  n_list : mg "list" = none
  n_range : mg "range" = none
  n_set : mg "set" = none
  n_tuple : mg "tuple" = none
  m_law_next : mg "_law_next" = some (.ref a_law_next)
  F_law_next : Fun K "_law_next" "_law_next" st_law_next a_law_next d_law_next
  k_law_next : PySem.W.keepIn K (.ref a_law_next) = true
  b_law_next : Binds K d_law_next ["_law_state", "_law_many"] []
  m_law_put : mg "_law_put" = some (.ref a_law_put)
  F_law_put : Fun K "_law_put" "_law_put" st_law_put a_law_put d_law_put
  k_law_put : PySem.W.keepIn K (.ref a_law_put) = true
  b_law_put : Binds K d_law_put ["_law_queue", "_law_message"] []
  m_put : mg "put" = some (.ref a_put)
  F_put : Fun K "put" "put" st_put a_put d_put
  k_put : PySem.W.keepIn K (.ref a_put) = true
  b_put : Binds K d_put ["queue", "message"] []
  m_law : mg "law" = some (.ref a_law)
  F_law : Fun K "law" "law" st_law a_law d_law
  k_law : PySem.W.keepIn K (.ref a_law) = true
  b_law : Binds K d_law ["_law_script"] []
section
variable {P : Program} {w : World} {K : PySem.W.Frag} {mg : Str → Option Value} {base : Heap} {a_law_next a_law_put a_put a_law : Addr} {d_law_next d_law_put d_put d_law : FuncData}
set_option maxHeartbeats 4000000 in
theorem ok_law_next (T : Txt K mg a_law_next a_law_put a_put a_law d_law_next d_law_put d_put d_law)  :
    FnOk P w K mg base CX0 1 a_law_next d_law_next ["_law_state", "_law_many"] (spF K 2 f_law_next) := by
  refine def_ok (k := 0) f_law_next 4 m_law_next 0 T.F_law_next sc_law_next rfl rfl (fun _ _ => rfl) (fun cdv A outer s H E hr => ?_)
  have nd := sc_law_next.nd
  exact (ss_cons (ss_if (st_cmp so_lt (se_ix (sv 0) se_int) (sv 1)) (ss_one (ss_if (st_cmp so_gt (se_callB sc_len (by rfl) T.n_len PySem.boot_len (sa_cons (se_ix (sv 0) se_int) sa_nil)) se_int) (ss_cons (ss_set (i := 2) nd (se_popAt (se_ix (sv 0) se_int) (sa_cons se_int sa_nil)))
    (ss_cons (ss_setIx (se_if (st_cmp so_ge (sv 2) se_int) (se_op so_mul se_int (sv 2)) (se_op so_sub (se_op so_mul (se_neg se_int) (sv 2)) se_int)) (sv 0) se_int)
    (ss_one (ss_setIx (se_op so_mod (se_callTy sc_int (by rfl) T.n_int (by decide +kernel) (sa_cons (se_op so_add (se_op so_mul (se_ix (sv 0) se_int) se_int) (se_ix (sv 0) se_int)) sa_nil)) se_int) (sv 0) se_int)))) (ss_cons (ss_setIx (se_op so_mod (se_callTy sc_int (by rfl) T.n_int (by decide +kernel) (sa_cons (se_op so_add (se_op so_mul (se_ix (sv 0) se_int) se_int) se_int) sa_nil)) se_int) (sv 0) se_int)
    (ss_one (ss_setIx (se_op so_mod (se_callTy sc_int (by rfl) T.n_int (by decide +kernel) (sa_cons (se_op so_mul (se_ix (sv 0) se_int) (se_ix (sv 0) se_int)) sa_nil)) se_int) (sv 0) se_int))))) ss_nil)
    (ss_cons (ss_set (i := 3) nd (se_op so_mod (se_callTy sc_int (by rfl) T.n_int (by decide +kernel) (sa_cons (se_ix (sv 0) se_int) sa_nil)) (sv 1)))
    (ss_cons (ss_setIx (se_op so_div (se_ix (sv 0) se_int) (sv 1)) (sv 0) se_int)
    (ss_one (ss_ret (sv 3))))))
set_option maxHeartbeats 4000000 in
theorem ok_law_put (T : Txt K mg a_law_next a_law_put a_put a_law d_law_next d_law_put d_put d_law)  :
    FnOk P w K mg base CX0 1 a_law_put d_law_put ["_law_queue", "_law_message"] (spF K 2 f_law_put) := by
  refine def_ok (k := 0) f_law_put 4 m_law_put 0 T.F_law_put sc_law_put rfl rfl (fun _ _ => rfl) (fun cdv A outer s H E hr => ?_)
  have nd := sc_law_put.nd
  exact (ss_cons (ss_set (i := 2) nd (se_listO (by rfl) T.n_list (by decide +kernel) (sa_cons (sv 0) sa_nil)))
    (ss_cons (ss_for PassesOwn.never (si_range1 (by rfl) T.n_range (sa_cons (se_callB sc_len (by rfl) T.n_len PySem.boot_len (sa_cons (sv 2) sa_nil)) sa_nil)) (sg_n 3 nd) (ss_one (ss_if (st_cmp (so_eq hr.units) (se_ix (se_ix (sv 2) (sv 3)) se_int) (se_ix (sv 1) se_int)) (ss_cons (ss_setIx (sv 1) (sv 2) (sv 3))
    (ss_one (ss_ret (se_callTy sc_tuple (by rfl) T.n_tuple (by decide +kernel) (sa_cons (sv 2) sa_nil))))) ss_nil)))
    (ss_one (ss_ret (se_callTy sc_tuple (by rfl) T.n_tuple (by decide +kernel) (sa_cons (se_op so_add (sv 2) (se_lst (sa_cons (sv 1) sa_nil))) sa_nil))))))
set_option maxHeartbeats 4000000 in
theorem ok_put (T : Txt K mg a_law_next a_law_put a_put a_law d_law_next d_law_put d_put d_law)  :
    FnOk P w K mg base CX0 1 a_put d_put ["queue", "message"] (spF K 2 f_put) := by
  refine def_ok (k := 0) f_put 4 m_put 0 T.F_put sc_put rfl rfl (fun _ _ => rfl) (fun cdv A outer s H E hr => ?_)
  have nd := sc_put.nd
  exact (ss_cons (ss_compO (i := 2) (own := [("one", 3)]) (T := (.n 3)) nd (sw_true rfl rfl rfl (by decide +kernel)) (si_seq (sv 0)) (blkOk_by (N := ["queue", "message", "found", "one"]) (sc := defScope st_put) (by decide +kernel)) (fun _ _ _ _ _ => (sg_n 3 nd)) (fun _ _ _ _ _ => sts_nil) (fun _ _ _ _ _ => (se_if (st_cmp (so_eq hr.units) (se_ix (sv 3) se_int) (se_ix (sv 1) se_int)) (sv 1) (sv 3))))
    (ss_cons (ss_if (st_cmp (so_notIn (room65 hr)) (sv 1) (sv 2)) (ss_one (ss_expr (se_append (sv 2) (sa_cons (sv 1) sa_nil)))) ss_nil)
    (ss_one (ss_ret (se_callTy sc_tuple (by rfl) T.n_tuple (by decide +kernel) (sa_cons (sv 2) sa_nil))))))
set_option maxHeartbeats 4000000 in
theorem ok_law (T : Txt K mg a_law_next a_law_put a_put a_law d_law_next d_law_put d_put d_law) (G_law_next : FnOk P w K mg base CX0 1 a_law_next d_law_next ["_law_state", "_law_many"] (spF K 2 f_law_next)) (G_law_put : FnOk P w K mg base CX0 1 a_law_put d_law_put ["_law_queue", "_law_message"] (spF K 2 f_law_put)) (G_put : FnOk P w K mg base CX0 1 a_put d_put ["queue", "message"] (spF K 2 f_put)) :
    FnOk P w K mg base CX0 2 a_law d_law ["_law_script"] (spF K 1 f_law) := by
  refine def_ok (k := 1) f_law 9 m_law 0 T.F_law sc_law rfl rfl (fun _ _ => rfl) (fun cdv A outer s H E hr => ?_)
  have nd := sc_law.nd
  exact (ss_cons (ss_set (i := 1) nd (se_lstO (sa_cons (se_listO (by rfl) T.n_list (by decide +kernel) (sa_cons (sv 0) sa_nil)) (sa_cons se_int (sa_cons se_int sa_nil)))))
    (ss_cons (ss_set (i := 2) nd (se_tup sa_nil))
    (ss_cons (ss_for PassesOwn.never (si_range1 (by rfl) T.n_range (sa_cons (se_op so_add se_int (se_call G_law_next (hr.mono (by decide)) (by rfl) T.m_law_next T.k_law_next T.b_law_next (sa_cons (sv 1) (sa_cons se_int sa_nil)))) sa_nil)) (sg_n 3 nd) (ss_cons (ss_set (i := 4) nd (se_tup (sa_cons (se_call G_law_next (hr.mono (by decide)) (by rfl) T.m_law_next T.k_law_next T.b_law_next (sa_cons (sv 1) (sa_cons se_int sa_nil))) (sa_cons (se_call G_law_next (hr.mono (by decide)) (by rfl) T.m_law_next T.k_law_next T.b_law_next (sa_cons (sv 1) (sa_cons se_int sa_nil))) sa_nil))))
    (ss_cons (ss_if (st_w (sw_and (st_cmp so_gt (se_callB sc_len (by rfl) T.n_len PySem.boot_len (sa_cons (sv 2) sa_nil)) se_int) (sw_and1 (st_cmp (so_eq hr.units) (se_call G_law_next (hr.mono (by decide)) (by rfl) T.m_law_next T.k_law_next T.b_law_next (sa_cons (sv 1) (sa_cons se_int sa_nil))) se_int)))) (ss_one (ss_set (i := 4) nd (se_ix (sv 2) (se_call G_law_next (hr.mono (by decide)) (by rfl) T.m_law_next T.k_law_next T.b_law_next (sa_cons (sv 1) (sa_cons (se_callB sc_len (by rfl) T.n_len PySem.boot_len (sa_cons (sv 2) sa_nil)) sa_nil)))))) ss_nil)
    (ss_cons (ss_set (i := 5) nd (se_call G_law_put (hr.mono (by decide)) (by rfl) T.m_law_put T.k_law_put T.b_law_put (sa_cons (sv 2) (sa_cons (sv 4) sa_nil))))
    (ss_cons (ss_set (i := 6) nd (se_call G_put (hr.mono (by decide)) (by rfl) T.m_put T.k_put T.b_put (sa_cons (sv 2) (sa_cons (sv 4) sa_nil))))
    (ss_cons (ss_if (st_w (sw_or (st_not (st_tru (se_callB sc_isi (by rfl) T.n_isinstance (by decide +kernel) (sa_cons (sv 6) (sa_cons (se_c (pe_bltn (v := .ty "tuple") (u := .type "tuple") (by rfl) T.n_tuple (by decide +kernel) rfl) (fun _ _ => rfl)) sa_nil))))) (sw_or1 (st_cmp (so_ne hr.units) (sv 6) (sv 5))))) (ss_one (ss_ret se_bl)) ss_nil)
    (ss_cons (ss_for PassesOwn.never (si_seq (sv 6)) (sg_n 7 nd) (ss_one (ss_if (st_not (st_tru (se_callB sc_isi (by rfl) T.n_isinstance (by decide +kernel) (sa_cons (sv 7) (sa_cons (se_c (pe_bltn (v := .ty "tuple") (u := .type "tuple") (by rfl) T.n_tuple (by decide +kernel) rfl) (fun _ _ => rfl)) sa_nil))))) (ss_one (ss_ret se_bl)) ss_nil)))
    (ss_cons (ss_comp (i := 8) (own := [("_law_one", 7)]) (T := (.n 7)) nd (sw_true rfl rfl rfl (by decide +kernel)) (si_seq (sv 6)) (blkOk_by (N := ["_law_script", "_law_state", "_law_queue", "_law_k", "_law_message", "_law_due", "_law_told", "_law_one", "_law_named"]) (sc := defScope st_law) (by decide +kernel)) (fun _ _ _ _ _ => (sg_n 7 nd)) (fun _ _ _ _ _ => sts_nil) (fun _ _ _ _ _ => (se_ix (sv 7) se_int)))
    (ss_cons (ss_if (st_w (sw_or (st_cmp (so_ne hr.units) (se_lenSet (by rfl) T.n_len (by rfl) T.n_set (sv 8)) (se_callB sc_len (by rfl) T.n_len PySem.boot_len (sa_cons (sv 8) sa_nil))) (sw_or1 (st_cmp (so_notIn (room65 hr)) (sv 4) (sv 6))))) (ss_one (ss_ret se_bl)) ss_nil)
    (ss_cons (ss_set (i := 2) nd (sv 6))
    (ss_one (ss_if (st_cmp (so_eq hr.units) (se_call G_law_next (hr.mono (by decide)) (by rfl) T.m_law_next T.k_law_next T.b_law_next (sa_cons (sv 1) (sa_cons se_int sa_nil))) se_int) (ss_one (ss_set (i := 2) nd (se_sl (sv 2) (sp_some se_int) sp_none))) ss_nil))))))))))))
    (ss_one (ss_ret se_bl)))))
end
theorem all_mk {l : PySem.W.OpenLaw} {w : World} {K : PySem.W.Frag} {h : Heap} {mg : Str → Option Value} {fa a0 a1 a2 a3 : Addr} (X : K.In h) (G : h.Ns mainGlobals mg) (hfa : mg "law" = some (.ref fa))
    {od0 an0 od1 an1 od2 an2 od3 an3 : Option Addr} {sl0 sl1 sl2 sl3 : Array (Option Value)} {oc0 kV0 dc0 pm0 cd0 ct0 oc1 kV1 dc1 pm1 cd1 ct1 oc2 kV2 dc2 pm2 cd2 ct2 oc3 kV3 dc3 pm3 cd3 ct3 : Value}
    (x0 : PySem.W.nsIn K mainGlobals "_law_next" = some (some (.ref a0))) (l0 : K.lookup a0 = some ⟨oc0, od0, .func (PySem.W.fnOf "_law_next" "_law_next" (defArgs st_law_next) (defBody st_law_next) (defScope st_law_next) .none kV0 dc0 pm0 an0 cd0 ct0), sl0⟩) (c0 : PySem.W.codeIn K cd0 "_law_next" = true) (k0 : PySem.W.keepIn K (.ref a0) = true)
    (x1 : PySem.W.nsIn K mainGlobals "_law_put" = some (some (.ref a1))) (l1 : K.lookup a1 = some ⟨oc1, od1, .func (PySem.W.fnOf "_law_put" "_law_put" (defArgs st_law_put) (defBody st_law_put) (defScope st_law_put) .none kV1 dc1 pm1 an1 cd1 ct1), sl1⟩) (c1 : PySem.W.codeIn K cd1 "_law_put" = true) (k1 : PySem.W.keepIn K (.ref a1) = true)
    (x2 : PySem.W.nsIn K mainGlobals "put" = some (some (.ref a2))) (l2 : K.lookup a2 = some ⟨oc2, od2, .func (PySem.W.fnOf "put" "put" (defArgs st_put) (defBody st_put) (defScope st_put) .none kV2 dc2 pm2 an2 cd2 ct2), sl2⟩) (c2 : PySem.W.codeIn K cd2 "put" = true) (k2 : PySem.W.keepIn K (.ref a2) = true)
    (x3 : PySem.W.nsIn K mainGlobals "law" = some (some (.ref a3))) (l3 : K.lookup a3 = some ⟨oc3, od3, .func (PySem.W.fnOf "law" "law" (defArgs st_law) (defBody st_law) (defScope st_law) .none kV3 dc3 pm3 an3 cd3 ct3), sl3⟩) (c3 : PySem.W.codeIn K cd3 "law" = true) (k3 : PySem.W.keepIn K (.ref a3) = true)
    (z_int : PySem.W.nsIn K mainGlobals "int" = some none)
    (z_isinstance : PySem.W.nsIn K mainGlobals "isinstance" = some none)
    (z_len : PySem.W.nsIn K mainGlobals "len" = some none)
    (z_list : PySem.W.nsIn K mainGlobals "list" = some none)
    (z_range : PySem.W.nsIn K mainGlobals "range" = some none)
    (z_set : PySem.W.nsIn K mainGlobals "set" = some none)
    (z_tuple : PySem.W.nsIn K mainGlobals "tuple" = some none)
    : ∃ fd : FuncData, (∀ (s : Shared) (v : Value), BindsTo s fd ⟨[v], []⟩ [("_law_script", v)]) ∧ ∀ base : Heap, K.In base → base.Ns mainGlobals mg → FnOk l.prog w K mg base CX0 2 fa fd ["_law_script"] (spF K 1 f_law) := by
  have e := hfa.symm.trans (PySem.W.mg_of X G x3)
  cases e
  have F0 := fun_mk (st := st_law_next) l0 c0 k0
  have b0 := F0.binds (ps := ["_law_state", "_law_many"]) fun _ _ _ _ _ _ us hl => match us, hl with | [_, _], _ => rfl
  have F1 := fun_mk (st := st_law_put) l1 c1 k1
  have b1 := F1.binds (ps := ["_law_queue", "_law_message"]) fun _ _ _ _ _ _ us hl => match us, hl with | [_, _], _ => rfl
  have F2 := fun_mk (st := st_put) l2 c2 k2
  have b2 := F2.binds (ps := ["queue", "message"]) fun _ _ _ _ _ _ us hl => match us, hl with | [_, _], _ => rfl
  have F3 := fun_mk (st := st_law) l3 c3 k3
  have b3 := F3.binds (ps := ["_law_script"]) fun _ _ _ _ _ _ us hl => match us, hl with | [_], _ => rfl
  have T : Txt K mg a0 a1 a2 fa _ _ _ _ := ⟨PySem.W.mg_none_of X G z_int, PySem.W.mg_none_of X G z_isinstance, PySem.W.mg_none_of X G z_len, PySem.W.mg_none_of X G z_list, PySem.W.mg_none_of X G z_range, PySem.W.mg_none_of X G z_set, PySem.W.mg_none_of X G z_tuple, PySem.W.mg_of X G x0, F0, k0, b0, PySem.W.mg_of X G x1, F1, k1, b1, PySem.W.mg_of X G x2, F2, k2, b2, PySem.W.mg_of X G x3, F3, k3, b3⟩
  refine ⟨PySem.W.fnOf "law" "law" (defArgs st_law) (defBody st_law) (defScope st_law) .none kV3 dc3 pm3 an3 cd3 ct3, fun s v => .of_eq rfl, fun base _ _ => ?_⟩
  have G_law_next := ok_law_next (P := l.prog) (w := w) (base := base) T 
  have G_law_put := ok_law_put (P := l.prog) (w := w) (base := base) T 
  have G_put := ok_put (P := l.prog) (w := w) (base := base) T 
  exact ok_law T G_law_next G_law_put G_put
end Lw
open PySem PySem.W PyProof.Rows
set_option maxRecDepth 100000 in
set_option maxHeartbeats 0 in
theorem PySem.Challenge.cw_twoknowers_k02_messages_put_into_queues_holds : PySem.Challenge.rw_twoknowers_k02_messages_put_into_queues.Holds := by
  w_on; o_law; k_head; (case hw => w_witness2)
  k_fill
  refine L2.walk_of (l := PySem.Challenge.rw_twoknowers_k02_messages_put_into_queues) (n := 63) (k := 2) (x := "_law_script") (CX := fun _ => L2.CX0) (sp := fun w => Fu.spF _ 1 Lw.f_law) rfl (by decide) rfl ⟨rfl, by decide, by decide⟩ (fun w h Y => PySem.W.kIn_of Y) ?F (fun _ _ a ns hl _ hS => Fu.law_sp (Lw.law_true ns hl) hS) (fun _ _ _ _ _ h => h)
  case F =>
    intro w mg fa h KX G hmg
    refine' Lw.all_mk KX G hmg ?x0 ?l0 ?c0 ?k0 ?x1 ?l1 ?c1 ?k1 ?x2 ?l2 ?c2 ?k2 ?x3 ?l3 ?c3 ?k3 ?z_int ?z_isinstance ?z_len ?z_list ?z_range ?z_set ?z_tuple
    (case x0 => k_is)
    (case l0 => k_is)
    (case c0 => k_is)
    (case k0 => k_is)
    (case x1 => k_is)
    (case l1 => k_is)
    (case c1 => k_is)
    (case k1 => k_is)
    (case x2 => k_is)
    (case l2 => k_is)
    (case c2 => k_is)
    (case k2 => k_is)
    (case x3 => k_is)
    (case l3 => k_is)
    (case c3 => k_is)
    (case k3 => k_is)
    (case z_int => k_is)
    (case z_isinstance => k_is)
    (case z_len => k_is)
    (case z_list => k_is)
    (case z_range => k_is)
    (case z_set => k_is)
    (case z_tuple => k_is)
#print axioms PySem.Challenge.cw_twoknowers_k02_messages_put_into_queues_holds
