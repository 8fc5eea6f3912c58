import PyProof.Rows.All
import Wide.All
import OpenK.AllK
import Wide.FinOn
import HandS.ForMost
import HandS.ForExc
import HandS.TupAny
import HandS.TupMul
import HandS.Deep
import HandS.Wide
import HandS.Style
import HandS.IsInst
import PyProof.ListStr
import HandS.RaiseMore
import KE.IntTextText
import HandS.Zip
import HandS.Set
import HandS.SetFor
import HandS.Strs
import KE.SortData
import PySem.Challenge.RW_fieldtexts_k02_whole_records
set_option Elab.async false
set_option linter.all false
section
set_option maxRecDepth 100000
namespace FT
open PySem L2
set_option autoImplicit false

/-! ### values, objects, results of the mirror -/
inductive D where
  | non | bl (b : Bool) | int (i : Int) | str (s : List Nat) | tup (xs : List D) | obj (n : Nat) | fn (x : Str) | ty (n : Nat) | rol (xs : List D)

inductive MO where
  | lst (xs : List D) | dic (kvs : List (D × D)) | ins (c : Str) (fs : List (Str × D))
abbrev MH := List MO

inductive R (a : Type) where
  | ok (x : a) (h : MH) | exc (c : Str) (h : MH) | err
def R.bind {a b : Type} (r : R a) (k : a → MH → R b) : R b := match r with
  | .ok x h => k x h
  | .exc c h => .exc c h
  | .err => .err
abbrev Ev := List (Option D)
abbrev E (a : Type) := Ev → MH → R a

/-- the built-in classes that are named in a text -/
def tyName : Nat → String
  | 0 => "int"
  | 1 => "bool"
  | 2 => "str"
  | 3 => "tuple"
  | 4 => "list"
  | 5 => "dict"
  | 6 => "NoneType"
  | 7 => "ValueError"
  | _ => "set"
/-! ### what stands for what -/
/-- a list that is read, never written -/
def SqF (K : PySem.W.Frag) (H : Hp) (a : Addr) (vs : List V) : Prop := (∃ o, H a = some (.frz o (.lst vs))) ∨ (∀ H', SqL K H' a vs)
theorem SqF.sq {K : PySem.W.Frag} {H : Hp} {a : Addr} {vs : List V} (h : SqF K H a vs) : SqL K H a vs := by
  rcases h with ⟨o, h⟩ | h
  · exact .inl (.inr ⟨o, h⟩)
  · exact h H
section
variable (K : PySem.W.Frag) (mg : Str → Option Value)
mutual
def Rep (r : List Addr) (H : Hp) : D → V → Prop
  | .non, v => v = .non
  | .bl b, v => v = .bl b
  | .int i, v => v = .int i
  | .str s, v => v = .str ⟨s.toArray⟩
  | .tup ds, v => ∃ a vs, v = .ref a ∧ SqT K H a vs ∧ Reps r H ds vs
  | .obj n, v => ∃ a, v = .ref a ∧ r[n]? = some a
  | .fn x, v => ∃ a, v = .ref a ∧ mg x = some (.ref a)
  | .ty n, v => v = .ty (tyName n)
  | .rol ds, v => ∃ a vs, v = .ref a ∧ SqF K H a vs ∧ Reps r H ds vs
def Reps (r : List Addr) (H : Hp) : List D → List V → Prop
  | [], vs => vs = []
  | d :: ds, vs => ∃ v us, vs = v :: us ∧ Rep r H d v ∧ Reps r H ds us
end
def ORep (r : List Addr) (H : Hp) (a : Addr) : MO → Prop
  | .lst xs => ∃ vs, H a = some (.lst vs) ∧ Reps K mg r H xs vs
  | .dic _ => False
  | .ins _ _ => False
structure HR (r : List Addr) (hp : MH) (H : Hp) : Prop where
  len : r.length = hp.length
  nd : r.Nodup
  obj : ∀ (n : Nat) (o : MO), hp[n]? = some o → ∃ a, r[n]? = some a ∧ ORep K mg r H a o
/-- from one state to a later one: what values lean on -/
structure Wk (r : List Addr) (H : Hp) (r' : List Addr) (H' : Hp) : Prop where
  pre : ∃ t, r' = r ++ t
  tup : ∀ a vs, SqT K H a vs → SqT K H' a vs
  fl : ∀ a vs, SqF K H a vs → SqF K H' a vs
structure Ext (r : List Addr) (H : Hp) (r' : List Addr) (H' : Hp) : Prop extends Wk K r H r' H' where
  keep : ∀ a o, H a = some o → a ∉ r → a ∉ r' ∧ H' a = some o
/-- slots -/
structure ES (r : List Addr) (H : Hp) (env : Ev) (σ : St) : Prop where
  len : σ.length = env.length
  val : ∀ (i : Nat) (d : D), env[i]? = some (some d) → ∃ v, σ[i]? = some (some v) ∧ Rep K mg r H d v
end
section
variable {K : PySem.W.Frag} {mg : Str → Option Value} {r r1 r2 : List Addr} {H H1 H2 : Hp}
theorem Ext.refl : Ext K r H r H := ⟨⟨⟨[], by simp⟩, fun _ _ e => e, fun _ _ e => e⟩, fun _ _ e n => ⟨n, e⟩⟩
theorem Ext.trans (a : Ext K r H r1 H1) (b : Ext K r1 H1 r2 H2) : Ext K r H r2 H2 := by
  refine ⟨⟨?_, fun x vs e => b.tup x vs (a.tup x vs e), fun x vs e => b.fl x vs (a.fl x vs e)⟩, fun x o e n => ?_⟩
  · obtain ⟨t, e⟩ := a.pre
    obtain ⟨u, e'⟩ := b.pre
    exact ⟨t ++ u, by rw [e', e, List.append_assoc]⟩
  · obtain ⟨n1, e1⟩ := a.keep x o e n
    exact b.keep x o e1 n1
theorem Wk.at (e : Wk K r H r1 H1) {n : Nat} {a : Addr} (h : r[n]? = some a) : r1[n]? = some a := by
  obtain ⟨t, rfl⟩ := e.pre
  rw [List.getElem?_append_left (List.getElem?_eq_some_iff.mp h).1]
  exact h
mutual
theorem Rep.monoW (e : Wk K r H r1 H1) : ∀ (d : D) {v : V}, Rep K mg r H d v → Rep K mg r1 H1 d v
  | .non, _, h => by unfold Rep at h ⊢; exact h
  | .bl b, _, h => by unfold Rep at h ⊢; exact h
  | .int i, _, h => by unfold Rep at h ⊢; exact h
  | .str s, _, h => by unfold Rep at h ⊢; exact h
  | .ty s, _, h => by unfold Rep at h ⊢; exact h
  | .fn s, _, h => by unfold Rep at h ⊢; exact h
  | .obj n, _, h => by
    unfold Rep at h ⊢
    obtain ⟨a, ev, h⟩ := h
    exact ⟨a, ev, e.at h⟩
  | .tup ds, _, h => by
    unfold Rep at h ⊢
    obtain ⟨a, vs, ev, hs, hr⟩ := h
    exact ⟨a, vs, ev, e.tup a vs hs, Reps.monoW e ds hr⟩
  | .rol ds, _, h => by
    unfold Rep at h ⊢
    obtain ⟨a, vs, ev, hs, hr⟩ := h
    exact ⟨a, vs, ev, e.fl a vs hs, Reps.monoW e ds hr⟩
theorem Reps.monoW (e : Wk K r H r1 H1) : ∀ (ds : List D) {vs : List V}, Reps K mg r H ds vs → Reps K mg r1 H1 ds vs
  | [], _, h => by unfold Reps at h ⊢; exact h
  | d :: ds, _, h => by
    unfold Reps at h ⊢
    obtain ⟨v, us, ev, h1, h2⟩ := h
    exact ⟨v, us, ev, Rep.monoW e d h1, Reps.monoW e ds h2⟩
end
theorem Rep.mono (e : Ext K r H r1 H1) (d : D) {v : V} (h : Rep K mg r H d v) : Rep K mg r1 H1 d v := Rep.monoW e.toWk d h
theorem Reps.mono (e : Ext K r H r1 H1) (ds : List D) {vs : List V} (h : Reps K mg r H ds vs) : Reps K mg r1 H1 ds vs := Reps.monoW e.toWk ds h
theorem ES.mono (e : Ext K r H r1 H1) {env : Ev} {σ : St} (h : ES K mg r H env σ) : ES K mg r1 H1 env σ :=
  ⟨h.len, fun i d q => let ⟨v, h1, h2⟩ := h.val i d q; ⟨v, h1, Rep.mono e d h2⟩⟩
end

/-! ### what is to hold behind a run of the mirror -/
section
variable (K : PySem.W.Frag) (mg : Str → Option Value)
abbrev Rl (a b : Type) := List Addr → Hp → List Addr → Hp → a → b → Prop
def Post {a b : Type} (W : WX) (r : List Addr) (H : Hp) (σ : St) (L : Rl a b) (Q : b → Hp → Prop) : R a → Prop
  | .ok x hp => ∀ r' H' y, Ext K r H r' H' → HR K mg r' hp H' → L r H r' H' x y → Q y H'
  | .exc c hp => ∀ r' H' C, Ext K r H r' H' → HR K mg r' hp H' → mg c = some (.ref C) → W (.ref C) none σ H'
  | .err => False
/-- a relation that is kept when more comes ahead -/
class RlOk {a b : Type} (L : Rl a b) : Prop where
  back : ∀ {r H r1 H1 r2 H2 x y}, Ext K r H r1 H1 → Ext K r1 H1 r2 H2 → L r1 H1 r2 H2 x y → L r H r2 H2 x y
abbrev LV : Rl D V := fun _ _ r' H' x y => Rep K mg r' H' x y
abbrev LB : Rl Bool Bool := fun _ _ _ _ x y => x = y
abbrev LA : Rl (List D) (List V) := fun _ _ r' H' x y => Reps K mg r' H' x y
/-- a new list, unknown to the mirror's heap -/
abbrev LL : Rl (List D) V := fun _ H r' H' x y => ∃ a vs, y = .ref a ∧ a ∉ r' ∧ H a = none ∧ H' a = some (.lst vs) ∧ Reps K mg r' H' x vs
instance : RlOk K (LV K mg) := ⟨fun _ _ h => h⟩
instance : RlOk K LB := ⟨fun _ _ h => h⟩
instance : RlOk K (LA K mg) := ⟨fun _ _ h => h⟩
instance : RlOk K (LL K mg) := ⟨fun {r H r1 H1 r2 H2 x y} e e' h => by
  obtain ⟨a, vs, ey, n, n1, q⟩ := h
  refine ⟨a, vs, ey, n, ?_, q⟩
  cases z : H a with
  | none => rfl
  | some o =>
    have nr : a ∉ r := fun m => n (by
      obtain ⟨t, rfl⟩ := (e.trans e').pre
      exact List.mem_append_left _ m)
    have := (e.keep a o z nr).2
    rw [n1] at this; cases this⟩
def tR {a b : Type} (W : WX) (L : Rl a b) (f : E a) : St → Hp → (b → Hp → Prop) → Prop := fun σ H Q =>
  ∃ env hp r, ES K mg r H env σ ∧ HR K mg r hp H ∧ Post K mg W r H σ L Q (f env hp)
end
section
variable {K : PySem.W.Frag} {mg : Str → Option Value} {r r1 r2 : List Addr} {H H1 H2 : Hp} {W : WX} {σ : St} {a b c d : Type}
theorem Post.weaken {L : Rl a b} [RlOk K L] {Q : b → Hp → Prop} {x : R a} (e : Ext K r H r1 H1) (h : Post K mg W r H σ L Q x) : Post K mg W r1 H1 σ L Q x := by
  cases x with
  | ok x hp => exact fun r' H' y e' hr l => h r' H' y (e.trans e') hr (RlOk.back e e' l)
  | exc c hp => exact fun r' H' C e' hr m => h r' H' C (e.trans e') hr m
  | err => exact h
/-- the part that runs first -/
theorem Post.bind {L : Rl a b} {L2 : Rl c d} [RlOk K L2] {Q : d → Hp → Prop} {Q' : b → Hp → Prop} {x : R a} {k : a → MH → R c}
    (h : Post K mg W r H σ L2 Q (x.bind k))
    (hk : ∀ x hp1 r1 H1 y, Ext K r H r1 H1 → HR K mg r1 hp1 H1 → L r H r1 H1 x y → Post K mg W r1 H1 σ L2 Q (k x hp1) → Q' y H1) : Post K mg W r H σ L Q' x := by
  cases x with
  | ok x hp => exact fun r' H' y e' hr l => hk x hp r' H' y e' hr l (Post.weaken e' h)
  | exc c hp => exact h
  | err => exact h
theorem Post.imp {L : Rl a b} {Q Q' : b → Hp → Prop} {x : R a} (h : Post K mg W r H σ L Q x) (hk : ∀ y H, Q y H → Q' y H) : Post K mg W r H σ L Q' x := by
  cases x with
  | ok x hp => exact fun r' H' y e' hr l => hk _ _ (h r' H' y e' hr l)
  | exc c hp => exact h
  | err => exact h
end

/-! ### the judgements over the mirror -/
abbrev ME (X : Cx) (W : WX) (e : Expr) (f : E D) : Prop := PE X e (tR X.K X.mg W (LV X.K X.mg) f)
abbrev MT (X : Cx) (W : WX) (e : Expr) (f : E Bool) : Prop := PT X e (tR X.K X.mg W LB f)
abbrev MA (X : Cx) (W : WX) (es : List Expr) (f : E (List D)) : Prop := PA X es (tR X.K X.mg W (LA X.K X.mg) f)
abbrev ML (X : Cx) (W : WX) (e : Expr) (f : E (List D)) : Prop := PE X e (tR X.K X.mg W (LL X.K X.mg) f)
section
variable {X : Cx} {W : WX}
theorem PEm {e : Expr} {t t' : TE} (h : PE X e t) (k : ∀ σ H Q, t' σ H Q → t σ H Q) : PE X e t' := ⟨fun pins s σ H Q I q => h.run pins s σ H Q I (k σ H Q q)⟩
theorem PTm {e : Expr} {t t' : TT} (h : PT X e t) (k : ∀ σ H Q, t' σ H Q → t σ H Q) : PT X e t' := ⟨fun pins s σ H Q I q => h.run pins s σ H Q I (k σ H Q q)⟩
theorem PAm {es : List Expr} {t t' : TA} (h : PA X es t) (k : ∀ σ H Q, t' σ H Q → t σ H Q) : PA X es t' := ⟨fun pos pins s σ H Q I q => h.run pos pins s σ H Q I (k σ H Q q)⟩
theorem PSm {st : Stmt} {t t' : TS} (h : PS X st t) (k : ∀ D σ H, t' D σ H → t D σ H) : PS X st t' := ⟨fun pins s σ H D I q => h.run pins s σ H D I (k D σ H q)⟩
theorem PSsm {st : List Stmt} {t t' : TS} (h : PSs X st t) (k : ∀ D σ H, t' D σ H → t D σ H) : PSs X st t' := ⟨fun pins s σ H D I q => h.run pins s σ H D I (k D σ H q)⟩

/-! ### names, constants -/
def vVar (i : Nat) : E D := fun env hp => match env[i]? with
  | some (some d) => .ok d hp
  | _ => .err
def vC (d : D) : E D := fun _ hp => .ok d hp
theorem me_var (i : Nat) {x : Str} {pos : Pos} (hN : X.N[i]? = some x := by rfl) (hv : Vis X.env.scope x := by first | exact Or.inl rfl | exact Or.inr (Or.inl rfl) | exact Or.inr (Or.inr rfl)) (hd : (x == ("__debug__" : Str)) = false := by decide)
    (hcd : (x == ("__classdict__" : Str)) = false := by decide) : ME X W (.Name x pos) (vVar i) := by
  refine PEm (pe_var hN hv hd hcd) fun σ H Q h => ?_
  obtain ⟨env, hp, r, es, hr, p⟩ := h
  unfold vVar at p
  cases q : env[i]? with
  | none => rw [q] at p; exact p.elim
  | some o =>
    cases o with
    | none => rw [q] at p; exact p.elim
    | some d =>
      rw [q] at p
      obtain ⟨v, h1, h2⟩ := es.val i d q
      exact ⟨v, h1, p r H v Ext.refl hr h2⟩
theorem tC_of {d : D} {v : V} (hv : ∀ r H, Rep X.K X.mg r H d v) (σ : St) (H : Hp) (Q : VK) (h : tR X.K X.mg W (LV X.K X.mg) (vC d) σ H Q) : tC v σ H Q := by
  obtain ⟨env, hp, r, es, hr, p⟩ := h
  exact p r H v Ext.refl hr (hv r H)
theorem me_int {i j pos} : ME X W (.Constant (.int i) j pos) (vC (.int i)) := PEm pe_int (tC_of (d := .int i) fun _ _ => by unfold Rep; rfl)
theorem me_bl {b j pos} : ME X W (.Constant (.bool b) j pos) (vC (.bl b)) := PEm pe_bl (tC_of (d := .bl b) fun _ _ => by unfold Rep; rfl)
theorem me_non {j pos} : ME X W (.Constant .none j pos) (vC .non) := PEm pe_non (tC_of (d := .non) fun _ _ => by unfold Rep; rfl)
theorem me_str {x : Str} {s : List Nat} {j pos} (h : x.cps.toList = s := by decide +kernel) : ME X W (.Constant (.str x) j pos) (vC (.str s)) := PEm pe_str (tC_of (d := .str s) fun _ _ => by unfold Rep; subst h; cases x; simp)
end
end FT
end
section
set_option maxRecDepth 100000
namespace FT
open PySem L2
set_option autoImplicit false

def LIM : Nat := 16777216
theorem lim_eq : LIM = sizeLine := rfl

/-! ### two operands -/
def op2 (p : D → D → MH → R D) (f g : E D) : E D := fun env hp => (f env hp).bind fun x h1 => (g env h1).bind fun y h2 => p x y h2
structure P2 (X : Cx) (fop : Value → Value → Sem Value) (p : D → D → MH → R D) : Prop where
  ex : ∃ r : R2, OpR X fop r ∧ ∀ (W : WX) (σ : L2.St) (rr : List Addr) (H : Hp) (hp : MH) (x y : D) (v w : V) (Q : VK), HR X.K X.mg rr hp H → Rep X.K X.mg rr H x v → Rep X.K X.mg rr H y w → Post X.K X.mg W rr H σ (LV X.K X.mg) Q (p x y hp) → r v w H Q
section
variable {X : Cx} {W : WX} {a b c : Expr} {f g k : E D} {pos : Pos}
theorem op2_run {p : D → D → MH → R D} {r : R2} {σ : L2.St} {H : Hp} {Q : VK}
    (hr : ∀ (rr : List Addr) (H : Hp) (hp : MH) (x y : D) (v w : V), HR X.K X.mg rr hp H → Rep X.K X.mg rr H x v → Rep X.K X.mg rr H y w → Post X.K X.mg W rr H σ (LV X.K X.mg) Q (p x y hp) → r v w H Q)
    (h : tR X.K X.mg W (LV X.K X.mg) (op2 p f g) σ H Q) : tOp r (tR X.K X.mg W (LV X.K X.mg) f) (tR X.K X.mg W (LV X.K X.mg) g) σ H Q := by
  obtain ⟨env, hp, rr, es, hh, q⟩ := h
  refine ⟨env, hp, rr, es, hh, Post.bind q fun x hp1 r1 H1 v e1 hr1 rv q1 => ?_⟩
  refine ⟨env, hp1, r1, es.mono e1, hr1, Post.bind q1 fun y hp2 r2 H2 w e2 hr2 rw q2 => ?_⟩
  exact hr r2 H2 hp2 x y v w hr2 (Rep.mono e2 x rv) rw q2
theorem me_op {op : Operator} {p : D → D → MH → R D} (P : P2 X (binaryOp op) p) (ha : ME X W a f) (hb : ME X W b g) : ME X W (.BinOp a op b pos) (op2 p f g) := by
  obtain ⟨r, ho, hr⟩ := P.ex
  exact PEm (pe_op ho ha hb) fun σ H Q h => op2_run (fun rr H hp x y v w => hr W σ rr H hp x y v w Q) h
theorem me_cmp {op : CmpOp} {p : D → D → MH → R D} (P : P2 X (compareOp op) p) (ha : ME X W a f) (hb : ME X W b g) (hm : behindInMarks op b = false := by first | exact nobehind _ (by decide) (by decide) | rfl) : ME X W (.Compare a [op] [b] pos) (op2 p f g) := by
  obtain ⟨r, ho, hr⟩ := P.ex
  exact PEm (pe_cmpR ho ha hb hm) fun σ H Q h => op2_run (fun rr H hp x y v w => hr W σ rr H hp x y v w Q) h
/-- as a test -/
def vTest (f : E D) : E Bool := fun env hp => (f env hp).bind fun x h => match x with
  | .bl b => .ok b h
  | _ => .err
theorem test_run {σ : L2.St} {H : Hp} {Q : Bool → Hp → Prop} (h : tR X.K X.mg W LB (vTest f) σ H Q) : tR X.K X.mg W (LV X.K X.mg) f σ H (fun x H1 => ∃ c, x = .bl c ∧ Q c H1) := by
  obtain ⟨env, hp, rr, es, hh, q⟩ := h
  refine ⟨env, hp, rr, es, hh, Post.bind q fun x hp1 r1 H1 v e1 hr1 rv q1 => ?_⟩
  cases x with
  | bl c =>
    unfold LV Rep at rv
    exact ⟨c, rv, q1 r1 H1 c Ext.refl hr1 rfl⟩
  | _ => exact q1.elim
theorem mt_cmp {op : CmpOp} {p : D → D → MH → R D} (P : P2 X (compareOp op) p) (ha : ME X W a f) (hb : ME X W b g) (hm : behindInMarks op b = false := by first | exact nobehind _ (by decide) (by decide) | rfl) : MT X W (.Compare a [op] [b] pos) (vTest (op2 p f g)) := by
  obtain ⟨r, ho, hr⟩ := P.ex
  exact PTm (pt_cmpR ho ha hb hm) fun σ H Q h => op2_run (fun rr H hp x y v w => hr W σ rr H hp x y v w _) (test_run h)
theorem mt_val {e : Expr} (h : ME X W e f) (he : ∀ whole, isTrue e X.env whole = (do let v ← whole; standAt e.pos; holding [v] (truthy v)) := by intro _; rfl) : MT X W e (vTest f) :=
  PTm (pt_val h he) fun σ H Q q => test_run q
/-! ### and, or, not -/
def bAnd (f g : E Bool) : E Bool := fun env hp => (f env hp).bind fun x h => if x = true then g env h else .ok false h
def bOr (f g : E Bool) : E Bool := fun env hp => (f env hp).bind fun x h => if x = true then .ok true h else g env h
def bNot (f : E Bool) : E Bool := fun env hp => (f env hp).bind fun x h => .ok (!x) h
abbrev MW (X : Cx) (W : WX) (e : Expr) (f : E Bool) : Prop := PW X e (tR X.K X.mg W LB f)
theorem PWm {e : Expr} {t t' : TT} (h : PW X e t) (k : ∀ σ H Q, t' σ H Q → t σ H Q) : PW X e t' := ⟨fun wh pins s σ H Q I q => h.run wh pins s σ H Q I (k σ H Q q)⟩
variable {fb gb : E Bool} {rest : List Expr}
theorem mw_and1 (ha : MT X W a fb) : MW X W (.BoolOp .And [a] pos) fb := pw_and1 ha
theorem mw_or1 (ha : MT X W a fb) : MW X W (.BoolOp .Or [a] pos) fb := pw_or1 ha
theorem mw_and (ha : MT X W a fb) (hb : MW X W (.BoolOp .And (b :: rest) pos) gb) : MW X W (.BoolOp .And (a :: b :: rest) pos) (bAnd fb gb) := by
  refine PWm (pw_and ha hb) fun σ H Q h => ?_
  obtain ⟨env, hp, rr, es, hh, q⟩ := h
  refine ⟨env, hp, rr, es, hh, Post.bind q fun x hp1 r1 H1 v e1 hr1 rv q1 => ?_⟩
  subst rv
  cases x with
  | true => exact ⟨env, hp1, r1, es.mono e1, hr1, q1⟩
  | false => exact q1 r1 H1 false Ext.refl hr1 rfl
theorem mw_or (ha : MT X W a fb) (hb : MW X W (.BoolOp .Or (b :: rest) pos) gb) : MW X W (.BoolOp .Or (a :: b :: rest) pos) (bOr fb gb) := by
  refine PWm (pw_or ha hb) fun σ H Q h => ?_
  obtain ⟨env, hp, rr, es, hh, q⟩ := h
  refine ⟨env, hp, rr, es, hh, Post.bind q fun x hp1 r1 H1 v e1 hr1 rv q1 => ?_⟩
  subst rv
  cases x with
  | false => exact ⟨env, hp1, r1, es.mono e1, hr1, q1⟩
  | true => exact q1 r1 H1 true Ext.refl hr1 rfl
theorem mt_w {e : Expr} (h : MW X W e fb) : MT X W e fb := PW.pt h
theorem mt_not (ha : MT X W a fb) : MT X W (.UnaryOp .Not a pos) (bNot fb) := by
  refine PTm (pt_not ha) fun σ H Q h => ?_
  obtain ⟨env, hp, rr, es, hh, q⟩ := h
  refine ⟨env, hp, rr, es, hh, Post.bind q fun x hp1 r1 H1 v e1 hr1 rv q1 => ?_⟩
  subst rv
  exact q1 r1 H1 (!x) Ext.refl hr1 rfl
/-- .. as values -/
def asB (x : D) (k : Bool → R D) : R D := match x with
  | .bl b => k b
  | _ => .err
def vAnd (f g : E D) : E D := fun env hp => (f env hp).bind fun x h => asB x fun c => if c = true then g env h else .ok (.bl false) h
def vOr (f g : E D) : E D := fun env hp => (f env hp).bind fun x h => asB x fun c => if c = true then .ok (.bl true) h else g env h
def vNot (f : E D) : E D := fun env hp => (f env hp).bind fun x h => asB x fun c => .ok (.bl (!c)) h
theorem me_one {op} (h : ME X W a f) : ME X W (.BoolOp op [a] pos) f := pe_one h
theorem me_and (ha : ME X W a f) (hb : ME X W (.BoolOp .And (b :: rest) pos) g) : ME X W (.BoolOp .And (a :: b :: rest) pos) (vAnd f g) := by
  refine PEm (pe_and ha hb) fun σ H Q h => ?_
  obtain ⟨env, hp, rr, es, hh, q⟩ := h
  refine ⟨env, hp, rr, es, hh, Post.bind q fun x hp1 r1 H1 v e1 hr1 rv q1 => ?_⟩
  cases x with
  | bl c =>
    unfold LV Rep at rv
    refine ⟨c, rv, ?_⟩
    cases c with
    | true => exact ⟨env, hp1, r1, es.mono e1, hr1, q1⟩
    | false => exact q1 r1 H1 _ Ext.refl hr1 (by unfold Rep; rfl)
  | _ => exact q1.elim
theorem me_or (ha : ME X W a f) (hb : ME X W (.BoolOp .Or (b :: rest) pos) g) : ME X W (.BoolOp .Or (a :: b :: rest) pos) (vOr f g) := by
  refine PEm (pe_or ha hb) fun σ H Q h => ?_
  obtain ⟨env, hp, rr, es, hh, q⟩ := h
  refine ⟨env, hp, rr, es, hh, Post.bind q fun x hp1 r1 H1 v e1 hr1 rv q1 => ?_⟩
  cases x with
  | bl c =>
    unfold LV Rep at rv
    refine ⟨c, rv, ?_⟩
    cases c with
    | false => exact ⟨env, hp1, r1, es.mono e1, hr1, q1⟩
    | true => exact q1 r1 H1 _ Ext.refl hr1 (by unfold Rep; rfl)
  | _ => exact q1.elim
theorem me_not (ha : ME X W a f) : ME X W (.UnaryOp .Not a pos) (vNot f) := by
  refine PEm (pe_not ha) fun σ H Q h => ?_
  obtain ⟨env, hp, rr, es, hh, q⟩ := h
  refine ⟨env, hp, rr, es, hh, Post.bind q fun x hp1 r1 H1 v e1 hr1 rv q1 => ?_⟩
  cases x with
  | bl c =>
    unfold LV Rep at rv
    exact ⟨c, rv, q1 r1 H1 _ Ext.refl hr1 (by unfold Rep; rfl)⟩
  | _ => exact q1.elim
def vIf (c : E Bool) (f g : E D) : E D := fun env hp => (c env hp).bind fun x h => if x = true then f env h else g env h
theorem me_if {t : Expr} (hc : MT X W t fb) (ha : ME X W a f) (hb : ME X W b g) : ME X W (.IfExp t a b pos) (vIf fb f g) := by
  refine PEm (pe_ifExp hc ha hb) fun σ H Q h => ?_
  obtain ⟨env, hp, rr, es, hh, q⟩ := h
  refine ⟨env, hp, rr, es, hh, Post.bind q fun x hp1 r1 H1 v e1 hr1 rv q1 => ?_⟩
  subst rv
  cases x with
  | true => exact ⟨env, hp1, r1, es.mono e1, hr1, q1⟩
  | false => exact ⟨env, hp1, r1, es.mono e1, hr1, q1⟩
/-- .. where both are new lists -/
def lIf (c : E Bool) (f g : E (List D)) : E (List D) := fun env hp => (c env hp).bind fun x h => if x = true then f env h else g env h
theorem ml_if {t : Expr} {fl gl : E (List D)} (hc : MT X W t fb) (ha : ML X W a fl) (hb : ML X W b gl) : ML X W (.IfExp t a b pos) (lIf fb fl gl) := by
  refine PEm (pe_ifExp hc ha hb) fun σ H Q h => ?_
  obtain ⟨env, hp, rr, es, hh, q⟩ := h
  refine ⟨env, hp, rr, es, hh, Post.bind q fun x hp1 r1 H1 v e1 hr1 rv q1 => ?_⟩
  subst rv
  cases x with
  | true => exact ⟨env, hp1, r1, es.mono e1, hr1, q1⟩
  | false => exact ⟨env, hp1, r1, es.mono e1, hr1, q1⟩
/-! ### a < b < c -/
def op3 (p q : D → D → MH → R D) (f g k : E D) : E D := fun env hp => (f env hp).bind fun x h1 => (g env h1).bind fun y h2 => (p x y h2).bind fun z h3 => asB z fun t => if t = true then (k env h3).bind fun w h4 => q y w h4 else .ok (.bl false) h3
theorem op3_run {p q : D → D → MH → R D} {r r' : R2} {σ : L2.St} {H : Hp} {Q : VK}
    (hr : ∀ (rr : List Addr) (H : Hp) (hp : MH) (x y : D) (v w : V) (Q : VK), HR X.K X.mg rr hp H → Rep X.K X.mg rr H x v → Rep X.K X.mg rr H y w → Post X.K X.mg W rr H σ (LV X.K X.mg) Q (p x y hp) → r v w H Q)
    (hr' : ∀ (rr : List Addr) (H : Hp) (hp : MH) (x y : D) (v w : V) (Q : VK), HR X.K X.mg rr hp H → Rep X.K X.mg rr H x v → Rep X.K X.mg rr H y w → Post X.K X.mg W rr H σ (LV X.K X.mg) Q (q x y hp) → r' v w H Q)
    (h : tR X.K X.mg W (LV X.K X.mg) (op3 p q f g k) σ H Q) : tChain r r' (tR X.K X.mg W (LV X.K X.mg) f) (tR X.K X.mg W (LV X.K X.mg) g) (tR X.K X.mg W (LV X.K X.mg) k) σ H Q := by
  obtain ⟨env, hp, rr, es, hh, q0⟩ := h
  refine ⟨env, hp, rr, es, hh, Post.bind q0 fun x hp1 r1 H1 v e1 hr1 rv q1 => ?_⟩
  refine ⟨env, hp1, r1, es.mono e1, hr1, Post.bind q1 fun y hp2 r2 H2 w e2 hr2 rw q2 => ?_⟩
  refine hr r2 H2 hp2 x y v w _ hr2 (Rep.mono e2 x rv) rw (Post.bind q2 fun z hp3 r3 H3 u e3 hr3 ru q3 => ?_)
  cases z with
  | bl c =>
    unfold LV Rep at ru
    refine ⟨c, ru, ?_⟩
    cases c with
    | true =>
      refine ⟨env, hp3, r3, (es.mono (e1.trans e2)).mono e3, hr3, Post.bind q3 fun x' hp4 r4 H4 v' e4 hr4 rv' q4 => ?_⟩
      exact hr' r4 H4 hp4 y x' w v' _ hr4 (Rep.mono (e3.trans e4) y rw) rv' q4
    | false => exact q3 r3 H3 _ Ext.refl hr3 (by unfold Rep; rfl)
  | _ => exact q3.elim
theorem me_chain {op op' : CmpOp} {p q : D → D → MH → R D} (P : P2 X (compareOp op) p) (P' : P2 X (compareOp op') q) (ha : ME X W a f) (hb : ME X W b g) (hc : ME X W c k) (hm : lastMarks [op, op'] [b, c] = false := by with_unfolding_all rfl) : ME X W (.Compare a [op, op'] [b, c] pos) (op3 p q f g k) := by
  obtain ⟨r, ho, hr⟩ := P.ex
  obtain ⟨r', ho', hr'⟩ := P'.ex
  exact PEm (pe_chain ho ho' ha hb hc hm) fun σ H Q h => op3_run (fun rr H hp x y v w Q => hr W σ rr H hp x y v w Q) (fun rr H hp x y v w Q => hr' W σ rr H hp x y v w Q) h
theorem mt_chain {op op' : CmpOp} {p q : D → D → MH → R D} (P : P2 X (compareOp op) p) (P' : P2 X (compareOp op') q) (ha : ME X W a f) (hb : ME X W b g) (hc : ME X W c k) (hm : lastMarks [op, op'] [b, c] = false := by with_unfolding_all rfl) : MT X W (.Compare a [op, op'] [b, c] pos) (vTest (op3 p q f g k)) := by
  obtain ⟨r, ho, hr⟩ := P.ex
  obtain ⟨r', ho', hr'⟩ := P'.ex
  exact PTm (pt_chain ho ho' ha hb hc hm) fun σ H Q h => op3_run (fun rr H hp x y v w Q => hr W σ rr H hp x y v w Q) (fun rr H hp x y v w Q => hr' W σ rr H hp x y v w Q) (test_run h)
end
end FT
end
section
set_option maxRecDepth 100000
namespace FT
open PySem L2
set_option autoImplicit false

section
variable {X : Cx}
/-! ### what a value that stands for a datum is -/
theorem rep_int {K : PySem.W.Frag} {mg : Str → Option Value} {r : List Addr} {H : Hp} {i : Int} {v : V} (h : Rep K mg r H (.int i) v) : v = .int i := by unfold Rep at h; exact h
theorem rep_bl {K : PySem.W.Frag} {mg : Str → Option Value} {r : List Addr} {H : Hp} {i : Bool} {v : V} (h : Rep K mg r H (.bl i) v) : v = .bl i := by unfold Rep at h; exact h
theorem rep_non {K : PySem.W.Frag} {mg : Str → Option Value} {r : List Addr} {H : Hp} {v : V} (h : Rep K mg r H .non v) : v = .non := by unfold Rep at h; exact h
theorem rep_str {K : PySem.W.Frag} {mg : Str → Option Value} {r : List Addr} {H : Hp} {s : List Nat} {v : V} (h : Rep K mg r H (.str s) v) : v = .str ⟨s.toArray⟩ := by unfold Rep at h; exact h
theorem rep_tup {K : PySem.W.Frag} {mg : Str → Option Value} {r : List Addr} {H : Hp} {ds : List D} {v : V} (h : Rep K mg r H (.tup ds) v) : ∃ a vs, v = .ref a ∧ SqT K H a vs ∧ Reps K mg r H ds vs := by unfold Rep at h; exact h
theorem rep_obj {K : PySem.W.Frag} {mg : Str → Option Value} {r : List Addr} {H : Hp} {n : Nat} {v : V} (h : Rep K mg r H (.obj n) v) : ∃ a, v = .ref a ∧ r[n]? = some a := by unfold Rep at h; exact h
theorem of_int {K : PySem.W.Frag} {mg : Str → Option Value} {r : List Addr} {H : Hp} {i : Int} : Rep K mg r H (.int i) (.int i) := by unfold Rep; rfl
theorem of_bl {K : PySem.W.Frag} {mg : Str → Option Value} {r : List Addr} {H : Hp} {i : Bool} : Rep K mg r H (.bl i) (.bl i) := by unfold Rep; rfl
theorem of_non {K : PySem.W.Frag} {mg : Str → Option Value} {r : List Addr} {H : Hp} : Rep K mg r H .non .non := by unfold Rep; rfl
theorem of_str {K : PySem.W.Frag} {mg : Str → Option Value} {r : List Addr} {H : Hp} {s : List Nat} : Rep K mg r H (.str s) (.str ⟨s.toArray⟩) := by unfold Rep; rfl
theorem of_tup {K : PySem.W.Frag} {mg : Str → Option Value} {r : List Addr} {H : Hp} {ds : List D} {a : Addr} {vs : List V} (h : SqT K H a vs) (q : Reps K mg r H ds vs) : Rep K mg r H (.tup ds) (.ref a) := by unfold Rep; exact ⟨a, vs, rfl, h, q⟩
theorem of_obj {K : PySem.W.Frag} {mg : Str → Option Value} {r : List Addr} {H : Hp} {n : Nat} {a : Addr} (h : r[n]? = some a) : Rep K mg r H (.obj n) (.ref a) := by unfold Rep; exact ⟨a, rfl, h⟩
section
variable {K : PySem.W.Frag} {mg : Str → Option Value} {r : List Addr} {H : Hp}
theorem reps_len : ∀ {ds : List D} {vs : List V}, Reps K mg r H ds vs → vs.length = ds.length
  | [], _, h => by unfold Reps at h; rw [h]; rfl
  | d :: ds, _, h => by
    unfold Reps at h
    obtain ⟨v, us, rfl, _, h2⟩ := h
    simp [reps_len h2]
theorem reps_nil : Reps K mg r H [] [] := by unfold Reps; rfl
theorem reps_cons {d : D} {ds : List D} {v : V} {vs : List V} (h : Rep K mg r H d v) (q : Reps K mg r H ds vs) : Reps K mg r H (d :: ds) (v :: vs) := by unfold Reps; exact ⟨v, vs, rfl, h, q⟩
theorem reps_get : ∀ {ds : List D} {vs : List V} {i : Nat} {d : D}, Reps K mg r H ds vs → ds[i]? = some d → ∃ v, vs[i]? = some v ∧ Rep K mg r H d v
  | [], _, _, _, _, e => by simp at e
  | x :: ds, _, 0, d, h, e => by
    unfold Reps at h
    obtain ⟨v, us, rfl, h1, h2⟩ := h
    simp at e
    subst e
    exact ⟨v, rfl, h1⟩
  | x :: ds, _, i + 1, d, h, e => by
    unfold Reps at h
    obtain ⟨v, us, rfl, h1, h2⟩ := h
    obtain ⟨w, e1, e2⟩ := reps_get h2 (by simpa using e)
    exact ⟨w, by simpa using e1, e2⟩
theorem reps_append : ∀ {ds es : List D} {vs ws : List V}, Reps K mg r H ds vs → Reps K mg r H es ws → Reps K mg r H (ds ++ es) (vs ++ ws)
  | [], es, _, _, h, q => by unfold Reps at h; subst h; exact q
  | d :: ds, es, _, _, h, q => by
    unfold Reps at h
    obtain ⟨v, us, rfl, h1, h2⟩ := h
    exact reps_cons h1 (reps_append h2 q)
theorem reps_take : ∀ {ds : List D} {vs : List V} (n : Nat), Reps K mg r H ds vs → Reps K mg r H (ds.take n) (vs.take n)
  | [], _, n, h => by unfold Reps at h; subst h; simp; exact reps_nil
  | d :: ds, _, 0, h => by simp; exact reps_nil
  | d :: ds, _, n + 1, h => by
    unfold Reps at h
    obtain ⟨v, us, rfl, h1, h2⟩ := h
    simp only [List.take_succ_cons]
    exact reps_cons h1 (reps_take n h2)
theorem reps_drop : ∀ {ds : List D} {vs : List V} (n : Nat), Reps K mg r H ds vs → Reps K mg r H (ds.drop n) (vs.drop n)
  | [], _, n, h => by unfold Reps at h; subst h; simp; exact reps_nil
  | d :: ds, _, 0, h => by simpa using h
  | d :: ds, _, n + 1, h => by
    unfold Reps at h
    obtain ⟨v, us, rfl, h1, h2⟩ := h
    simp only [List.drop_succ_cons]
    exact reps_drop n h2
theorem reps_set {d : D} {v : V} (q : Rep K mg r H d v) : ∀ {ds : List D} {vs : List V} (n : Nat), Reps K mg r H ds vs → Reps K mg r H (ds.set n d) (vs.set n v)
  | [], _, n, h => by unfold Reps at h; subst h; simp; exact reps_nil
  | x :: ds, _, 0, h => by
    unfold Reps at h
    obtain ⟨w, us, rfl, h1, h2⟩ := h
    exact reps_cons q h2
  | x :: ds, _, n + 1, h => by
    unfold Reps at h
    obtain ⟨w, us, rfl, h1, h2⟩ := h
    exact reps_cons h1 (reps_set q n h2)
theorem reps_reverse : ∀ {ds : List D} {vs : List V}, Reps K mg r H ds vs → Reps K mg r H ds.reverse vs.reverse
  | [], _, h => by unfold Reps at h; subst h; exact reps_nil
  | d :: ds, _, h => by
    unfold Reps at h
    obtain ⟨v, us, rfl, h1, h2⟩ := h
    simp only [List.reverse_cons]
    exact reps_append (reps_reverse h2) (reps_cons h1 reps_nil)
theorem reps_ints : ∀ {ns : List Int} {vs : List V}, Reps K mg r H (ns.map .int) vs → vs = ns.map V.int
  | [], _, h => by unfold List.map Reps at h; exact h
  | n :: ns, _, h => by
    unfold List.map Reps at h
    obtain ⟨v, us, rfl, h1, h2⟩ := h
    rw [rep_int h1, reps_ints h2]; rfl
theorem of_ints : ∀ {ns : List Int}, Reps K mg r H (ns.map .int) (ns.map V.int)
  | [] => reps_nil
  | n :: ns => reps_cons of_int of_ints
theorem reps_bls : ∀ {ns : List Bool} {vs : List V}, Reps K mg r H (ns.map .bl) vs → vs = ns.map V.bl
  | [], _, h => by unfold List.map Reps at h; exact h
  | n :: ns, _, h => by
    unfold List.map Reps at h
    obtain ⟨v, us, rfl, h1, h2⟩ := h
    rw [rep_bl h1, reps_bls h2]; rfl
theorem reps_strs : ∀ {ns : List (List Nat)} {vs : List V}, Reps K mg r H (ns.map .str) vs → vs = ns.map fun s => V.str ⟨s.toArray⟩
  | [], _, h => by unfold List.map Reps at h; exact h
  | n :: ns, _, h => by
    unfold List.map Reps at h
    obtain ⟨v, us, rfl, h1, h2⟩ := h
    rw [rep_str h1, reps_strs h2]; rfl
theorem of_strs : ∀ {ns : List (List Nat)}, Reps K mg r H (ns.map .str) (ns.map fun s => V.str ⟨s.toArray⟩)
  | [] => reps_nil
  | n :: ns => reps_cons of_str of_strs
end
/-! ### a new object behind: what stood is as it was -/
section
variable {K : PySem.W.Frag} {mg : Str → Option Value} {r : List Addr} {H : Hp} {hp : MH} {p : Addr} {o : HO}
theorem sqt_upd_new {a : Addr} {vs : List V} (hn : H p = none) (h : SqT K H a vs) : SqT K (upd H p o) a vs := by
  rcases h with (h | ⟨ob, h⟩) | h
  · exact .inl (.inl (by rw [upd_ne (ne_of_none h hn)]; exact h))
  · exact .inl (.inr ⟨ob, by rw [upd_ne (ne_of_none h hn)]; exact h⟩)
  · exact .inr h
theorem sql_upd_new {a : Addr} {vs : List V} (hn : H p = none) (h : SqL K H a vs) : SqL K (upd H p o) a vs := by
  rcases h with (h | ⟨ob, h⟩) | h
  · exact .inl (.inl (by rw [upd_ne (ne_of_none h hn)]; exact h))
  · exact .inl (.inr ⟨ob, by rw [upd_ne (ne_of_none h hn)]; exact h⟩)
  · exact .inr h
theorem ext_new (hn : H p = none) : Ext K r H r (upd H p o) := ⟨⟨⟨[], by simp⟩, fun a vs h => sqt_upd_new hn h, fun a vs h => by
    rcases h with ⟨ob, h⟩ | h
    · exact .inl ⟨ob, by rw [upd_ne (ne_of_none h hn)]; exact h⟩
    · exact .inr h⟩, fun a u e n => ⟨n, by rw [upd_ne (ne_of_none e hn)]; exact e⟩⟩

theorem ORep.some {a : Addr} {o : MO} (h : ORep K mg r H a o) : ∃ u, H a = some u := by
  cases o with
  | lst xs => obtain ⟨vs, e, _⟩ := h; exact ⟨_, e⟩
  | dic _ => exact h.elim
  | ins _ _ => exact h.elim
theorem ORep.mono {r' : List Addr} {H' : Hp} {a : Addr} {o : MO} (e : Wk K r H r' H') (ha : H' a = H a) (h : ORep K mg r H a o) : ORep K mg r' H' a o := by
  cases o with
  | lst xs => obtain ⟨vs, q, h⟩ := h; exact ⟨vs, ha.trans q, Reps.monoW e xs h⟩
  | dic _ => exact h.elim
  | ins _ _ => exact h.elim
theorem hr_new (h : HR K mg r hp H) (hn : H p = none) : HR K mg r hp (upd H p o) :=
  ⟨h.len, h.nd, fun n ob q => by
    obtain ⟨a, e, q⟩ := h.obj n ob q
    obtain ⟨u, z⟩ := q.some
    exact ⟨a, e, q.mono (ext_new hn).toWk (upd_ne (ne_of_none z hn))⟩⟩
theorem hr_in (h : HR K mg r hp H) {a : Addr} (ha : a ∈ r) : ∃ u, H a = some u := by
  obtain ⟨n, e⟩ := List.mem_iff_getElem?.mp ha
  have hl : n < hp.length := by rw [← h.len]; exact (List.getElem?_eq_some_iff.mp e).1
  obtain ⟨b, e2, q⟩ := h.obj n hp[n] (List.getElem?_eq_getElem hl)
  rw [e] at e2; cases e2
  exact q.some
theorem hr_nin (h : HR K mg r hp H) (hn : H p = none) : p ∉ r := fun m => by
  obtain ⟨u, z⟩ := hr_in h m
  rw [hn] at z; cases z
/-- an object that was made becomes one of the mirror's -/
theorem ext_push (h : HR K mg r hp H) (hn : H p = none) : Ext K r H (r ++ [p]) (upd H p o) := by
  have e := ext_new (K := K) (r := r) (o := o) hn
  refine ⟨⟨⟨[p], rfl⟩, e.tup, e.fl⟩, fun a u q n => ?_⟩
  refine ⟨fun m => ?_, (e.keep a u q n).2⟩
  rcases List.mem_append.mp m with m | m
  · exact n m
  · have : a = p := by simpa using m
    subst this
    rw [hn] at q; cases q
theorem hr_push {xs : List D} {vs : List V} (h : HR K mg r hp H) (hn : H p = none) (q : Reps K mg r H xs vs) : HR K mg (r ++ [p]) (hp ++ [.lst xs]) (upd H p (.lst vs)) := by
  have e := ext_push (o := .lst vs) h hn
  refine ⟨by simp [h.len], ?_, fun n ob z => ?_⟩
  · rw [List.nodup_append]
    refine ⟨h.nd, by simp, fun a ha b hb => ?_⟩
    have : b = p := by simpa using hb
    subst this
    exact fun z => hr_nin h hn (z ▸ ha)
  · by_cases hl : n < hp.length
    · rw [List.getElem?_append_left hl] at z
      obtain ⟨a, e1, q1⟩ := h.obj n ob z
      obtain ⟨u, z1⟩ := q1.some
      exact ⟨a, e.at e1, q1.mono e.toWk (upd_ne (ne_of_none z1 hn))⟩
    · have hl2 : n = hp.length := by
        have := (List.getElem?_eq_some_iff.mp z).1
        simp at this
        omega
      subst hl2
      simp at z
      subst z
      refine ⟨p, ?_, vs, upd_same, Reps.mono e xs q⟩
      rw [← h.len]; simp
/-- .. one that is there already and unknown to the mirror -/
theorem ext_take {a : Addr} {H0 : Hp} {r0 : List Addr} (e : Ext K r0 H0 r H) (na : a ∉ r) (h0 : H0 a = none) : Ext K r0 H0 (r ++ [a]) H := by
  obtain ⟨t, rfl⟩ := e.pre
  refine ⟨⟨⟨t ++ [a], by simp⟩, e.tup, e.fl⟩, fun b u q n => ?_⟩
  obtain ⟨n1, q1⟩ := e.keep b u q n
  refine ⟨fun m => ?_, q1⟩
  rcases List.mem_append.mp m with m | m
  · exact n1 m
  · have : b = a := by simpa using m
    subst this
    rw [h0] at q; cases q
theorem hr_take {xs : List D} {vs : List V} {a : Addr} (h : HR K mg r hp H) (na : a ∉ r) (ea : H a = some (.lst vs)) (q : Reps K mg r H xs vs) : HR K mg (r ++ [a]) (hp ++ [.lst xs]) H := by
  have e : Wk K r H (r ++ [a]) H := ⟨⟨[a], rfl⟩, fun _ _ z => z, fun _ _ z => z⟩
  refine ⟨by simp [h.len], ?_, fun n ob z => ?_⟩
  · rw [List.nodup_append]
    refine ⟨h.nd, by simp, fun b hb c hc => ?_⟩
    have : c = a := by simpa using hc
    subst this
    exact fun z => na (z ▸ hb)
  · by_cases hl : n < hp.length
    · rw [List.getElem?_append_left hl] at z
      obtain ⟨b, e1, q1⟩ := h.obj n ob z
      exact ⟨b, e.at e1, q1.mono e rfl⟩
    · have hl2 : n = hp.length := by
        have := (List.getElem?_eq_some_iff.mp z).1
        simp at this
        omega
      subst hl2
      simp at z
      subst z
      refine ⟨a, ?_, vs, ea, Reps.monoW e xs q⟩
      rw [← h.len]; simp
theorem hr_set {n : Nat} {a : Addr} {xs ys : List D} {vs : List V} (h : HR K mg r hp H) (ha : r[n]? = some a) (hx : hp[n]? = some (.lst xs)) (q : Reps K mg r H ys vs) :
    Ext K r H r (upd H a (.lst vs)) ∧ HR K mg r (hp.set n (.lst ys)) (upd H a (.lst vs)) := by
  obtain ⟨b, e1, us, eb, _⟩ := h.obj n _ hx
  rw [ha] at e1; cases e1
  have hin : a ∈ r := List.mem_of_getElem? ha
  have e : Ext K r H r (upd H a (.lst vs)) := by
    refine ⟨⟨⟨[], by simp⟩, fun c ws z => ?_, fun c ws z => ?_⟩, fun c u z nc => ⟨nc, ?_⟩⟩
    rotate_left 2
    · rw [upd_ne (fun w : c = a => nc (by rw [w]; exact hin))]; exact z
    · rcases z with (z | ⟨ob, z⟩) | z
      · exact .inl (.inl (by rw [upd_ne (ne_of z eb (by intro w; cases w))]; exact z))
      · exact .inl (.inr ⟨ob, by rw [upd_ne (ne_of z eb (by intro w; cases w))]; exact z⟩)
      · exact .inr z
    · rcases z with ⟨ob, z⟩ | z
      · exact .inl ⟨ob, by rw [upd_ne (ne_of z eb (by intro w; cases w))]; exact z⟩
      · exact .inr z
  refine ⟨e, ⟨by simpa using h.len, h.nd, fun m ob z => ?_⟩⟩
  by_cases hm : m = n
  · subst hm
    have hl : m < hp.length := (List.getElem?_eq_some_iff.mp hx).1
    rw [List.getElem?_set_self hl] at z
    cases z
    exact ⟨a, ha, vs, upd_same, Reps.mono e ys q⟩
  · rw [List.getElem?_set_ne (Ne.symm hm)] at z
    obtain ⟨c, e2, q2⟩ := h.obj m ob z
    have hca : c ≠ a := fun w => by
      subst w
      exact hm (by
        obtain ⟨l1, g1⟩ := List.getElem?_eq_some_iff.mp e2
        obtain ⟨l2, g2⟩ := List.getElem?_eq_some_iff.mp ha
        exact (List.getElem_inj h.nd).mp (g1.trans g2.symm))
    exact ⟨c, e2, q2.mono e.toWk (upd_ne hca)⟩
end
end
end FT
end
section
set_option maxRecDepth 100000
namespace FT
open PySem L2
set_option autoImplicit false
theorem str_app (s t : List Nat) : ((⟨s.toArray⟩ : Str) ++ (⟨t.toArray⟩ : Str)) = ⟨(s ++ t).toArray⟩ := by
  show (Str.append _ _) = _
  unfold Str.append
  simp
theorem str_len (s : List Nat) : (⟨s.toArray⟩ : Str).length = s.length := by unfold Str.length; simp
def addM : D → D → MH → R D
  | .int i, .int j, h => .ok (.int (i + j)) h
  | .str s, .str t, h => if s.length + t.length ≤ LIM then .ok (.str (s ++ t)) h else .err
  | .tup xs, .tup ys, h => if xs.length + ys.length ≤ LIM then .ok (.tup (xs ++ ys)) h else .err
  | .obj m, .obj n, h => match h[m]?, h[n]? with
    | some (.lst xs), some (.lst ys) => if xs.length + ys.length ≤ LIM then .ok (.obj h.length) (h ++ [.lst (xs ++ ys)]) else .err
    | _, _ => .err
  | _, _, _ => .err
def subM : D → D → MH → R D
  | .int i, .int j, h => .ok (.int (i - j)) h
  | _, _, _ => .err
def mulOk (i j : Int) : Bool := decide (-(2 ^ 64) < i ∧ i < 2 ^ 64) || decide (-(2 ^ 64) < j ∧ j < 2 ^ 64)
def mulM : D → D → MH → R D
  | .int i, .int j, h => if mulOk i j = true then .ok (.int (i * j)) h else .err
  | .tup xs, .int k, h => if xs ≠ [] ∧ 2 ≤ k ∧ k ≤ 1000 ∧ xs.length ≤ 1000 then .ok (.tup (List.replicate k.toNat xs).flatten) h else .err
  | _, _, _ => .err
def fdivM : D → D → MH → R D
  | .int i, .int j, h => if 0 < j ∧ j < 1073741824 then .ok (.int (i / j)) h else .err
  | _, _, _ => .err
def modM : D → D → MH → R D
  | .int i, .int j, h => if 0 < j then .ok (.int (i % j)) h else .err
  | _, _, _ => .err
def powM : D → D → MH → R D
  | .int i, .int j, h => if 0 ≤ j ∧ j ≤ 1000000 ∧ i.natAbs < 2 ^ 64 then .ok (.int (i ^ j.toNat)) h else .err
  | _, _, _ => .err
section
variable {X : Cx}
theorem post_at {K : PySem.W.Frag} {mg : Str → Option Value} {W : WX} {r : List Addr} {H : Hp} {hp : MH} {σ : L2.St} {Q : VK} {d : D} {v : V} (hr : HR K mg r hp H) (p : Post K mg W r H σ (LV K mg) Q (.ok d hp)) (h : Rep K mg r H d v) : Q v H := p r H v Ext.refl hr h
/-- a new tuple -/
theorem post_tup {K : PySem.W.Frag} {mg : Str → Option Value} {W : WX} {r : List Addr} {H : Hp} {hp : MH} {σ : L2.St} {Q : VK} {ds : List D} {vs : List V} {q : Addr} (hr : HR K mg r hp H) (p : Post K mg W r H σ (LV K mg) Q (.ok (.tup ds) hp)) (h : Reps K mg r H ds vs) (hn : H q = none) : Q (.ref q) (upd H q (.tup vs)) :=
  p r _ (.ref q) (ext_new hn) (hr_new hr hn) (of_tup (SqT.of upd_same) (Reps.mono (ext_new hn) ds h))
/-- a new list of the mirror's -/
theorem post_lst {K : PySem.W.Frag} {mg : Str → Option Value} {W : WX} {r : List Addr} {H : Hp} {hp : MH} {σ : L2.St} {Q : VK} {ds : List D} {vs : List V} {q : Addr} (hr : HR K mg r hp H) (p : Post K mg W r H σ (LV K mg) Q (.ok (.obj hp.length) (hp ++ [.lst ds]))) (h : Reps K mg r H ds vs) (hn : H q = none) : Q (.ref q) (upd H q (.lst vs)) :=
  p (r ++ [q]) _ (.ref q) (ext_push hr hn) (hr_push hr hn h) (of_obj (by rw [← hr.len]; simp))
theorem p_add : P2 X (binaryOp .Add) addM := by
  refine ⟨_, op_add.or (op_add_str.or (op_catA.or op_cat)), fun W σ rr H hp x y v w Q hr rx ry p => ?_⟩
  cases x <;> cases y <;> try exact False.elim p
  · rename_i i j
    obtain rfl := rep_int rx
    obtain rfl := rep_int ry
    exact .inl ⟨i, j, rfl, rfl, post_at hr p of_int⟩
  · rename_i s t
    obtain rfl := rep_str rx
    obtain rfl := rep_str ry
    simp only [addM] at p
    split at p
    · rename_i hl
      exact .inr (.inl ⟨_, _, rfl, rfl, by rw [str_len, str_len]; exact hl, by rw [str_app]; exact post_at hr p of_str⟩)
    · exact False.elim p
  · rename_i xs ys
    obtain ⟨a, vs, rfl, h1, h2⟩ := rep_tup rx
    obtain ⟨b, ws, rfl, h3, h4⟩ := rep_tup ry
    simp only [addM] at p
    split at p
    · rename_i hl
      refine .inr (.inr (.inl ⟨a, b, vs, ws, rfl, rfl, h1, h3, by rw [reps_len h2, reps_len h4]; exact hl, fun z => ?_, fun _ z => ?_, fun _ _ q hq => post_tup hr p (reps_append h2 h4) hq⟩))
      · subst z
        have z : xs = [] := List.length_eq_zero_iff.mp (reps_len h2).symm
        subst z
        exact post_at hr p (of_tup h3 h4)
      · subst z
        have z : ys = [] := List.length_eq_zero_iff.mp (reps_len h4).symm
        subst z
        rw [List.append_nil] at p
        exact post_at hr p (of_tup h1 h2)
    · exact False.elim p
  · rename_i m n
    obtain ⟨a, rfl, h1⟩ := rep_obj rx
    obtain ⟨b, rfl, h2⟩ := rep_obj ry
    simp only [addM] at p
    split at p
    · rename_i xs ys e1 e2
      split at p
      · rename_i hl
        obtain ⟨a', g1, vs, ea, hv⟩ := hr.obj m _ e1
        obtain ⟨b', g2, ws, eb, hw⟩ := hr.obj n _ e2
        rw [h1] at g1; cases g1
        rw [h2] at g2; cases g2
        exact .inr (.inr (.inr ⟨a, b, vs, ws, rfl, rfl, ea, eb, by rw [reps_len hv, reps_len hw]; exact hl, fun q hq => post_lst hr p (reps_append hv hw) hq⟩))
      · exact False.elim p
    · exact False.elim p
theorem p_sub : P2 X (binaryOp .Sub) subM := by
  refine ⟨_, op_sub, fun W σ rr H hp x y v w Q hr rx ry p => ?_⟩
  cases x <;> cases y <;> try exact False.elim p
  rename_i i j
  obtain rfl := rep_int rx
  obtain rfl := rep_int ry
  exact ⟨i, j, rfl, rfl, post_at hr p of_int⟩
theorem p_mul : P2 X (binaryOp .Mult) mulM := by
  refine ⟨_, op_mul.or op_repT, fun W σ rr H hp x y v w Q hr rx ry p => ?_⟩
  cases x <;> cases y <;> try exact False.elim p
  · rename_i i j
    obtain rfl := rep_int rx
    obtain rfl := rep_int ry
    simp only [mulM] at p
    split at p
    · rename_i hc
      refine .inl ⟨i, j, rfl, rfl, ?_, post_at hr p of_int⟩
      unfold mulOk at hc
      simpa [CMul] using hc
    · exact False.elim p
  · rename_i xs k
    obtain ⟨a, vs, rfl, h1, h2⟩ := rep_tup rx
    obtain rfl := rep_int ry
    simp only [mulM] at p
    split at p
    · rename_i hc
      obtain ⟨c1, c2, c3, c4⟩ := hc
      refine .inr ⟨a, k, vs, rfl, rfl, h1, ?_, c2, c3, by rw [reps_len h2]; exact c4, fun q hq => post_tup hr p ?_ hq⟩
      · intro z
        have := reps_len h2
        rw [z] at this
        exact c1 (List.length_eq_zero_iff.mp this.symm)
      · generalize k.toNat = n
        induction n with
        | zero => exact reps_nil
        | succ n ih => rw [List.replicate_succ, List.replicate_succ, List.flatten_cons, List.flatten_cons]; exact reps_append h2 ih
    · exact False.elim p
theorem p_fdiv : P2 X (binaryOp .FloorDiv) fdivM := by
  refine ⟨_, op_fdiv, fun W σ rr H hp x y v w Q hr rx ry p => ?_⟩
  cases x <;> cases y <;> try exact False.elim p
  rename_i i j
  obtain rfl := rep_int rx
  obtain rfl := rep_int ry
  simp only [fdivM] at p
  split at p
  · rename_i hc
    exact ⟨i, j, rfl, rfl, hc, post_at hr p of_int⟩
  · exact False.elim p
theorem p_mod : P2 X (binaryOp .Mod) modM := by
  refine ⟨_, op_mod, fun W σ rr H hp x y v w Q hr rx ry p => ?_⟩
  cases x <;> cases y <;> try exact False.elim p
  rename_i i j
  obtain rfl := rep_int rx
  obtain rfl := rep_int ry
  simp only [modM] at p
  split at p
  · rename_i hc
    exact ⟨i, j, rfl, rfl, hc, post_at hr p of_int⟩
  · exact False.elim p
theorem p_pow : P2 X (binaryOp .Pow) powM := by
  refine ⟨_, op_pow, fun W σ rr H hp x y v w Q hr rx ry p => ?_⟩
  cases x <;> cases y <;> try exact False.elim p
  rename_i i j
  obtain rfl := rep_int rx
  obtain rfl := rep_int ry
  simp only [powM] at p
  split at p
  · rename_i hc
    exact ⟨i, j, rfl, rfl, hc, post_at hr p of_int⟩
  · exact False.elim p
end
end FT
end
section
set_option maxRecDepth 100000
namespace FT
open PySem L2
set_option autoImplicit false
/-! ### data of any depth -/
def optAll {a b : Type} (f : a → Option b) : List a → Option (List b)
  | [] => some []
  | x :: xs => match f x, optAll f xs with
    | some y, some ys => some (y :: ys)
    | _, _ => none
def pyOf (h : MH) : Nat → D → Option PyData
  | 0, _ => none
  | n + 1, d => match d with
    | .non => some .none
    | .bl b => some (.bool b)
    | .int i => some (.int i)
    | .str s => some (.str ⟨s.toArray⟩)
    | .tup ds => (optAll (pyOf h n) ds).map .tuple
    | .rol ds => (optAll (pyOf h n) ds).map .list
    | .obj m => match h[m]? with
      | some (.lst ds) => (optAll (pyOf h n) ds).map .list
      | _ => none
    | .fn _ => none
    | .ty _ => none
section
variable {K : PySem.W.Frag} {mg : Str → Option Value} {r : List Addr} {H : Hp} {hp : MH}
theorem optAll_cons {a b : Type} {f : a → Option b} {x : a} {xs : List a} {ps : List b} (e : optAll f (x :: xs) = some ps) : ∃ y ys, f x = some y ∧ optAll f xs = some ys ∧ ps = y :: ys := by
  unfold optAll at e
  split at e
  · rename_i y ys e1 e2
    cases e
    exact ⟨y, ys, e1, e2, rfl⟩
  · cases e
theorem pyOf_dp (hr : HR K mg r hp H) : ∀ (n : Nat) (d : D) (p : PyData) (v : V), pyOf hp n d = some p → Rep K mg r H d v → Dp K H v p
  | 0, _, _, _, e, _ => by cases e
  | n + 1, d, p, v, e, h => by
    have all : ∀ (ds : List D) (ps : List PyData) (vs : List V), optAll (pyOf hp n) ds = some ps → Reps K mg r H ds vs → DpAll K H vs ps := by
      intro ds
      induction ds with
      | nil =>
        intro ps vs e h
        cases e
        unfold Reps at h
        subst h
        exact .nil
      | cons d ds ih =>
        intro ps vs e h
        obtain ⟨y, ys, e1, e2, rfl⟩ := optAll_cons e
        unfold Reps at h
        obtain ⟨w, ws, rfl, h1, h2⟩ := h
        exact .cons (pyOf_dp hr n d y w e1 h1) (ih ys ws e2 h2)
    cases d with
    | non => cases e; rw [rep_non h]; exact .non
    | bl b => cases e; rw [rep_bl h]; exact .bl b
    | int i => cases e; rw [rep_int h]; exact .int i
    | str s => cases e; rw [rep_str h]; exact .str _
    | tup ds =>
      obtain ⟨a, vs, rfl, h1, h2⟩ := rep_tup h
      simp only [pyOf] at e
      cases q : optAll (pyOf hp n) ds with
      | none => rw [q] at e; cases e
      | some ps => rw [q] at e; cases e; exact .tup h1 (all ds ps vs q h2)
    | rol ds =>
      unfold Rep at h
      obtain ⟨a, vs, rfl, h1, h2⟩ := h
      simp only [pyOf] at e
      cases q : optAll (pyOf hp n) ds with
      | none => rw [q] at e; cases e
      | some ps => rw [q] at e; cases e; exact .lst h1.sq (all ds ps vs q h2)
    | obj m =>
      obtain ⟨a, rfl, h1⟩ := rep_obj h
      simp only [pyOf] at e
      split at e
      · rename_i ds e1
        obtain ⟨a', g1, vs, ea, hv⟩ := hr.obj m _ e1
        rw [h1] at g1; cases g1
        cases q : optAll (pyOf hp n) ds with
        | none => rw [q] at e; cases e
        | some ps => rw [q] at e; cases e; exact .lst (SqL.of ea) (all ds ps vs q hv)
      · cases e
    | fn _ => cases e
    | ty _ => cases e
end
def DEEP : Nat := 40
/-- both as data -/
def py2 (x y : D) (h : MH) (k : PyData → PyData → R D) : R D := match pyOf h DEEP x, pyOf h DEEP y with
  | some p, some q => if SeqAt.shaped p = true ∧ SeqAt.shaped q = true then k p q else .err
  | _, _ => .err
def eqM : D → D → MH → R D
  | .int i, .int j, h => .ok (.bl (decide (i = j))) h
  | .str s, .str t, h => .ok (.bl (decide (s = t))) h
  | .bl s, .bl t, h => .ok (.bl (decide (s = t))) h
  | x, y, h => py2 x y h fun p q => .ok (.bl (PyData.eqv p q)) h
def neM : D → D → MH → R D
  | .int i, .int j, h => .ok (.bl (!decide (i = j))) h
  | .str s, .str t, h => .ok (.bl (!decide (s = t))) h
  | .bl s, .bl t, h => .ok (.bl (!decide (s = t))) h
  | x, y, h => py2 x y h fun p q => .ok (.bl (!PyData.eqv p q)) h
def ltM : D → D → MH → R D
  | .int i, .int j, h => .ok (.bl (decide (i < j))) h
  | .str s, .str t, h => .ok (.bl (decide (s < t))) h
  | _, _, _ => .err
def leM : D → D → MH → R D
  | .int i, .int j, h => .ok (.bl (decide (i ≤ j))) h
  | _, _, _ => .err
def gtM : D → D → MH → R D
  | .int i, .int j, h => .ok (.bl (decide (j < i))) h
  | _, _, _ => .err
def geM : D → D → MH → R D
  | .int i, .int j, h => .ok (.bl (decide (j ≤ i))) h
  | _, _, _ => .err
/-- x is None, True, False (y written) -/
def D.eqK : D → D → Bool
  | .non, .non => true
  | .bl a, .bl b => a == b
  | _, _ => false
def D.isN : D → Bool
  | .non => true
  | _ => false
def isM : D → D → MH → R D
  | x, .non, h => .ok (.bl x.isN) h
  | .bl a, .bl b, h => .ok (.bl (decide (a = b))) h
  | _, _, _ => .err
def isNotM : D → D → MH → R D
  | x, .non, h => .ok (.bl (!x.isN)) h
  | .bl a, .bl b, h => .ok (.bl (!decide (a = b))) h
  | _, _, _ => .err
def itemsM (y : D) (h : MH) : Option (List D) := match y with
  | .tup ds => some ds
  | .rol ds => some ds
  | .obj m => match h[m]? with
    | some (.lst ds) => some ds
    | _ => none
  | _ => none
def inM : D → D → MH → R D
  | .str [c], .str s, h => .ok (.bl (decide (c ∈ s))) h
  | x, y, h => py2 x y h fun p q => match q with
    | .list ds => .ok (.bl (ds.any fun z => PyData.eqv z p)) h
    | .tuple ds => .ok (.bl (ds.any fun z => PyData.eqv z p)) h
    | _ => .err
def notInM : D → D → MH → R D
  | .str [c], .str s, h => .ok (.bl (!decide (c ∈ s))) h
  | x, y, h => py2 x y h fun p q => match q with
    | .list ds => .ok (.bl (!ds.any fun z => PyData.eqv z p)) h
    | .tuple ds => .ok (.bl (!ds.any fun z => PyData.eqv z p)) h
    | _ => .err
section
variable {X : Cx}
theorem str_inj (s t : List Nat) : decide ((V.str ⟨s.toArray⟩) = V.str ⟨t.toArray⟩) = decide (s = t) := by
  rw [decide_eq_decide]
  constructor
  · intro h
    injection h with h
    have := congrArg Str.cps h
    simpa using this
  · rintro rfl; rfl
theorem py2_run {W : WX} {σ : L2.St} {rr : List Addr} {H : Hp} {hp : MH} {x y : D} {v w : V} {Q : VK} {k : PyData → PyData → R D} (hr : HR X.K X.mg rr hp H) (rx : Rep X.K X.mg rr H x v) (ry : Rep X.K X.mg rr H y w)
    (p : Post X.K X.mg W rr H σ (LV X.K X.mg) Q (py2 x y hp k)) : ∃ d e, Dp X.K H v d ∧ Dp X.K H w e ∧ SeqAt.shaped d = true ∧ SeqAt.shaped e = true ∧ Post X.K X.mg W rr H σ (LV X.K X.mg) Q (k d e) := by
  unfold py2 at p
  split at p
  · rename_i d e e1 e2
    split at p
    · rename_i hc
      exact ⟨d, e, pyOf_dp hr _ _ _ _ e1 rx, pyOf_dp hr _ _ _ _ e2 ry, hc.1, hc.2, p⟩
    · exact False.elim p
  · exact False.elim p
theorem dec_int' (i j : Int) : decide (V.int i = V.int j) = decide (i = j) := by
  rw [decide_eq_decide]
  constructor
  · intro h; injection h
  · rintro rfl; rfl
theorem dec_bl' (i j : Bool) : decide (V.bl i = V.bl j) = decide (i = j) := by
  rw [decide_eq_decide]
  constructor
  · intro h; injection h
  · rintro rfl; rfl
theorem p_eq (hu : X.A.units + 64 < cLine) : P2 X (compareOp .Eq) eqM := by
  refine ⟨_, op_eq.or (op_eqD hu), fun W σ rr H hp x y v w Q hr rx ry p => ?_⟩
  have gen : Post X.K X.mg W rr H σ (LV X.K X.mg) Q (py2 x y hp fun p q => .ok (.bl (PyData.eqv p q)) hp) → rEq v w H Q ∨ rEqD X.K v w H Q := fun p => by
    obtain ⟨d, e, h1, h2, h3, h4, q⟩ := py2_run hr rx ry p
    exact .inr ⟨d, e, h1, h2, h3, h4, post_at hr q of_bl⟩
  cases x <;> cases y <;> first
    | exact gen p
    | (rename_i i j; obtain rfl := rep_int rx; obtain rfl := rep_int ry; exact .inl ⟨rfl, by rw [dec_int']; exact post_at hr p of_bl⟩)
    | (rename_i i j; obtain rfl := rep_str rx; obtain rfl := rep_str ry; exact .inl ⟨rfl, by rw [str_inj]; exact post_at hr p of_bl⟩)
    | (rename_i i j; obtain rfl := rep_bl rx; obtain rfl := rep_bl ry; exact .inl ⟨rfl, by rw [dec_bl']; exact post_at hr p of_bl⟩)
theorem p_ne (hu : X.A.units + 64 < cLine) : P2 X (compareOp .NotEq) neM := by
  refine ⟨_, op_ne.or (op_neD hu), fun W σ rr H hp x y v w Q hr rx ry p => ?_⟩
  have gen : Post X.K X.mg W rr H σ (LV X.K X.mg) Q (py2 x y hp fun p q => .ok (.bl (!PyData.eqv p q)) hp) → rNe v w H Q ∨ rNeD X.K v w H Q := fun p => by
    obtain ⟨d, e, h1, h2, h3, h4, q⟩ := py2_run hr rx ry p
    exact .inr ⟨d, e, h1, h2, h3, h4, post_at hr q of_bl⟩
  cases x <;> cases y <;> first
    | exact gen p
    | (rename_i i j; obtain rfl := rep_int rx; obtain rfl := rep_int ry; exact .inl ⟨rfl, by rw [dec_int']; exact post_at hr p of_bl⟩)
    | (rename_i i j; obtain rfl := rep_str rx; obtain rfl := rep_str ry; exact .inl ⟨rfl, by rw [str_inj]; exact post_at hr p of_bl⟩)
    | (rename_i i j; obtain rfl := rep_bl rx; obtain rfl := rep_bl ry; exact .inl ⟨rfl, by rw [dec_bl']; exact post_at hr p of_bl⟩)
theorem p_lt : P2 X (compareOp .Lt) ltM := by
  refine ⟨_, op_lt.or op_lt_str, fun W σ rr H hp x y v w Q hr rx ry p => ?_⟩
  cases x <;> cases y <;> try exact False.elim p
  · rename_i i j; obtain rfl := rep_int rx; obtain rfl := rep_int ry; exact .inl ⟨i, j, rfl, rfl, post_at hr p of_bl⟩
  · rename_i i j; obtain rfl := rep_str rx; obtain rfl := rep_str ry; exact .inr ⟨_, _, rfl, rfl, by simpa using post_at hr p of_bl⟩
theorem p_le : P2 X (compareOp .LtE) leM := by
  refine ⟨_, op_le, fun W σ rr H hp x y v w Q hr rx ry p => ?_⟩
  cases x <;> cases y <;> try exact False.elim p
  rename_i i j; obtain rfl := rep_int rx; obtain rfl := rep_int ry; exact ⟨i, j, rfl, rfl, post_at hr p of_bl⟩
theorem p_gt : P2 X (compareOp .Gt) gtM := by
  refine ⟨_, op_gt, fun W σ rr H hp x y v w Q hr rx ry p => ?_⟩
  cases x <;> cases y <;> try exact False.elim p
  rename_i i j; obtain rfl := rep_int rx; obtain rfl := rep_int ry; exact ⟨i, j, rfl, rfl, post_at hr p of_bl⟩
theorem p_ge : P2 X (compareOp .GtE) geM := by
  refine ⟨_, op_ge, fun W σ rr H hp x y v w Q hr rx ry p => ?_⟩
  cases x <;> cases y <;> try exact False.elim p
  rename_i i j; obtain rfl := rep_int rx; obtain rfl := rep_int ry; exact ⟨i, j, rfl, rfl, post_at hr p of_bl⟩
theorem isN_of {K : PySem.W.Frag} {mg : Str → Option Value} {r : List Addr} {H : Hp} {x : D} {v : V} (h : Rep K mg r H x v) : decide (v = .non) = x.isN := by
  cases x with
  | non => rw [rep_non h]; rfl
  | bl _ => rw [rep_bl h]; rfl
  | int _ => rw [rep_int h]; rfl
  | str _ => rw [rep_str h]; rfl
  | tup _ => obtain ⟨a, vs, rfl, _⟩ := rep_tup h; rfl
  | obj _ => obtain ⟨a, rfl, _⟩ := rep_obj h; rfl
  | fn _ => unfold Rep at h; obtain ⟨a, rfl, _⟩ := h; rfl
  | ty _ => unfold Rep at h; rw [h]; rfl
  | rol _ => unfold Rep at h; obtain ⟨a, _, rfl, _⟩ := h; rfl
theorem p_is : P2 X (compareOp .Is) isM := by
  refine ⟨_, op_isN.or op_isBl, fun W σ rr H hp x y v w Q hr rx ry p => ?_⟩
  cases y with
  | non =>
    obtain rfl := rep_non ry
    refine .inl ⟨rfl, ?_⟩
    rw [isN_of rx]
    cases x <;> exact post_at hr p of_bl
  | bl b =>
    cases x <;> try exact False.elim p
    rename_i a
    obtain rfl := rep_bl rx
    obtain rfl := rep_bl ry
    exact .inr ⟨a, b, rfl, rfl, post_at hr p of_bl⟩
  | _ => cases x <;> exact False.elim p
theorem p_isNot : P2 X (compareOp .IsNot) isNotM := by
  refine ⟨_, op_notN.or op_notBl, fun W σ rr H hp x y v w Q hr rx ry p => ?_⟩
  cases y with
  | non =>
    obtain rfl := rep_non ry
    refine .inl ⟨rfl, ?_⟩
    rw [isN_of rx]
    cases x <;> exact post_at hr p of_bl
  | bl b =>
    cases x <;> try exact False.elim p
    rename_i a
    obtain rfl := rep_bl rx
    obtain rfl := rep_bl ry
    exact .inr ⟨a, b, rfl, rfl, post_at hr p of_bl⟩
  | _ => cases x <;> exact False.elim p
/-! ### in -/
def rInDT (K : PySem.W.Frag) (neg : Bool) : R2 := fun x y H Q => ∃ d ds, Dp K H x d ∧ Dp K H y (.tuple ds) ∧ SeqAt.shaped d = true ∧ SeqAt.shaped (.tuple ds) = true ∧ Q (.bl (if neg then !ds.any fun z => PyData.eqv z d else ds.any fun z => PyData.eqv z d)) H
theorem op_inDT (hu : X.A.units + 65 < cLine) : OpR X (compareOp .In) (rInDT X.K false) := by
  intro pins s σ H x y v u Q I rx ry h
  obtain ⟨d, ds, hd, he, sd, se, q⟩ := h
  obtain ⟨as, r1⟩ := Dp.reads I d x v hd rx
  obtain ⟨bs, r2⟩ := Dp.reads I (.tuple ds) y u he ry
  exact SeqAt.in_tuple_reads r2 r1 (SeqAt.canLay_of_shaped se) (SeqAt.canLay_of_shaped sd) (PyProof.Rows.room_in_shaped sd hu) ⟨.bl _, H, I, rfl, q⟩
theorem op_notInDT (hu : X.A.units + 65 < cLine) : OpR X (compareOp .NotIn) (rInDT X.K true) := by
  intro pins s σ H x y v u Q I rx ry h
  obtain ⟨d, ds, hd, he, sd, se, q⟩ := h
  obtain ⟨as, r1⟩ := Dp.reads I d x v hd rx
  obtain ⟨bs, r2⟩ := Dp.reads I (.tuple ds) y u he ry
  exact SeqAt.notIn_tuple_reads r2 r1 (SeqAt.canLay_of_shaped se) (SeqAt.canLay_of_shaped sd) (PyProof.Rows.room_in_shaped sd hu) ⟨.bl _, H, I, rfl, q⟩
theorem p_in (hu : X.A.units + 65 < cLine) : P2 X (compareOp .In) inM := by
  refine ⟨_, op_in_sign.or ((op_inD hu).or (op_inDT hu)), fun W σ rr H hp x y v w Q hr rx ry p => ?_⟩
  unfold inM at p
  split at p
  · rename_i c s
    obtain rfl := rep_str rx
    obtain rfl := rep_str ry
    exact .inl ⟨c, _, rfl, rfl, by simpa using post_at hr p of_bl⟩
  · obtain ⟨d, e, h1, h2, h3, h4, q⟩ := py2_run hr rx ry p
    split at q
    · exact .inr (.inl ⟨d, _, h1, h2, h3, h4, post_at hr q of_bl⟩)
    · exact .inr (.inr ⟨d, _, h1, h2, h3, h4, post_at hr q of_bl⟩)
    · exact False.elim q
theorem p_notIn (hu : X.A.units + 65 < cLine) : P2 X (compareOp .NotIn) notInM := by
  refine ⟨_, op_notIn_sign.or ((op_notInD hu).or (op_notInDT hu)), fun W σ rr H hp x y v w Q hr rx ry p => ?_⟩
  unfold notInM at p
  split at p
  · rename_i c s
    obtain rfl := rep_str rx
    obtain rfl := rep_str ry
    exact .inl ⟨c, _, rfl, rfl, by simpa using post_at hr p of_bl⟩
  · obtain ⟨d, e, h1, h2, h3, h4, q⟩ := py2_run hr rx ry p
    split at q
    · exact .inr (.inl ⟨d, _, h1, h2, h3, h4, post_at hr q of_bl⟩)
    · exact .inr (.inr ⟨d, _, h1, h2, h3, h4, post_at hr q of_bl⟩)
    · exact False.elim q
end
end FT
end
section
set_option maxRecDepth 100000
namespace FT
open PySem L2
set_option autoImplicit false
/-! ### statements -/
inductive SR where
  | next (e : Ev) (h : MH) | ret (d : D) (h : MH) | brk (e : Ev) (h : MH) | cont (e : Ev) (h : MH) | exc (c : Str) (e : Ev) (h : MH) | err
abbrev S := Ev → MH → SR
def R.toS {a : Type} (r : R a) (env : Ev) (k : a → MH → SR) : SR := match r with
  | .ok x h => k x h
  | .exc c h => .exc c env h
  | .err => .err
section
variable (K : PySem.W.Frag) (mg : Str → Option Value)
def PostS (W : WX) (r : List Addr) (H : Hp) (Dn : Ends) : SR → Prop
  | .next e hp => ∀ r' H' σ', Ext K r H r' H' → HR K mg r' hp H' → ES K mg r' H' e σ' → Dn.nx σ' H'
  | .ret d hp => ∀ r' H' v, Ext K r H r' H' → HR K mg r' hp H' → Rep K mg r' H' d v → Dn.rt v H'
  | .brk e hp => ∀ r' H' σ', Ext K r H r' H' → HR K mg r' hp H' → ES K mg r' H' e σ' → Dn.bk σ' H'
  | .cont e hp => ∀ r' H' σ', Ext K r H r' H' → HR K mg r' hp H' → ES K mg r' H' e σ' → Dn.ct σ' H'
  | .exc c e hp => ∀ r' H' σ' C, Ext K r H r' H' → HR K mg r' hp H' → ES K mg r' H' e σ' → mg c = some (.ref C) → W (.ref C) none σ' H'
  | .err => False
def tS (W : WX) (f : S) : TS := fun Dn σ H => ∃ env hp r, ES K mg r H env σ ∧ HR K mg r hp H ∧ PostS K mg W r H Dn (f env hp)
end
section
variable {K : PySem.W.Frag} {mg : Str → Option Value} {r r1 : List Addr} {H H1 : Hp} {W : WX} {σ : L2.St} {Dn : Ends}
theorem PostS.weaken {x : SR} (e : Ext K r H r1 H1) (h : PostS K mg W r H Dn x) : PostS K mg W r1 H1 Dn x := by
  cases x with
  | next e1 hp => exact fun r' H' s' e' hr l => h r' H' s' (e.trans e') hr l
  | ret d hp => exact fun r' H' s' e' hr l => h r' H' s' (e.trans e') hr l
  | brk e1 hp => exact fun r' H' s' e' hr l => h r' H' s' (e.trans e') hr l
  | cont e1 hp => exact fun r' H' s' e' hr l => h r' H' s' (e.trans e') hr l
  | exc c e1 hp => exact fun r' H' s' C e' hr l m => h r' H' s' C (e.trans e') hr l m
  | err => exact h
theorem PostS.bind {a b : Type} {L : Rl a b} {x : R a} {k : a → MH → SR} {env : Ev} {Q' : b → Hp → Prop} (es : ES K mg r H env σ) (h : PostS K mg W r H Dn (x.toS env k))
    (hk : ∀ x hp1 r1 H1 y, Ext K r H r1 H1 → HR K mg r1 hp1 H1 → L r H r1 H1 x y → PostS K mg W r1 H1 Dn (k x hp1) → Q' y H1) : Post K mg W r H σ L Q' x := by
  cases x with
  | ok x hp => exact fun r' H' y e' hr l => hk x hp r' H' y e' hr l (PostS.weaken e' h)
  | exc c hp => exact fun r' H' C e' hr m => h r' H' σ C e' hr (es.mono e') m
  | err => exact h
end
abbrev MS (X : Cx) (W : WX) (st : Stmt) (f : S) : Prop := PS X st (tS X.K X.mg W f)
abbrev MSs (X : Cx) (W : WX) (sts : List Stmt) (f : S) : Prop := PSs X sts (tS X.K X.mg W f)
section
variable {X : Cx} {W : WX} {st : Stmt} {rest : List Stmt} {f g : S} {e : Expr} {fe : E D} {fb : E Bool} {pos : Pos}
def sSeq (f g : S) : S := fun env hp => match f env hp with
  | .next e h => g e h
  | x => x
def sNext : S := fun env hp => .next env hp
def sErr : S := fun _ _ => .err
theorem mss_nil : MSs X W [] sNext := PSsm pss_nil fun Dn σ H h => by
  obtain ⟨env, hp, r, es, hr, q⟩ := h
  exact q r H σ Ext.refl hr es
theorem mss_one (h : MS X W st f) : MSs X W [st] f := pss_one h
theorem mss_cons (h1 : MS X W st f) (h2 : MSs X W rest g) : MSs X W (st :: rest) (sSeq f g) := PSsm (pss_cons h1 h2) fun Dn σ H h => by
  obtain ⟨env, hp, r, es, hr, q⟩ := h
  refine ⟨env, hp, r, es, hr, ?_⟩
  unfold sSeq at q
  cases z : f env hp with
  | next e h =>
    rw [z] at q
    exact fun r' H' σ' e' hr' es' => ⟨e, h, r', es', hr', PostS.weaken e' q⟩
  | ret d h => rw [z] at q; exact q
  | brk e h => rw [z] at q; exact q
  | cont e h => rw [z] at q; exact q
  | exc c e h => rw [z] at q; exact q
  | err => rw [z] at q; exact q
theorem ms_never : MS X W st sErr := PSm ps_never fun Dn σ H h => by
  obtain ⟨env, hp, r, es, hr, q⟩ := h
  exact q
theorem ms_pass : MS X W (.Pass pos) sNext := PSm ps_pass fun Dn σ H h => by
  obtain ⟨env, hp, r, es, hr, q⟩ := h
  exact q r H σ Ext.refl hr es
def sRet (fe : E D) : S := fun env hp => (fe env hp).toS env fun d h => .ret d h
theorem ms_ret (he : ME X W e fe) : MS X W (.Return (some e) pos) (sRet fe) := PSm (ps_ret he) fun Dn σ H h => by
  obtain ⟨env, hp, r, es, hr, q⟩ := h
  exact ⟨env, hp, r, es, hr, PostS.bind es q fun x hp1 r1 H1 y e1 hr1 l q1 => q1 r1 H1 y Ext.refl hr1 l⟩
def sRetN : S := fun _ hp => .ret .non hp
theorem ms_retN : MS X W (.Return none pos) sRetN := PSm ps_retN fun Dn σ H h => by
  obtain ⟨env, hp, r, es, hr, q⟩ := h
  exact q r H .non Ext.refl hr of_non
def sExpr (fe : E D) : S := fun env hp => (fe env hp).toS env fun _ h => .next env h
theorem ms_expr (he : ME X W e fe) (hs : swapsWith e none pos.line X.env = pure false := by rfl) : MS X W (.Expr e pos) (sExpr fe) := PSm (ps_expr he hs) fun Dn σ H h => by
  obtain ⟨env, hp, r, es, hr, q⟩ := h
  exact ⟨env, hp, r, es, hr, PostS.bind es q fun x hp1 r1 H1 y e1 hr1 l q1 => q1 r1 H1 σ Ext.refl hr1 (es.mono e1)⟩
def sIf (c : E Bool) (f g : S) : S := fun env hp => (c env hp).toS env fun b h => if b = true then f env h else g env h
theorem ms_if {c : Expr} {a b : List Stmt} (hc : MT X W c fb) (ha : MSs X W a f) (hb : MSs X W b g) : MS X W (.If c a b pos) (sIf fb f g) := PSm (ps_if hc ha hb) fun Dn σ H h => by
  obtain ⟨env, hp, r, es, hr, q⟩ := h
  refine ⟨env, hp, r, es, hr, PostS.bind es q fun x hp1 r1 H1 y e1 hr1 l q1 => ?_⟩
  subst l
  cases x with
  | true => exact ⟨env, hp1, r1, es.mono e1, hr1, q1⟩
  | false => exact ⟨env, hp1, r1, es.mono e1, hr1, q1⟩
/-! ### names are stored -/
theorem ES.set {K : PySem.W.Frag} {mg : Str → Option Value} {r : List Addr} {H : Hp} {env : Ev} {σ : L2.St} (es : ES K mg r H env σ) (i : Nat) {d : D} {v : V} (h : Rep K mg r H d v) : ES K mg r H (env.set i (some d)) (σ.set i (some v)) := by
  refine ⟨by simpa using es.len, fun j d' e => ?_⟩
  by_cases hj : j = i
  · subst hj
    by_cases hl : j < env.length
    · rw [List.getElem?_set_self hl] at e
      cases e
      exact ⟨v, by rw [List.getElem?_set_self (by rw [es.len]; exact hl)], h⟩
    · rw [List.getElem?_eq_none (by simpa using hl)] at e; cases e
  · rw [List.getElem?_set_ne (Ne.symm hj)] at e
    obtain ⟨w, e1, e2⟩ := es.val j d' e
    exact ⟨w, by rw [List.getElem?_set_ne (Ne.symm hj)]; exact e1, e2⟩
def sSet (i : Nat) (fe : E D) : S := fun env hp => (fe env hp).toS env fun d h => .next (env.set i (some d)) h
theorem set_run {i : Nat} {t : TE} {Dn : Ends} {σ : L2.St} {H : Hp} (k : ∀ Q, tR X.K X.mg W (LV X.K X.mg) fe σ H Q → t σ H Q) (h : tS X.K X.mg W (sSet i fe) Dn σ H) : tAsg t (gName i) Dn σ H := by
  obtain ⟨env, hp, r, es, hr, q⟩ := h
  exact k _ ⟨env, hp, r, es, hr, PostS.bind es q fun x hp1 r1 H1 y e1 hr1 l q1 => q1 r1 H1 _ Ext.refl hr1 ((es.mono e1).set i l)⟩
theorem ms_set {i : Nat} {x : Str} {pos' : Pos} (hN : X.N.Nodup) (hi : X.N[i]? = some x) (hx : Loc X.env.scope x) (he : ME X W e fe) (hs : swapsWith e (some (.Name x pos')) pos.line X.env = pure false := by rfl) (hf : X.fn x = true ∨ X.env.scope.names.lookup x = some .local := by first | exact .inl rfl | exact .inr rfl | assumption) :
    MS X W (.Assign [.Name x pos'] e pos) (sSet i fe) := PSm (ps_set hN hi hx he hs hf) fun Dn σ H h => set_run (fun Q q => q) h
end
/-! ### arguments, calls -/
section
variable {X : Cx} {W : WX} {e : Expr} {es : List Expr} {f : E D} {g : E (List D)} {pos p : Pos}
def aNil : E (List D) := fun _ hp => .ok [] hp
def aCons (f : E D) (g : E (List D)) : E (List D) := fun env hp => (f env hp).bind fun x h1 => (g env h1).bind fun xs h2 => .ok (x :: xs) h2
theorem ma_nil : MA X W [] aNil := PAm pa_nil fun σ H Q h => by
  obtain ⟨env, hp, r, es, hr, q⟩ := h
  exact q r H [] Ext.refl hr reps_nil
theorem ma_cons (ha : ME X W e f) (hr : MA X W es g) (hs : starEach (e :: es) X.env = (false, eval e X.env) :: starEach es X.env := by rfl) : MA X W (e :: es) (aCons f g) := PAm (pa_cons ha hr hs) fun σ H Q h => by
  obtain ⟨env, hp, rr, es, hh, q⟩ := h
  refine ⟨env, hp, rr, es, hh, Post.bind q fun x hp1 r1 H1 v e1 hr1 rv q1 => ?_⟩
  refine ⟨env, hp1, r1, es.mono e1, hr1, Post.bind q1 fun y hp2 r2 H2 w e2 hr2 rw q2 => ?_⟩
  exact q2 r2 H2 _ Ext.refl hr2 (reps_cons (Rep.mono e2 x rv) rw)
/-- what a def of the program promises by its mirror -/
def spM (K : PySem.W.Frag) (mg : Str → Option Value) (n : Nat) (m : List D → MH → R D) : Sp := fun vs H Q Ex => vs.length = n ∧ ∃ ds hp r, Reps K mg r H ds vs ∧ HR K mg r hp H ∧ Post K mg (fun c d _ H => Ex c d H) r H [] (LV K mg) Q (m ds hp)
structure Cal (P : Program) (w : World) (K : PySem.W.Frag) (mg : Str → Option Value) (base : Heap) (k : Nat) (x : Str) (n : Nat) (m : List D → MH → R D) : Prop where
  len : ∀ ds hp, ds.length ≠ n → m ds hp = .err
  ex : ∃ f fd ps, FnOk P w K mg base (L2.CX P w) k f fd ps (spM K mg n m) ∧ mg x = some (.ref f) ∧ PySem.W.keepIn K (.ref f) = true ∧ Binds K fd ps []
def vCall (m : List D → MH → R D) (g : E (List D)) : E D := fun env hp => (g env hp).bind fun ds h => m ds h
theorem post_sp {K : PySem.W.Frag} {mg : Str → Option Value} {r : List Addr} {H : Hp} {σ : L2.St} {Q : VK} {x : R D} (h : Post K mg W r H σ (LV K mg) Q x) : Post K mg (fun c d _ H => WE W σ c d H) r H [] (LV K mg) Q x := by
  cases x with
  | ok x hp => exact h
  | exc c hp => exact fun r' H' C e' hr m => h r' H' C e' hr m
  | err => exact h
theorem me_call {k n : Nat} {x : Str} {m : List D → MH → R D} (C : Cal X.prog X.w X.K X.mg X.base k x n m) (hr : Room k X.A) (hg : Gl X x) (tk : Takes X W) (ha : MA X W (e :: es) g)
    (hd : (x == ("__debug__" : Str)) = false := by decide)
    (he : starEach (e :: es) X.env = (false, eval e X.env) :: starEach es X.env := by rfl) (hpl : (backTo pos (starEach es X.env)).any (·.1) = false := by rfl) : ME X W (.Call (.Name x p) (e :: es) [] pos) (vCall m g) := by
  obtain ⟨f, fd, ps, F, hm, hk, hb⟩ := C.ex
  refine PEm (pe_callS F hr hg hm hk hb (fun σ => passAt tk σ) ha hd he hpl) fun σ H Q h => ?_
  obtain ⟨env, hp, rr, es, hh, q⟩ := h
  refine ⟨env, hp, rr, es, hh, ?_⟩
  have q0 := q
  unfold vCall at q
  cases z : g env hp with
  | ok ds h' =>
    rw [z] at q
    by_cases hl : ds.length = n
    · exact fun r1 H1 vs e1 hr1 rv => ⟨by rw [reps_len rv]; exact hl, ds, h', r1, rv, hr1, post_sp (Post.weaken e1 q)⟩
    · have q1 : Post X.K X.mg W rr H σ (LV X.K X.mg) Q (m ds h') := q
      rw [C.len ds h' hl] at q1
      exact False.elim q1
  | exc c h' => rw [z] at q; exact q
  | err => rw [z] at q; exact q
end
/-! ### defs -/
def fnM (n m : Nat) (b : S) : List D → MH → R D := fun ds hp => if ds.length = n then (match b (ds.map some ++ List.replicate (m - n) none) hp with
  | .ret d h => .ok d h
  | .next _ h => .ok .non h
  | .exc c _ h => .exc c h
  | _ => .err) else .err
section
variable {P : Program} {w : World} {K : PySem.W.Frag} {mg : Str → Option Value} {base : Heap}
theorem es_start {r : List Addr} {H : Hp} {N : List Str} : ∀ {ds : List D} {vs : List V}, Reps K mg r H ds vs → ES K mg r H (ds.map some ++ List.replicate (N.length - ds.length) none) (L2.start N vs) := fun {ds vs} h => by
  have hl := reps_len h
  refine ⟨by unfold L2.start; simp [hl], fun i d e => ?_⟩
  by_cases hi : i < ds.length
  · rw [List.getElem?_append_left (by simpa using hi), List.getElem?_map] at e
    cases z : ds[i]? with
    | none => rw [z] at e; cases e
    | some d' =>
      rw [z] at e
      cases e
      obtain ⟨v, e1, e2⟩ := reps_get h z
      refine ⟨v, ?_, e2⟩
      unfold L2.start
      rw [List.getElem?_append_left (by simpa [hl] using hi), List.getElem?_map, e1]
      rfl
  · rw [List.getElem?_append_right (by simpa using hi), List.getElem?_replicate] at e
    split at e
    · cases e
    · cases e
theorem fn_ok {x qual : Str} {st : Stmt} {f : Addr} {fd : FuncData} {N ps : List Str} {k n m : Nat} {b : S} (F : Fun K x qual st f fd) (S : FnScope N ps (defScope st)) (hn : ps.length = n) (hm : N.length = m)
    (hb : ∀ (cdv : Value) (A : Around) (outer : List Env) (s : Shared) (H : Hp) (Ex : XK), Room k (A.deeper (PyProof.Rows.envOfC qual (defScope st) s.heap.objs.size f cdv)) →
      MSs (cxOf (L2.CX P w) P w K mg base N qual (defScope st) f cdv A outer s H Ex) (fun c d _ H => Ex c d H) (defBody st) b) :
    FnOk P w K mg base (L2.CX P w) (k + 1) f fd ps (spM K mg n (fnM n m b)) := by
  subst hn hm
  refine F.okX S (fun vs H Q E h => h.1) (fun cdv A outer s H vs Q E hr h => ⟨_, hb cdv A outer s H E hr, ?_⟩)
  obtain ⟨hl, ds, hp, r, h1, h2, h3⟩ := h
  have hd : ds.length = ps.length := by rw [← reps_len h1]; exact hl
  have es := es_start (N := N) h1
  rw [hd] at es
  refine ⟨_, hp, r, es, h2, ?_⟩
  unfold fnM at h3
  rw [if_pos hd] at h3
  cases z : b (ds.map some ++ List.replicate (N.length - ps.length) none) hp with
  | next e h => rw [z] at h3; exact fun r' H' σ' e' hr' _ => h3 r' H' .non e' hr' of_non
  | ret d h => rw [z] at h3; exact h3
  | brk e h => rw [z] at h3; exact False.elim h3
  | cont e h => rw [z] at h3; exact False.elim h3
  | exc c e h => rw [z] at h3; exact fun r' H' σ' C e' hr' _ m => h3 r' H' C e' hr' m
  | err => rw [z] at h3; exact False.elim h3
end
end FT
end
section
set_option maxRecDepth 100000
namespace FT
open PySem L2
set_option autoImplicit false
section
variable {X : Cx} {W : WX} {e : Expr} {es : List Expr} {f : E D} {g fl gl : E (List D)} {pos p : Pos}
/-! ### displays -/
def vTup (g : E (List D)) : E D := fun env hp => (g env hp).bind fun ds h => if ds.length ≤ LIM then .ok (.tup ds) h else .err
theorem me_tup {x1} (h : MA X W es g) : ME X W (.Tuple es x1 pos) (vTup g) := PEm (pe_tup h) fun σ H Q h => by
  obtain ⟨env, hp, rr, es, hh, q⟩ := h
  refine ⟨env, hp, rr, es, hh, Post.bind q fun ds hp1 r1 H1 vs e1 hr1 rv q1 => ?_⟩
  split at q1
  · rename_i hl
    exact ⟨by rw [reps_len rv]; exact hl, fun a ha => post_tup hr1 q1 rv ha⟩
  · exact False.elim q1
def lLst (g : E (List D)) : E (List D) := fun env hp => (g env hp).bind fun ds h => if ds.length ≤ LIM then .ok ds h else .err
/-- a new list -/
theorem post_new {K : PySem.W.Frag} {mg : Str → Option Value} {r : List Addr} {H : Hp} {hp : MH} {σ : L2.St} {Q : VK} {ds : List D} {vs : List V} {q : Addr} (hr : HR K mg r hp H) (p : Post K mg W r H σ (LL K mg) Q (.ok ds hp)) (h : Reps K mg r H ds vs) (hn : H q = none) : Q (.ref q) (upd H q (.lst vs)) :=
  p r _ (.ref q) (ext_new hn) (hr_new hr hn) ⟨q, vs, rfl, hr_nin hr hn, hn, upd_same, Reps.mono (ext_new hn) ds h⟩
theorem ml_lst (h : MA X W es g) : ML X W (.List es pos) (lLst g) := PEm (pe_lst h) fun σ H Q h => by
  obtain ⟨env, hp, rr, es, hh, q⟩ := h
  refine ⟨env, hp, rr, es, hh, Post.bind q fun ds hp1 r1 H1 vs e1 hr1 rv q1 => ?_⟩
  split at q1
  · rename_i hl
    exact ⟨by rw [reps_len rv]; exact hl, fun a ha => post_new hr1 q1 rv ha⟩
  · exact False.elim q1
/-- a new list that is kept -/
def vAlloc (g : E (List D)) : E D := fun env hp => (g env hp).bind fun ds h => .ok (.obj h.length) (h ++ [.lst ds])
theorem alloc_run {σ : L2.St} {H : Hp} {Q : VK} (h : tR X.K X.mg W (LV X.K X.mg) (vAlloc fl) σ H Q) : tR X.K X.mg W (LL X.K X.mg) fl σ H Q := by
  obtain ⟨env, hp, rr, es, hh, q⟩ := h
  refine ⟨env, hp, rr, es, hh, ?_⟩
  unfold vAlloc at q
  cases z : fl env hp with
  | ok ds h' =>
    rw [z] at q
    intro r' H' y e1 hr1 l
    obtain ⟨a, vs, rfl, na, n0, ea, hv⟩ := l
    exact q (r' ++ [a]) H' (.ref a) (ext_take e1 na n0) (hr_take hr1 na ea hv) (of_obj (by rw [← hr1.len]; simp))
  | exc c h' => rw [z] at q; exact q
  | err => rw [z] at q; exact q
theorem me_alloc (h : ML X W e fl) : ME X W e (vAlloc fl) := PEm h fun σ H Q q => alloc_run q
/-! ### a new list as an argument -/
def vL (p : List D → MH → R D) (f : E (List D)) : E D := fun env hp => (f env hp).bind fun ds h => p ds h
/-- what a call asks of one list that nobody else knows -/
structure P1L (X : Cx) (r : List V → Hp → VK → Prop) (p : List D → MH → R D) : Prop where
  ok : ∀ (W : WX) (σ : L2.St) (rr : List Addr) (H : Hp) (hp : MH) (ds : List D) (a : Addr) (vs : List V) (Q : VK), HR X.K X.mg rr hp H → H a = some (.lst vs) → Reps X.K X.mg rr H ds vs → Post X.K X.mg W rr H σ (LV X.K X.mg) Q (p ds hp) → r [.ref a] H Q
theorem l1_run {r : List V → Hp → VK → Prop} {p : List D → MH → R D} (P : P1L X r p) {σ : L2.St} {H : Hp} {Q : VK} (h : tR X.K X.mg W (LV X.K X.mg) (vL p fl) σ H Q) : tCB r (tCons (tR X.K X.mg W (LL X.K X.mg) fl) tNil) σ H Q := by
  obtain ⟨env, hp, rr, es, hh, q⟩ := h
  refine ⟨env, hp, rr, es, hh, Post.bind q fun ds hp1 r1 H1 y e1 hr1 l q1 => ?_⟩
  obtain ⟨a, vs, rfl, na, n0, ea, hv⟩ := l
  exact P.ok W σ r1 H1 hp1 ds a vs Q hr1 ea hv q1
theorem me_callL {id : String} {x : Str} {r : List V → Hp → VK → Prop} {q : List D → MH → R D} (hc : CallR X (.builtin id) r) (P : P1L X r q) (hg : Gl X x) (hm : X.mg x = none) (hv : bootBuiltins x = some (.builtin id)) (ha : ML X W e fl)
    (hn : x ≠ "__name__" := by decide) (hdb : (x == ("__debug__" : Str)) = false := by decide) (he : starEach [e] X.env = (false, eval e X.env) :: starEach [] X.env := by rfl) (hpl : (backTo pos (starEach [] X.env)).any (·.1) = false := by rfl) :
    ME X W (.Call (.Name x p) [e] [] pos) (vL q fl) := PEm (pe_callB hc hg hm hv (pa_cons ha pa_nil he) hn hdb he hpl) fun σ H Q h => l1_run P h
theorem me_callTyL {T : String} {x : Str} {r : List V → Hp → VK → Prop} {q : List D → MH → R D} (hc : CallR X (.type T) r) (P : P1L X r q) (hg : Gl X x) (hm : X.mg x = none) (hv : bootBuiltins x = some (.type T)) (ha : ML X W e fl)
    (hn : x ≠ "__name__" := by decide) (hdb : (x == ("__debug__" : Str)) = false := by decide) (he : starEach [e] X.env = (false, eval e X.env) :: starEach [] X.env := by rfl) (hpl : (backTo pos (starEach [] X.env)).any (·.1) = false := by rfl) :
    ME X W (.Call (.Name x p) [e] [] pos) (vL q fl) := PEm (pe_callTy hc hg hm hv (pa_cons ha pa_nil he) hn hdb he hpl) fun σ H Q h => l1_run P h
def blsOf : List D → Option (List Bool)
  | [] => some []
  | .bl b :: r => (blsOf r).map (b :: ·)
  | _ => none
def intsOf : List D → Option (List Int)
  | [] => some []
  | .int b :: r => (intsOf r).map (b :: ·)
  | _ => none
def strsOf : List D → Option (List (List Nat))
  | [] => some []
  | .str b :: r => (strsOf r).map (b :: ·)
  | _ => none
theorem blsOf_eq : ∀ {ds : List D} {bs : List Bool}, blsOf ds = some bs → ds = bs.map .bl
  | [], _, h => by cases h; rfl
  | d :: ds, bs, h => by
    cases d <;> first
      | (simp only [blsOf] at h
         cases q : blsOf ds with
         | none => rw [q] at h; cases h
         | some r => rw [q] at h; cases h; rw [blsOf_eq q]; rfl)
      | cases h
theorem intsOf_eq : ∀ {ds : List D} {bs : List Int}, intsOf ds = some bs → ds = bs.map .int
  | [], _, h => by cases h; rfl
  | d :: ds, bs, h => by
    cases d <;> first
      | (simp only [intsOf] at h
         cases q : intsOf ds with
         | none => rw [q] at h; cases h
         | some r => rw [q] at h; cases h; rw [intsOf_eq q]; rfl)
      | cases h
theorem strsOf_eq : ∀ {ds : List D} {bs : List (List Nat)}, strsOf ds = some bs → ds = bs.map .str
  | [], _, h => by cases h; rfl
  | d :: ds, bs, h => by
    cases d <;> first
      | (simp only [strsOf] at h
         cases q : strsOf ds with
         | none => rw [q] at h; cases h
         | some r => rw [q] at h; cases h; rw [strsOf_eq q]; rfl)
      | cases h
def allP (ds : List D) (h : MH) : R D := match blsOf ds with
  | some bs => .ok (.bl (bs.all id)) h
  | none => .err
def anyP (ds : List D) (h : MH) : R D := match blsOf ds with
  | some bs => .ok (.bl (bs.any id)) h
  | none => .err
def sumP (ds : List D) (h : MH) : R D := match intsOf ds with
  | some bs => .ok (.int bs.sum) h
  | none => .err
def minI : List Int → Int → Int
  | [], m => m
  | x :: r, m => minI r (if x < m then x else m)
def maxI : List Int → Int → Int
  | [], m => m
  | x :: r, m => maxI r (if m < x then x else m)
def minP (ds : List D) (h : MH) : R D := match intsOf ds with
  | some (x :: r) => .ok (.int (minI r x)) h
  | _ => .err
def maxP (ds : List D) (h : MH) : R D := match intsOf ds with
  | some (x :: r) => .ok (.int (maxI r x)) h
  | _ => .err
def tupP (ds : List D) (h : MH) : R D := .ok (.tup ds) h
def lenP (ds : List D) (h : MH) : R D := .ok (.int ds.length) h
theorem minI_mem : ∀ (r : List Int) (m : Int), minI r m ∈ m :: r
  | [], m => by simp [minI]
  | x :: r, m => by
    unfold minI
    have := minI_mem r (if x < m then x else m)
    rcases List.mem_cons.mp this with e | e
    · rw [e]; split <;> simp
    · exact List.mem_cons_of_mem _ (List.mem_cons_of_mem _ e)
theorem minI_le : ∀ (r : List Int) (m : Int), ∀ y ∈ m :: r, minI r m ≤ y
  | [], m => by simp [minI]
  | x :: r, m => by
    intro y hy
    unfold minI
    have ih := minI_le r (if x < m then x else m)
    have h0 := ih _ List.mem_cons_self
    have hm : (if x < m then x else m) ≤ m ∧ (if x < m then x else m) ≤ x := by split <;> omega
    rcases List.mem_cons.mp hy with e | e
    · rw [e]; exact Int.le_trans h0 hm.1
    · rcases List.mem_cons.mp e with e | e
      · rw [e]; exact Int.le_trans h0 hm.2
      · exact ih y (List.mem_cons_of_mem _ e)
theorem maxI_mem : ∀ (r : List Int) (m : Int), maxI r m ∈ m :: r
  | [], m => by simp [maxI]
  | x :: r, m => by
    unfold maxI
    have := maxI_mem r (if m < x then x else m)
    rcases List.mem_cons.mp this with e | e
    · rw [e]; split <;> simp
    · exact List.mem_cons_of_mem _ (List.mem_cons_of_mem _ e)
theorem maxI_ge : ∀ (r : List Int) (m : Int), ∀ y ∈ m :: r, y ≤ maxI r m
  | [], m => by simp [maxI]
  | x :: r, m => by
    intro y hy
    unfold maxI
    have ih := maxI_ge r (if m < x then x else m)
    have h0 := ih _ List.mem_cons_self
    have hm : m ≤ (if m < x then x else m) ∧ x ≤ (if m < x then x else m) := by split <;> omega
    rcases List.mem_cons.mp hy with e | e
    · rw [e]; exact Int.le_trans hm.1 h0
    · rcases List.mem_cons.mp e with e | e
      · rw [e]; exact Int.le_trans hm.2 h0
      · exact ih y (List.mem_cons_of_mem _ e)
theorem l_all : P1L X (rAll X.K) allP := ⟨fun W σ rr H hp ds a vs Q hr ea hv p => by
  unfold allP at p
  split at p
  · rename_i bs e
    obtain rfl := blsOf_eq e
    obtain rfl := reps_bls hv
    exact ⟨a, bs, rfl, SqL.of ea, post_at hr p of_bl⟩
  · exact False.elim p⟩
theorem l_any : P1L X (rAny X.K) anyP := ⟨fun W σ rr H hp ds a vs Q hr ea hv p => by
  unfold anyP at p
  split at p
  · rename_i bs e
    obtain rfl := blsOf_eq e
    obtain rfl := reps_bls hv
    exact ⟨a, bs, rfl, SqL.of ea, post_at hr p of_bl⟩
  · exact False.elim p⟩
theorem l_sum : P1L X (rSum X.K) sumP := ⟨fun W σ rr H hp ds a vs Q hr ea hv p => by
  unfold sumP at p
  split at p
  · rename_i bs e
    obtain rfl := intsOf_eq e
    obtain rfl := reps_ints hv
    exact ⟨a, bs, rfl, SqL.of ea, post_at hr p of_int⟩
  · exact False.elim p⟩
theorem l_min : P1L X (rMin X.K) minP := ⟨fun W σ rr H hp ds a vs Q hr ea hv p => by
  unfold minP at p
  split at p
  · rename_i x r e
    obtain rfl := intsOf_eq e
    obtain rfl := reps_ints hv
    refine ⟨a, x :: r, rfl, SqL.of ea, by simp, fun m hm hl => ?_⟩
    have e : minI r x = m := Int.le_antisymm (minI_le r x m hm) (hl _ (minI_mem r x))
    rw [← e]
    exact post_at hr p of_int
  · exact False.elim p⟩
theorem l_max : P1L X (rMax X.K) maxP := ⟨fun W σ rr H hp ds a vs Q hr ea hv p => by
  unfold maxP at p
  split at p
  · rename_i x r e
    obtain rfl := intsOf_eq e
    obtain rfl := reps_ints hv
    refine ⟨a, x :: r, rfl, SqL.of ea, by simp, fun m hm hl => ?_⟩
    have e : maxI r x = m := Int.le_antisymm (hl _ (maxI_mem r x)) (maxI_ge r x m hm)
    rw [← e]
    exact post_at hr p of_int
  · exact False.elim p⟩
theorem l_tup : P1L X (fun xs H Q => ∃ p ys, xs = [.ref p] ∧ ((SqL X.K H p ys ∧ ∀ l, H l = none → Q (.ref l) (upd H l (.tup ys))) ∨ (SqT X.K H p ys ∧ Q (.ref p) H))) tupP := ⟨fun W σ rr H hp ds a vs Q hr ea hv p =>
  ⟨a, vs, rfl, .inl ⟨SqL.of ea, fun l hl => post_tup hr p hv hl⟩⟩⟩
theorem l_len : P1L X (fun xs H Q => ∃ p ys, xs = [.ref p] ∧ (SqL X.K H p ys ∨ SqT X.K H p ys) ∧ Q (.int ys.length) H) lenP := ⟨fun W σ rr H hp ds a vs Q hr ea hv p =>
  ⟨a, vs, rfl, .inl (SqL.of ea), by rw [reps_len hv]; exact post_at hr p of_int⟩⟩
end
end FT
end
section
set_option maxRecDepth 100000
namespace FT
open PySem L2
set_option autoImplicit false
section
variable {X : Cx} {W : WX} {e a b : Expr} {es : List Expr} {f k : E D} {g fl gl : E (List D)} {pos p : Pos}
/-! ### built-ins on values -/
structure PV (X : Cx) (r : List V → Hp → VK → Prop) (p : List D → MH → R D) : Prop where
  ok : ∀ (W : WX) (σ : L2.St) (rr : List Addr) (H : Hp) (hp : MH) (ds : List D) (vs : List V) (Q : VK), HR X.K X.mg rr hp H → Reps X.K X.mg rr H ds vs → Post X.K X.mg W rr H σ (LV X.K X.mg) Q (p ds hp) → r vs H Q
theorem v_run {r : List V → Hp → VK → Prop} {p : List D → MH → R D} (P : PV X r p) {σ : L2.St} {H : Hp} {Q : VK} (h : tR X.K X.mg W (LV X.K X.mg) (vCall p g) σ H Q) : tCB r (tR X.K X.mg W (LA X.K X.mg) g) σ H Q := by
  obtain ⟨env, hp, rr, es, hh, q⟩ := h
  exact ⟨env, hp, rr, es, hh, Post.bind q fun ds hp1 r1 H1 y e1 hr1 l q1 => P.ok W σ r1 H1 hp1 ds y Q hr1 l q1⟩
theorem me_callB {id : String} {x : Str} {r : List V → Hp → VK → Prop} {q : List D → MH → R D} (hc : CallR X (.builtin id) r) (P : PV X r q) (hg : Gl X x) (hm : X.mg x = none) (hv : bootBuiltins x = some (.builtin id)) (ha : MA X W (e :: es) g)
    (hn : x ≠ "__name__" := by decide) (hdb : (x == ("__debug__" : Str)) = false := by decide) (he : starEach (e :: es) X.env = (false, eval e X.env) :: starEach es X.env := by rfl) (hpl : (backTo pos (starEach es X.env)).any (·.1) = false := by rfl) :
    ME X W (.Call (.Name x p) (e :: es) [] pos) (vCall q g) := PEm (pe_callB hc hg hm hv ha hn hdb he hpl) fun σ H Q h => v_run P h
theorem me_callTy {T : String} {x : Str} {r : List V → Hp → VK → Prop} {q : List D → MH → R D} (hc : CallR X (.type T) r) (P : PV X r q) (hg : Gl X x) (hm : X.mg x = none) (hv : bootBuiltins x = some (.type T)) (ha : MA X W (e :: es) g)
    (hn : x ≠ "__name__" := by decide) (hdb : (x == ("__debug__" : Str)) = false := by decide) (he : starEach (e :: es) X.env = (false, eval e X.env) :: starEach es X.env := by rfl) (hpl : (backTo pos (starEach es X.env)).any (·.1) = false := by rfl) :
    ME X W (.Call (.Name x p) (e :: es) [] pos) (vCall q g) := PEm (pe_callTy hc hg hm hv ha hn hdb he hpl) fun σ H Q h => v_run P h
theorem reps1 {K : PySem.W.Frag} {mg : Str → Option Value} {r : List Addr} {H : Hp} {d : D} {vs : List V} (h : Reps K mg r H [d] vs) : ∃ v, vs = [v] ∧ Rep K mg r H d v := by
  unfold Reps at h
  obtain ⟨v, us, rfl, h1, h2⟩ := h
  unfold Reps at h2
  subst h2
  exact ⟨v, rfl, h1⟩
theorem reps2 {K : PySem.W.Frag} {mg : Str → Option Value} {r : List Addr} {H : Hp} {d d' : D} {vs : List V} (h : Reps K mg r H [d, d'] vs) : ∃ v w, vs = [v, w] ∧ Rep K mg r H d v ∧ Rep K mg r H d' w := by
  unfold Reps at h
  obtain ⟨v, us, rfl, h1, h2⟩ := h
  obtain ⟨w, rfl, h3⟩ := reps1 h2
  exact ⟨v, w, rfl, h1, h3⟩
/-- a built-in class as a value -/
theorem me_ty (n : Nat) {x : Str} {pos : Pos} (hg : Gl X x) (hm : X.mg x = none) (hv : bootBuiltins x = some (.type (tyName n))) (hn : x ≠ "__name__" := by decide) (hd : (x == ("__debug__" : Str)) = false := by decide) : ME X W (.Name x pos) (vC (.ty n)) :=
  PEm (pe_bltn (v := .ty (tyName n)) hg hm hv rfl hn hd) (tC_of (d := .ty n) fun _ _ => by unfold Rep; rfl)
/-- a text that the module holds -/
theorem me_gstr {x : Str} {s : List Nat} {z : Str} {t : Tok} {pos : Pos} (hg : Gl X x) (hm : X.mg x = some (.str z t)) (hz : z.cps.toList = s := by decide +kernel) (hd : (x == ("__debug__" : Str)) = false := by decide) : ME X W (.Name x pos) (vC (.str s)) :=
  PEm (pe_glob (v := .str z) hg hm ⟨t, rfl⟩ hd) (tC_of (d := .str s) fun _ _ => by unfold Rep; subst hz; cases z; simp)
theorem me_gint {x : Str} {s : Int} {t : Tok} {pos : Pos} (hg : Gl X x) (hm : X.mg x = some (.int s t)) (hd : (x == ("__debug__" : Str)) = false := by decide) : ME X W (.Name x pos) (vC (.int s)) :=
  PEm (pe_glob (v := .int s) hg hm ⟨t, rfl⟩ hd) (tC_of (d := .int s) fun _ _ => by unfold Rep; rfl)
/-! ### isinstance -/
def tyOf (d : D) (h : MH) : Option Nat := match d with
  | .non => some 6
  | .bl _ => some 1
  | .int _ => some 0
  | .str _ => some 2
  | .tup _ => some 3
  | .rol _ => some 4
  | .obj n => match h[n]? with
    | some (.lst _) => some 4
    | _ => none
  | _ => none
/-- is the one a subclass of the other -/
def subTy (t c : Nat) : Bool := t == c || (t == 1 && c == 0)
def isiP (ds : List D) (h : MH) : R D := match ds with
  | [x, .ty c] => match tyOf x h with
    | some t => if t < 7 ∧ c < 6 then .ok (.bl (subTy t c)) h else .err
    | none => .err
  | _ => .err
theorem sub_ok : ∀ t, t < 7 → ∀ c, c < 6 → kitB (tyName t) (tyName c) = some (subTy t c) := by decide +kernel
theorem tyx_of {rr : List Addr} {H : Hp} {hp : MH} {x : D} {v : V} {t : Nat} (hr : HR X.K X.mg rr hp H) (h : Rep X.K X.mg rr H x v) (e : tyOf x hp = some t) : TyX X.K H v (.type (tyName t)) := by
  cases x with
  | non => cases e; rw [rep_non h]; exact .base .non
  | bl b => cases e; rw [rep_bl h]; exact .base (.bl b)
  | int b => cases e; rw [rep_int h]; exact .base (.int b)
  | str b => cases e; rw [rep_str h]; exact .base (.str _)
  | tup ds =>
    cases e
    obtain ⟨a, vs, rfl, hs, _⟩ := rep_tup h
    rcases hs with (hs | ⟨o, hs⟩) | ⟨o, its, n, hk, hc, _⟩
    · exact .base (.tup hs)
    · exact .fTuple hs
    · exact .kTuple hk hc
  | rol ds =>
    cases e
    unfold Rep at h
    obtain ⟨a, vs, rfl, hs, _⟩ := h
    rcases hs with ⟨o, hs⟩ | hs
    · exact .base (.frz hs)
    · rcases hs (fun _ => none) with (hs | ⟨o, hs⟩) | ⟨o, its, n, hk, hc, _⟩
      · cases hs
      · cases hs
      · exact .kList hk hc
  | obj n =>
    obtain ⟨a, rfl, h1⟩ := rep_obj h
    simp only [tyOf] at e
    split at e
    · rename_i xs e1
      obtain ⟨a', g1, vs, ea, hv⟩ := hr.obj _ _ e1
      rw [h1] at g1; cases g1
      cases e
      exact .base (.lst ea)
    · cases e
  | fn _ => cases e
  | ty _ => cases e
theorem v_isi : PV X (rIsi X.K) isiP := ⟨fun W σ rr H hp ds vs Q hr hv p => by
  unfold isiP at p
  split at p
  · rename_i x c
    split at p
    · rename_i t e
      split at p
      · rename_i hc
        obtain ⟨v, w, rfl, h1, h2⟩ := reps2 hv
        unfold Rep at h2
        subst h2
        exact ⟨v, .ty (tyName c), _, _, subTy t c, rfl, .ty _, tyx_of hr h1 e, kit_ty (sub_ok t hc.1 c hc.2), post_at hr p of_bl⟩
      · exact False.elim p
    · exact False.elim p
  · exact False.elim p⟩
/-! ### len -/
def lenV (ds : List D) (h : MH) : R D := match ds with
  | [.str s] => if s.length ≤ LIM then .ok (.int s.length) h else .err
  | [x] => match itemsM x h with
    | some ds => .ok (.int ds.length) h
    | none => .err
  | _ => .err
theorem items_sq {rr : List Addr} {H : Hp} {hp : MH} {x : D} {v : V} {ds : List D} (hr : HR X.K X.mg rr hp H) (h : Rep X.K X.mg rr H x v) (e : itemsM x hp = some ds) : ∃ a vs, v = .ref a ∧ (SqL X.K H a vs ∨ SqT X.K H a vs) ∧ Reps X.K X.mg rr H ds vs := by
  cases x with
  | tup _ =>
    cases e
    obtain ⟨a, vs, rfl, hs, hv⟩ := rep_tup h
    exact ⟨a, vs, rfl, .inr hs, hv⟩
  | rol _ =>
    cases e
    unfold Rep at h
    obtain ⟨a, vs, rfl, hs, hv⟩ := h
    exact ⟨a, vs, rfl, .inl hs.sq, hv⟩
  | obj n =>
    obtain ⟨a, rfl, h1⟩ := rep_obj h
    simp only [itemsM] at e
    split at e
    · rename_i xs e1
      obtain ⟨a', g1, vs, ea, hv⟩ := hr.obj _ _ e1
      rw [h1] at g1; cases g1
      cases e
      exact ⟨a, vs, rfl, .inl (SqL.of ea), hv⟩
    · cases e
  | _ => cases e
theorem v_len : PV X (fun xs H Q => (∃ p ys, xs = [.ref p] ∧ (SqL X.K H p ys ∨ SqT X.K H p ys) ∧ Q (.int ys.length) H) ∨ (∃ z, xs = [.str z] ∧ z.length ≤ sizeLine ∧ Q (.int z.length) H)) lenV := ⟨fun W σ rr H hp ds vs Q hr hv p => by
  unfold lenV at p
  split at p
  · obtain ⟨v, rfl, h1⟩ := reps1 hv
    obtain rfl := rep_str h1
    split at p
    · rename_i hl
      exact .inr ⟨_, rfl, by rw [str_len]; exact hl, by rw [str_len]; exact post_at hr p of_int⟩
    · exact False.elim p
  · obtain ⟨v, rfl, h1⟩ := reps1 hv
    split at p
    · rename_i xs e
      obtain ⟨a, ws, rfl, h2, h3⟩ := items_sq hr h1 e
      exact .inl ⟨a, ws, rfl, h2, by rw [reps_len h3]; exact post_at hr p of_int⟩
    · exact False.elim p
  · exact False.elim p⟩
theorem call_lenM : CallR X (.builtin "len") (fun xs H Q => (∃ p ys, xs = [.ref p] ∧ (SqL X.K H p ys ∨ SqT X.K H p ys) ∧ Q (.int ys.length) H) ∨ (∃ z, xs = [.str z] ∧ z.length ≤ sizeLine ∧ Q (.int z.length) H)) := call_len_seq.or call_len_str
/-! ### min(a, b), max(a, b), int(x), str(x) -/
def min2P (ds : List D) (h : MH) : R D := match ds with
  | [.int i, .int j] => .ok (.int (if j < i then j else i)) h
  | _ => .err
def max2P (ds : List D) (h : MH) : R D := match ds with
  | [.int i, .int j] => .ok (.int (if i < j then j else i)) h
  | _ => .err
theorem v_min2 : PV X (fun xs H Q => ∃ i j, xs = [.int i, .int j] ∧ Q (.int (if j < i then j else i)) H) min2P := ⟨fun W σ rr H hp ds vs Q hr hv p => by
  unfold min2P at p
  split at p
  · obtain ⟨v, w, rfl, h1, h2⟩ := reps2 hv
    obtain rfl := rep_int h1
    obtain rfl := rep_int h2
    exact ⟨_, _, rfl, post_at hr p of_int⟩
  · exact False.elim p⟩
theorem v_max2 : PV X (fun xs H Q => ∃ i j, xs = [.int i, .int j] ∧ Q (.int (if j > i then j else i)) H) max2P := ⟨fun W σ rr H hp ds vs Q hr hv p => by
  unfold max2P at p
  split at p
  · obtain ⟨v, w, rfl, h1, h2⟩ := reps2 hv
    obtain rfl := rep_int h1
    obtain rfl := rep_int h2
    exact ⟨_, _, rfl, post_at hr p of_int⟩
  · exact False.elim p⟩
/-- the signs of a number -/
def decL (n : Nat) : List Nat := (Nat.toDigits 10 n).map Char.toNat
theorem dec_str (n : Nat) : Str.ofString (toString ((n : Nat) : Int)) = ⟨(decL n).toArray⟩ := by
  rw [Str.ofString_eq_toList]
  show (⟨((Nat.repr n).toList.map Char.toNat).toArray⟩ : Str) = _
  unfold Nat.repr decL
  rw [String.toList_ofList]
def strP (ds : List D) (h : MH) : R D := match ds with
  | [.int i] => if 0 ≤ i ∧ i.natAbs.log2 < 1920 then .ok (.str (decL i.toNat)) h else .err
  | [.str s] => .ok (.str s) h
  | _ => .err
theorem call_strM : CallR X (.type "str") (fun xs H Q => (∃ i, xs = [.int i] ∧ i.natAbs.log2 < 1920 ∧ Q (.str (toString i)) H) ∨ (∃ a, xs = [.str a] ∧ Q (.str a) H)) := call_str_int.or SkE.call_str_str
theorem v_str : PV X (fun xs H Q => (∃ i, xs = [.int i] ∧ i.natAbs.log2 < 1920 ∧ Q (.str (toString i)) H) ∨ (∃ a, xs = [.str a] ∧ Q (.str a) H)) strP := ⟨fun W σ rr H hp ds vs Q hr hv p => by
  unfold strP at p
  split at p
  · rename_i i
    obtain ⟨v, rfl, h1⟩ := reps1 hv
    obtain rfl := rep_int h1
    split at p
    · rename_i hl
      refine .inl ⟨i, rfl, hl.2, ?_⟩
      have e : i = ((i.toNat : Nat) : Int) := by omega
      have q : Q (.str (Str.ofString (toString i))) H := by
        rw [e, dec_str]
        exact post_at hr p of_str
      exact q
    · exact False.elim p
  · obtain ⟨v, rfl, h1⟩ := reps1 hv
    obtain rfl := rep_str h1
    exact .inr ⟨_, rfl, post_at hr p of_str⟩
  · exact False.elim p⟩
end
end FT
end
section
set_option maxRecDepth 100000
namespace FT
open PySem L2
set_option autoImplicit false
section
variable {X : Cx} {W : WX} {e a b o i : Expr} {es : List Expr} {f k fo fi : E D} {g fl gl : E (List D)} {pos p : Pos}
/-! ### int(x) -/
def isDigs (s : List Nat) : Bool := s.all fun c => decide (48 ≤ c ∧ c ≤ 57)
def intP (ds : List D) (h : MH) : R D := match ds with
  | [.int i] => .ok (.int i) h
  | [.bl b] => .ok (.int (if b then 1 else 0)) h
  | [.str s] => if isDigs s = true ∧ s ≠ [] ∧ s.length ≤ 640 then .ok (.int ((NumText.digitsVal s : Nat) : Int)) h else .err
  | _ => .err
theorem call_intM : CallR X (.type "int") (fun xs H Q => ((∃ i, xs = [.int i] ∧ Q (.int i) H) ∨ ∃ k, xs = [.bl k] ∧ Q (.int (if k then 1 else 0)) H) ∨ (∃ a n, xs = [.str a] ∧ PySem.intText? a = some n ∧ a.length ≤ 640 ∧ Q (.int n) H)) := call_int1.or call_int_str
theorem v_int : PV X (fun xs H Q => ((∃ i, xs = [.int i] ∧ Q (.int i) H) ∨ ∃ k, xs = [.bl k] ∧ Q (.int (if k then 1 else 0)) H) ∨ (∃ a n, xs = [.str a] ∧ PySem.intText? a = some n ∧ a.length ≤ 640 ∧ Q (.int n) H)) intP := ⟨fun W σ rr H hp ds vs Q hr hv p => by
  unfold intP at p
  split at p
  · obtain ⟨v, rfl, h1⟩ := reps1 hv
    obtain rfl := rep_int h1
    exact .inl (.inl ⟨_, rfl, post_at hr p of_int⟩)
  · obtain ⟨v, rfl, h1⟩ := reps1 hv
    obtain rfl := rep_bl h1
    exact .inl (.inr ⟨_, rfl, post_at hr p of_int⟩)
  · rename_i s
    obtain ⟨v, rfl, h1⟩ := reps1 hv
    obtain rfl := rep_str h1
    split at p
    · rename_i hc
      obtain ⟨c1, c2, c3⟩ := hc
      refine .inr ⟨_, _, rfl, intText_digits (x := ⟨s.toArray⟩) (fun c hc => ?_) (by simpa using c2) (by rw [str_len]; omega), by rw [str_len]; exact c3, ?_⟩
      · have := List.all_eq_true.mp c1 c (by simpa using hc)
        simpa using this
      · simpa using post_at hr p of_int
    · exact False.elim p
  · exact False.elim p⟩
/-! ### x[i] -/
def ixM : D → D → MH → R D
  | .tup ds, .int i, h => match atI ds i with
    | some d => .ok d h
    | none => .err
  | .rol ds, .int i, h => match atI ds i with
    | some d => .ok d h
    | none => .err
  | .str s, .int i, h => if s.length ≤ LIM then (match atI s i with
    | some c => .ok (.str [c]) h
    | none => .err) else .err
  | .obj m, .int i, h => match h[m]? with
    | some (.lst ds) => (match atI ds i with
      | some d => .ok d h
      | none => .err)
    | _ => .err
  | _, _, _ => .err
theorem reps_atI {K : PySem.W.Frag} {mg : Str → Option Value} {r : List Addr} {H : Hp} {ds : List D} {vs : List V} {i : Int} {d : D} (h : Reps K mg r H ds vs) (e : atI ds i = some d) : ∃ v, atI vs i = some v ∧ Rep K mg r H d v := by
  unfold atI at e ⊢
  rw [reps_len h]
  cases q : ixN ds.length i with
  | none => rw [q] at e; cases e
  | some j =>
    rw [q] at e
    exact reps_get h e
theorem me_ix (ha : ME X W a f) (hb : ME X W b k) (hs : PlainIx b := by intro _ _; rfl) : ME X W (.Subscript a b pos) (op2 ixM f k) := PEm (pe_ix ix_seq ha hb hs) fun σ H Q h => op2_run (W := W) (fun rr H hp x y v w hr rx ry p => by
  cases y with
  | int i =>
    obtain rfl := rep_int ry
    cases x <;> try exact False.elim p
    · rename_i s
      obtain rfl := rep_str rx
      simp only [ixM] at p
      split at p
      · rename_i hl
        split at p
        · rename_i c e
          exact .inr (.inr ⟨_, i, c, rfl, rfl, by rw [str_len]; exact hl, by simpa using e, by simpa using post_at hr p of_str⟩)
        · exact False.elim p
      · exact False.elim p
    · rename_i ds
      obtain ⟨q, vs, rfl, h1, h2⟩ := rep_tup rx
      simp only [ixM] at p
      split at p
      · rename_i d e
        obtain ⟨v, e1, e2⟩ := reps_atI h2 e
        exact .inr (.inl ⟨q, vs, i, v, rfl, rfl, h1, e1, post_at hr p e2⟩)
      · exact False.elim p
    · rename_i m
      obtain ⟨q, rfl, h1⟩ := rep_obj rx
      simp only [ixM] at p
      split at p
      · rename_i ds e0
        split at p
        · rename_i d e
          obtain ⟨q', g1, vs, ea, hv⟩ := hr.obj _ _ e0
          rw [h1] at g1; cases g1
          obtain ⟨v, e1, e2⟩ := reps_atI hv e
          exact .inl ⟨q, vs, i, v, rfl, rfl, SqL.of ea, e1, post_at hr p e2⟩
        · exact False.elim p
      · exact False.elim p
    · rename_i ds
      unfold Rep at rx
      obtain ⟨q, vs, rfl, h1, h2⟩ := rx
      simp only [ixM] at p
      split at p
      · rename_i d e
        obtain ⟨v, e1, e2⟩ := reps_atI h2 e
        exact .inl ⟨q, vs, i, v, rfl, rfl, h1.sq, e1, post_at hr p e2⟩
      · exact False.elim p
  | _ => cases x <;> exact False.elim p) h
/-! ### x[i:j] -/
def cutL {t : Type} (xs : List t) (lo hi : Option Int) : List t := (xs.drop (HT.sIx xs.length 0 lo)).take (HT.sIx xs.length xs.length hi - HT.sIx xs.length 0 lo)
def slM (x : D) (lo hi : Option Int) (h : MH) : R D := match x with
  | .str s => if s.length ≤ LIM then .ok (.str (cutL s lo hi)) h else .err
  | .tup ds => .ok (.tup (cutL ds lo hi)) h
  | .obj m => match h[m]? with
    | some (.lst ds) => .ok (.obj h.length) (h ++ [.lst (cutL ds lo hi)])
    | _ => .err
  | _ => .err
def asI (x : D) (k : Int → R D) : R D := match x with
  | .int i => k i
  | _ => .err
/-- an end of a slice: written or not -/
def slE (p : Option (E D)) (env : Ev) (hp : MH) (k : Option Int → MH → R D) : R D := match p with
  | none => k none hp
  | some f => (f env hp).bind fun x h => asI x fun i => k (some i) h
def vSl (f : E D) (lo hi : Option (E D)) : E D := fun env hp => (f env hp).bind fun x h1 => slE lo env h1 fun l h2 => slE hi env h2 fun u h3 => slM x l u h3
theorem reps_cut {K : PySem.W.Frag} {mg : Str → Option Value} {r : List Addr} {H : Hp} {ds : List D} {vs : List V} (lo hi : Option Int) (h : Reps K mg r H ds vs) : Reps K mg r H (cutL ds lo hi) (cutV vs lo hi) := by
  unfold cutL cutV
  rw [reps_len h]
  exact reps_take _ (reps_drop _ h)
theorem sl_run {σ : L2.St} {rr : List Addr} {H : Hp} {hp : MH} {x : D} {v : V} {l u : Option Int} {Q : VK} (hr : HR X.K X.mg rr hp H) (rx : Rep X.K X.mg rr H x v) (p : Post X.K X.mg W rr H σ (LV X.K X.mg) Q (slM x l u hp)) :
    rSlA X.K v l u H Q ∨ rSlS v l u H Q ∨ rSlL X.K v l u H Q := by
  cases x <;> try exact False.elim p
  · rename_i s
    obtain rfl := rep_str rx
    simp only [slM] at p
    split at p
    · rename_i hl
      refine .inr (.inl ⟨_, rfl, by rw [str_len]; exact hl, ?_⟩)
      have e : cutS ⟨s.toArray⟩ l u = ⟨(cutL s l u).toArray⟩ := by unfold cutS cutL; rw [str_len]
      rw [e]
      exact post_at hr p of_str
    · exact False.elim p
  · rename_i ds
    obtain ⟨q, vs, rfl, h1, h2⟩ := rep_tup rx
    refine .inl ⟨q, vs, rfl, h1, fun hw => ?_, fun _ q' hq => post_tup hr p (reps_cut l u h2) hq⟩
    have e : cutL ds l u = ds := by
      unfold cutL
      rw [← reps_len h2, hw.1, hw.2, List.drop_zero, Nat.sub_zero, reps_len h2, List.take_length]
    have p' : Post X.K X.mg W rr H σ (LV X.K X.mg) Q (.ok (.tup (cutL ds l u)) hp) := p
    rw [e] at p'
    exact post_at hr p' (of_tup h1 h2)
  · rename_i m
    obtain ⟨q, rfl, h1⟩ := rep_obj rx
    simp only [slM] at p
    split at p
    · rename_i ds e0
      obtain ⟨q', g1, vs, ea, hv⟩ := hr.obj _ _ e0
      rw [h1] at g1; cases g1
      exact .inr (.inr ⟨q, vs, rfl, SqL.of ea, fun q' hq => post_lst hr p (reps_cut l u hv) hq⟩)
    · exact False.elim p
/-- the ends of a slice -/
structure MO' (X : Cx) (W : WX) (e : Option Expr) (f : Option (E D)) : Prop where
  ex : ∃ t, PO X e t ∧ ∀ (env : Ev) (σ : L2.St) (rr : List Addr) (H : Hp) (hp : MH) (k : Option Int → MH → R D) (Q : VK) (Q' : Option Int → Hp → Prop), ES X.K X.mg rr H env σ → HR X.K X.mg rr hp H → Post X.K X.mg W rr H σ (LV X.K X.mg) Q (slE f env hp k) →
    (∀ l hp1 r1 H1, Ext X.K rr H r1 H1 → HR X.K X.mg r1 hp1 H1 → Post X.K X.mg W r1 H1 σ (LV X.K X.mg) Q (k l hp1) → Q' l H1) → t σ H Q'
theorem mo_none : MO' X W none none := ⟨tNoPart, po_none, fun env σ rr H hp k Q Q' es hr p q => q none hp rr H Ext.refl hr p⟩
theorem mo_some (h : ME X W e f) : MO' X W (some e) (some f) := ⟨_, po_some h, fun env σ rr H hp k Q Q' es hr p q => by
  refine ⟨env, hp, rr, es, hr, Post.bind p fun x hp1 r1 H1 v e1 hr1 rv q1 => ?_⟩
  cases x with
  | int i => exact ⟨i, rep_int rv, q (some i) hp1 r1 H1 e1 hr1 q1⟩
  | _ => exact False.elim q1⟩
theorem me_sl {lo hi : Option Expr} {flo fhi : Option (E D)} {p2 : Pos} (he : ME X W a f) (hl : MO' X W lo flo) (hu : MO' X W hi fhi) : ME X W (.Subscript a (.Slice lo hi none p2) pos) (vSl f flo fhi) := by
  obtain ⟨tl, h1, h1'⟩ := hl.ex
  obtain ⟨tu, h2, h2'⟩ := hu.ex
  refine PEm (pe_slice (sl_tupA.or (sl_str.or sl_list)) he h1 h2) fun σ H Q h => ?_
  obtain ⟨env, hp, rr, es, hh, q⟩ := h
  refine ⟨env, hp, rr, es, hh, Post.bind q fun x hp1 r1 H1 v e1 hr1 rv q1 => ?_⟩
  refine h1' env σ r1 H1 hp1 _ Q _ (es.mono e1) hr1 q1 fun l hp2 r2 H2 e2 hr2 q2 => ?_
  refine h2' env σ r2 H2 hp2 _ Q _ ((es.mono e1).mono e2) hr2 q2 fun u hp3 r3 H3 e3 hr3 q3 => ?_
  exact sl_run hr3 (Rep.mono (e2.trans e3) x rv) q3
/-! ### x[i] = v for a list -/
def setM (o i v : D) (h : MH) : Option MH := match o, i with
  | .obj m, .int k => match h[m]? with
    | some (.lst ds) => (match ixN ds.length k with
      | some j => some (h.set m (.lst (ds.set j v)))
      | none => none)
    | _ => none
  | _, _ => none
def sSub (fo fi fv : E D) : S := fun env hp => (fv env hp).toS env fun v h1 => (fo env h1).toS env fun o h2 => (fi env h2).toS env fun i h3 => match setM o i v h3 with
  | some h4 => .next env h4
  | none => .err
theorem ms_sub {fv : E D} {v : Expr} {pos' : Pos} (hv : ME X W v fv) (ho : ME X W o fo) (hi : ME X W i fi)
    (ha : ∀ v, assign (.Subscript o i pos') X.env v = (do
      let ov ← holding [v] (eval o X.env)
      let iv ← holding [v, ov] (eval i X.env)
      standAt pos'
      holding [v, ov, iv] (setItem ov iv v)
      release [v, ov, iv] []) := by intro _; rfl)
    (hs : swapsWithSole [.Subscript o i pos'] v pos.line X.env = pure false := by rfl) (hw : swappedStores [.Subscript o i pos'] v X.env = pure none := by rfl)
    (h1 : (assignEach [.Subscript o i pos'] X.env).map (·.2) = [assign (.Subscript o i pos') X.env] := by rfl) : MS X W (.Assign [.Subscript o i pos'] v pos) (sSub fo fi fv) :=
  PSm (ps_asg hv (pg_sub ho hi set_list ha) hs hw h1) fun Dn σ H h => by
    obtain ⟨env, hp, rr, es, hh, q⟩ := h
    refine ⟨env, hp, rr, es, hh, PostS.bind es q fun x hp1 r1 H1 y e1 hr1 l1 q1 => ?_⟩
    refine ⟨env, hp1, r1, es.mono e1, hr1, PostS.bind (es.mono e1) q1 fun ov hp2 r2 H2 y2 e2 hr2 l2 q2 => ?_⟩
    refine ⟨env, hp2, r2, (es.mono e1).mono e2, hr2, PostS.bind ((es.mono e1).mono e2) q2 fun iv hp3 r3 H3 y3 e3 hr3 l3 q3 => ?_⟩
    split at q3
    · rename_i h4 e4
      unfold setM at e4
      split at e4
      · rename_i m k
        split at e4
        · rename_i ds e5
          split at e4
          · rename_i j e6
            cases e4
            obtain rfl := rep_int l3
            obtain ⟨a, rfl, g1⟩ := rep_obj (Rep.mono e3 _ l2)
            obtain ⟨a', g2, vs, ea, hv⟩ := hr3.obj _ _ e5
            rw [g1] at g2; cases g2
            have rv := Rep.mono (e2.trans e3) x l1
            obtain ⟨e7, hr7⟩ := hr_set hr3 g1 e5 (reps_set rv j hv)
            refine ⟨a, vs, k, j, rfl, rfl, ea, by rw [reps_len hv]; exact e6, ?_⟩
            exact q3 r3 _ σ e7 hr7 ((((es.mono e1).mono e2).mono e3).mono e7)
          · cases e4
        · cases e4
      · cases e4
    · exact False.elim q3
end
end FT
end
section
set_option maxRecDepth 100000
namespace FT
open PySem L2
set_option autoImplicit false
/-! ### targets -/
inductive Tg where
  | nm (i : Nat) | tp (is : List Nat)
def setAll : List Nat → List D → Ev → Option Ev
  | [], [], e => some e
  | i :: is, d :: ds, e => setAll is ds (e.set i (some d))
  | _, _, _ => none
def tgM : Tg → D → Ev → Option Ev
  | .nm i, d, e => some (e.set i (some d))
  | .tp is, .tup ds, e => setAll is ds e
  | _, _, _ => none
def gNames : List Nat → TGs
  | [] => gNil
  | i :: is => gCons (gName i) (gNames is)
def gT (K : PySem.W.Frag) : Tg → TG
  | .nm i => gName i
  | .tp is => gTup K is.length (gNames is)
def Tg.slots : Tg → List Nat
  | .nm i => [i]
  | .tp is => is
abbrev MG (X : Cx) (tg : Expr) (t : Tg) : Prop := PG X tg (gT X.K t)
section
variable {X : Cx} {pos : Pos}
theorem mg_name {i : Nat} {x : Str} (hN : X.N.Nodup) (hi : X.N[i]? = some x) (hx : Loc X.env.scope x) (hf : X.fn x = true ∨ X.env.scope.names.lookup x = some .local := by first | exact .inl rfl | exact .inr rfl | assumption) : MG X (.Name x pos) (.nm i) := pg_name hN hi hx hf
theorem mg_tup {es : List Expr} {k : Nat} {is : List Nat} (hc : X.calm = true) (h : PGs X es (gNames is)) (hn : (assignEach es X.env).length = is.length := by rfl) (hst : (assignEach es X.env).findIdx? (·.1) = none := by rfl) : MG X (.Tuple es k pos) (.tp is) := pg_tup hc h hn hst
end
section
variable {K : PySem.W.Frag} {mg : Str → Option Value} {r : List Addr} {H : Hp}
theorem setAll_run : ∀ (is : List Nat) (ds : List D) (env env' : Ev) (σ : L2.St) (vs : List V) (Q : L2.St → Hp → Prop), setAll is ds env = some env' → ES K mg r H env σ → Reps K mg r H ds vs → (∀ σ', ES K mg r H env' σ' → (∀ own, (∀ i ∈ is, i ∈ own) → wipe σ' own = wipe σ own) → Q σ' H) → gNames is vs σ H Q
  | [], [], env, env', σ, vs, Q, e, es, hv, q => by
    cases e
    unfold Reps at hv
    exact ⟨hv, q σ es fun _ _ => rfl⟩
  | i :: is, d :: ds, env, env', σ, vs, Q, e, es, hv, q => by
    unfold Reps at hv
    obtain ⟨v, us, rfl, h1, h2⟩ := hv
    refine ⟨v, us, rfl, ?_⟩
    exact setAll_run is ds (env.set i (some d)) env' (σ.set i (some v)) us Q e (es.set i h1) h2 fun σ' es' hw => q σ' es' fun own ho => by
      rw [hw own fun j hj => ho j (List.mem_cons_of_mem _ hj)]
      exact wipe_set (ho i List.mem_cons_self)
  | [], d :: ds, env, env', σ, vs, Q, e, es, hv, q => by cases e
  | i :: is, [], env, env', σ, vs, Q, e, es, hv, q => by cases e
where
  wipe_set {σ : L2.St} {i : Nat} {v : Option V} : ∀ {own : List Nat}, i ∈ own → wipe (σ.set i v) own = wipe σ own
    | j :: own, h => by
      unfold wipe
      by_cases hj : i = j
      · subst hj
        by_cases hm : i ∈ own
        · rw [wipe_set hm]
        · apply List.ext_getElem?
          intro m
          by_cases hmi : m = i
          · subst hmi
            by_cases hl : m < σ.length
            · rw [List.getElem?_set_self (by rw [wipe_length]; simpa using hl), List.getElem?_set_self (by rw [wipe_length]; exact hl)]
            · rw [List.getElem?_eq_none (by simp [wipe_length]; omega), List.getElem?_eq_none (by simp [wipe_length]; omega)]
          · rw [List.getElem?_set_ne (Ne.symm hmi), List.getElem?_set_ne (Ne.symm hmi), wipe_get (Ne.symm hmi)]
      · have hm : i ∈ own := by
          rcases List.mem_cons.mp h with z | z
          · exact absurd z hj
          · exact z
        rw [wipe_set hm]
  wipe_get {σ : L2.St} {i m : Nat} {v : Option V} (hne : i ≠ m) : ∀ {own : List Nat}, (wipe (σ.set i v) own)[m]? = (wipe σ own)[m]?
    | [] => by unfold wipe; rw [List.getElem?_set_ne hne]
    | j :: own => by
      unfold wipe
      by_cases hj : j = m
      · subst hj
        by_cases hl : j < σ.length
        · rw [List.getElem?_set_self (by rw [wipe_length]; simpa using hl), List.getElem?_set_self (by rw [wipe_length]; exact hl)]
        · rw [List.getElem?_eq_none (by simp [wipe_length]; omega), List.getElem?_eq_none (by simp [wipe_length]; omega)]
      · rw [List.getElem?_set_ne hj, List.getElem?_set_ne hj, wipe_get hne]
theorem tg_run {t : Tg} {d : D} {env env' : Ev} {σ : L2.St} {v : V} {Q : L2.St → Hp → Prop} (e : tgM t d env = some env') (es : ES K mg r H env σ) (h : Rep K mg r H d v) (q : ∀ σ', ES K mg r H env' σ' → (∀ own, (∀ i ∈ t.slots, i ∈ own) → wipe σ' own = wipe σ own) → Q σ' H) : gT K t v σ H Q := by
  cases t with
  | nm i =>
    cases e
    exact q _ (es.set i h) fun own ho => setAll_run.wipe_set (ho i (by simp [Tg.slots]))
  | tp is =>
    cases d <;> try cases e
    rename_i ds
    obtain ⟨a, vs, rfl, h1, h2⟩ := rep_tup h
    refine ⟨a, vs, rfl, h1, ?_, setAll_run is ds env env' σ vs Q e es h2 q⟩
    rw [reps_len h2]
    exact len is ds env env' e
where
  len : ∀ (is : List Nat) (ds : List D) (env env' : Ev), setAll is ds env = some env' → ds.length = is.length
    | [], [], _, _, _ => rfl
    | i :: is, d :: ds, env, env', e => by
      have := len is ds _ _ (show setAll is ds (env.set i (some d)) = some env' from e)
      simp [this]
    | [], d :: ds, _, _, e => by cases e
    | i :: is, [], _, _, e => by cases e
end
/-! ### what is walked -/
inductive Sc where
  | items (ds : List D) | live (n : Nat)
def Sc.nx : Sc → Nat → MH → Option (Option D)
  | .items ds, i, _ => some ds[i]?
  | .live n, i, h => match h[n]? with
    | some (.lst ys) => some ys[i]?
    | _ => none
def Sc.size : Sc → MH → Nat
  | .items ds, _ => ds.length
  | .live n, h => match h[n]? with
    | some (.lst ys) => ys.length
    | _ => 0
section
variable (K : PySem.W.Frag) (mg : Str → Option Value)
def ItOk (J : It) (r1 : List Addr) (H1 : Hp) (sc : Sc) : Prop := ∀ (i : Nat) (r2 : List Addr) (H2 : Hp) (hp2 : MH), Ext K r1 H1 r2 H2 → HR K mg r2 hp2 H2 →
  (sc.nx i hp2 = some none → J.stop i H2) ∧ ∀ d, sc.nx i hp2 = some (some d) → J.go i H2 ∧ ∀ x H3, J.yld i H2 x H3 → Ext K r2 H2 r2 H3 ∧ HR K mg r2 hp2 H3 ∧ Rep K mg r2 H3 d x
abbrev LI : Rl Sc It := fun _ _ r' H' sc J => ItOk K mg J r' H' sc
instance : RlOk K (LI K mg) := ⟨fun _ _ h => h⟩
end
structure MI (X : Cx) (W : WX) (tg iter : Expr) (f : E Sc) : Prop where
  ex : ∃ wi, PI X tg iter wi ∧ ∀ (env : Ev) (σ : L2.St) (rr : List Addr) (H : Hp) (hp : MH) (Rr : It → Hp → Prop), ES X.K X.mg rr H env σ → HR X.K X.mg rr hp H → Post X.K X.mg W rr H σ (LI X.K X.mg) Rr (f env hp) → wi σ H Rr
/-! ### for -/
def forGo (sc : Sc) (t : Tg) (body : S) : Nat → Nat → S
  | 0, _ => fun _ _ => .err
  | f + 1, i => fun env hp => match sc.nx i hp with
    | none => .err
    | some none => .next env hp
    | some (some d) => match tgM t d env with
      | none => .err
      | some env' => match body env' hp with
        | .next e h => forGo sc t body f (i + 1) e h
        | .cont e h => forGo sc t body f (i + 1) e h
        | .brk e h => .next e h
        | x => x
def sFor (src : E Sc) (t : Tg) (body : S) : S := fun env hp => (src env hp).toS env fun sc h => forGo sc t body (sc.size h + 1) 0 env h
section
variable {X : Cx} {W : WX} {tg iter : Expr} {body : List Stmt} {src : E Sc} {t : Tg} {fb : S} {pos : Pos}
theorem ms_for (hp : PassesOwn (model X.prog X.w) X.A X.env X.xe) (hc : X.calm = true) (hi : MI X W tg iter src) (hg : MG X tg t) (hb : MSs X W body fb)
    (hs : ∀ x, foldedSetIterable iter X.env x = pure x := by intro _; rfl) : MS X W (.For tg iter body [] pos) (sFor src t fb) := by
  obtain ⟨wi, h1, h2⟩ := hi.ex
  refine PSm (ps_for hp hc h1 hg hb hs) fun Dn σ H h => ?_
  obtain ⟨env, hp, rr, es, hh, q⟩ := h
  refine h2 env σ rr H hp _ es hh (PostS.bind es q fun sc hp1 r1 H1 J e1 hr1 l1 q1 => ?_)
  refine ⟨fun i m σ' H' => ∃ env' hp' r', Ext X.K r1 H1 r' H' ∧ ES X.K X.mg r' H' env' σ' ∧ HR X.K X.mg r' hp' H' ∧ PostS X.K X.mg W r' H' Dn (forGo sc t fb m i env' hp'),
    ⟨_, env, hp1, r1, Ext.refl, es.mono e1, hr1, q1⟩, ?_⟩
  rintro i m σ' H' ⟨env', hp', r', e', es', hr', q'⟩
  cases m with
  | zero => exact False.elim q'
  | succ f =>
    obtain ⟨s1, s2⟩ := l1 i r' H' hp' e' hr'
    simp only [forGo] at q'
    split at q'
    · exact False.elim q'
    · rename_i z
      exact .inl ⟨s1 z, q' r' H' σ' Ext.refl hr' es'⟩
    · rename_i d z
      obtain ⟨g1, g2⟩ := s2 d z
      refine .inr ⟨g1, fun σ2 H2 => ∃ env2 hp2 r2, Ext X.K r1 H1 r2 H2 ∧ ES X.K X.mg r2 H2 env2 σ2 ∧ HR X.K X.mg r2 hp2 H2 ∧ PostS X.K X.mg W r2 H2 Dn (forGo sc t fb f (i + 1) env2 hp2), fun σ2 H2 h => ⟨f, Nat.lt_succ_self _, h⟩, fun x H3 hy => ?_⟩
      obtain ⟨e3, hr3, rx⟩ := g2 x H3 hy
      split at q'
      · exact False.elim q'
      · rename_i env2 ez
        refine tg_run ez (es'.mono e3) rx fun σ2 es2 _ => ?_
        refine ⟨env2, hp', r', es2, hr3, ?_⟩
        split at q'
        · rename_i e h eb
          rw [eb]
          exact fun r4 H4 σ4 e4 hr4 es4 => ⟨e, h, r4, (e'.trans e3).trans e4, es4, hr4, PostS.weaken (e3.trans e4) q'⟩
        · rename_i e h eb
          rw [eb]
          exact fun r4 H4 σ4 e4 hr4 es4 => ⟨e, h, r4, (e'.trans e3).trans e4, es4, hr4, PostS.weaken (e3.trans e4) q'⟩
        · rename_i e h eb
          rw [eb]
          exact fun r4 H4 σ4 e4 hr4 es4 => q' r4 H4 σ4 (e3.trans e4) hr4 es4
        · rename_i x1 x2 x3
          cases eb : fb env2 hp' with
          | next e h => exact absurd eb (x1 e h)
          | cont e h => exact absurd eb (x2 e h)
          | brk e h => exact absurd eb (x3 e h)
          | ret d h => rw [eb] at q'; exact PostS.weaken (x := .ret d h) e3 q'
          | exc c e h => rw [eb] at q'; exact PostS.weaken (x := .exc c e h) e3 q'
          | err => rw [eb] at q'; exact q'
end
end FT
end
section
set_option maxRecDepth 100000
namespace FT
open PySem L2
set_option autoImplicit false
/-! ### while -/
def whileGo (c : E Bool) (b : S) : Nat → S
  | 0 => fun _ _ => .err
  | f + 1 => fun env hp => (c env hp).toS env fun x h => if x = true then (match b env h with
    | .next e h => whileGo c b f e h
    | .cont e h => whileGo c b f e h
    | .brk e h => .next e h
    | x => x) else .next env h
def FUEL : Nat := 1152921504606846976
def sWhile (c : E Bool) (b : S) : S := whileGo c b FUEL
section
variable {X : Cx} {W : WX} {c : Expr} {body : List Stmt} {fc : E Bool} {fb : S} {pos : Pos}
theorem ms_while (hp : PassesOwn (model X.prog X.w) X.A X.env X.xe) (hc : MT X W c fc) (hb : MSs X W body fb) : MS X W (.While c body [] pos) (sWhile fc fb) := by
  refine PSm (ps_while hp hc hb) fun Dn σ H h => ?_
  obtain ⟨env, hp, rr, es, hh, q⟩ := h
  refine ⟨fun m σ' H' => ∃ env' hp' r', Ext X.K rr H r' H' ∧ ES X.K X.mg r' H' env' σ' ∧ HR X.K X.mg r' hp' H' ∧ PostS X.K X.mg W r' H' Dn (whileGo fc fb m env' hp'),
    ⟨FUEL, env, hp, rr, Ext.refl, es, hh, q⟩, ?_⟩
  rintro m σ' H' ⟨env', hp', r', e', es', hr', q'⟩
  cases m with
  | zero => exact False.elim q'
  | succ f =>
    refine ⟨env', hp', r', es', hr', PostS.bind es' q' fun x hp1 r1 H1 y e1 hr1 l q1 => ?_⟩
    subst l
    cases x with
    | false => exact q1 r1 H1 σ' Ext.refl hr1 (es'.mono e1)
    | true =>
      refine ⟨fun σ2 H2 => ∃ env2 hp2 r2, Ext X.K rr H r2 H2 ∧ ES X.K X.mg r2 H2 env2 σ2 ∧ HR X.K X.mg r2 hp2 H2 ∧ PostS X.K X.mg W r2 H2 Dn (whileGo fc fb f env2 hp2), fun σ2 H2 h => ⟨f, Nat.lt_succ_self _, h⟩, ?_⟩
      refine ⟨env', hp1, r1, es'.mono e1, hr1, ?_⟩
      simp only [if_true] at q1
      cases eb : fb env' hp1 with
      | next e h =>
        rw [eb] at q1
        exact fun r4 H4 σ4 e4 hr4 es4 => ⟨e, h, r4, (e'.trans e1).trans e4, es4, hr4, PostS.weaken e4 q1⟩
      | cont e h =>
        rw [eb] at q1
        exact fun r4 H4 σ4 e4 hr4 es4 => ⟨e, h, r4, (e'.trans e1).trans e4, es4, hr4, PostS.weaken e4 q1⟩
      | brk e h => rw [eb] at q1; exact fun r4 H4 σ4 e4 hr4 es4 => q1 r4 H4 σ4 e4 hr4 es4
      | ret d h => rw [eb] at q1; exact q1
      | exc c e h => rw [eb] at q1; exact q1
      | err => rw [eb] at q1; exact q1
end
/-! ### comprehensions -/
def R.noX {a : Type} : R a → R a
  | .exc _ _ => .err
  | x => x
def wipeE (env : Ev) : List Nat → Ev
  | [] => env
  | v :: vs => (wipeE env vs).set v none
def bTrue : E Bool := fun _ h => .ok true h
def lcGo (sc : Sc) (t : Tg) (test : E Bool) (elt : E D) (env : Ev) : Nat → Nat → MH → R (List D)
  | 0, _, _ => .err
  | f + 1, i, h => match sc.nx i h with
    | none => .err
    | some none => .ok [] h
    | some (some d) => match tgM t d env with
      | none => .err
      | some env' => (test env' h).noX.bind fun b h1 => if b = true then (elt env' h1).noX.bind fun y h2 => (lcGo sc t test elt env f (i + 1) h2).bind fun ys h3 => .ok (y :: ys) h3 else lcGo sc t test elt env f (i + 1) h1
def lcM (src : E Sc) (own : List Nat) (t : Tg) (test : E Bool) (elt : E D) : E (List D) := fun env hp => (src env hp).bind fun sc h => if sc.size h < LIM then lcGo sc t test elt (wipeE env own) (sc.size h + 1) 0 h else .err
section
variable {K : PySem.W.Frag} {mg : Str → Option Value} {r : List Addr} {H : Hp}
theorem wipeE_len (env : Ev) : ∀ own : List Nat, (wipeE env own).length = env.length
  | [] => rfl
  | v :: vs => by unfold wipeE; rw [List.length_set, wipeE_len env vs]
theorem ES.none {env : Ev} {σ : L2.St} (es : ES K mg r H env σ) (i : Nat) : ES K mg r H (env.set i none) (σ.set i none) := by
  refine ⟨by simpa using es.len, fun j d' e => ?_⟩
  by_cases hj : j = i
  · subst hj
    by_cases hl : j < env.length
    · rw [List.getElem?_set_self hl] at e; cases e
    · rw [List.getElem?_eq_none (by simpa using hl)] at e; cases e
  · rw [List.getElem?_set_ne (Ne.symm hj)] at e
    obtain ⟨w, e1, e2⟩ := es.val j d' e
    exact ⟨w, by rw [List.getElem?_set_ne (Ne.symm hj)]; exact e1, e2⟩
theorem ES.wipe {env : Ev} {σ : L2.St} (es : ES K mg r H env σ) : ∀ own : List Nat, ES K mg r H (wipeE env own) (L2.wipe σ own)
  | [] => es
  | v :: vs => by
    unfold wipeE L2.wipe
    exact (ES.wipe es vs).none v
abbrev W0 : WX := fun _ _ _ _ => False
theorem Post.noX {a b c d : Type} {W : WX} {r0 : List Addr} {H0 : Hp} {σ σ' : L2.St} {L : Rl a b} {L2 : Rl c d} {Q : d → Hp → Prop} {Q' : b → Hp → Prop} {x : R a} {k : a → MH → R c}
    (h : Post K mg W r0 H0 σ L2 Q (x.noX.bind k)) (hk : ∀ x hp1 r1 H1 y, Ext K r H r1 H1 → HR K mg r1 hp1 H1 → L r H r1 H1 x y → Post K mg W r0 H0 σ L2 Q (k x hp1) → Q' y H1) : Post K mg W0 r H σ' L Q' x := by
  cases x with
  | ok x hp => exact fun r' H' y e' hr l => hk x hp r' H' y e' hr l h
  | exc c hp => exact False.elim h
  | err => exact h
theorem wipe_sub (σ : L2.St) (own : List Nat) : ∀ vs : List Nat, (∀ i ∈ vs, i ∈ own) → L2.wipe (L2.wipe σ vs) own = L2.wipe σ own
  | [], _ => rfl
  | v :: vs, h => by
    show L2.wipe ((L2.wipe σ vs).set v none) own = _
    rw [setAll_run.wipe_set (h v List.mem_cons_self)]
    exact wipe_sub σ own vs fun i hi => h i (List.mem_cons_of_mem _ hi)
theorem bind_assoc' {a b c : Type} (x : R a) (k : a → MH → R b) (l : b → MH → R c) : (x.bind k).bind l = x.bind fun y h => (k y h).bind l := by cases x <;> rfl
/-- a list outside of the mirror's heap changes -/
theorem wk_other {D : Addr} {acc acc' : List V} (hD : H D = some (.lst acc)) : Wk K r H r (upd H D (.lst acc')) := by
  refine ⟨⟨[], by simp⟩, fun c ws z => ?_, fun c ws z => ?_⟩
  · rcases z with (z | ⟨ob, z⟩) | z
    · exact .inl (.inl (by rw [upd_ne (ne_of z hD (by intro w; cases w))]; exact z))
    · exact .inl (.inr ⟨ob, by rw [upd_ne (ne_of z hD (by intro w; cases w))]; exact z⟩)
    · exact .inr z
  · rcases z with ⟨ob, z⟩ | z
    · exact .inl ⟨ob, by rw [upd_ne (ne_of z hD (by intro w; cases w))]; exact z⟩
    · exact .inr z
theorem hr_other {hp : MH} {D : Addr} {acc acc' : List V} (hr : HR K mg r hp H) (hD : H D = some (.lst acc)) (nD : D ∉ r) : HR K mg r hp (upd H D (.lst acc')) :=
  ⟨hr.len, hr.nd, fun n o e => by
    obtain ⟨a, e1, q⟩ := hr.obj n o e
    exact ⟨a, e1, q.mono (wk_other hD) (upd_ne fun z => nD (by rw [← z]; exact List.mem_of_getElem? e1))⟩⟩
theorem ext_other {r1 : List Addr} {H1 : Hp} {D : Addr} {acc acc' : List V} (e : Ext K r1 H1 r H) (hD : H D = some (.lst acc)) (h1 : H1 D = none) : Ext K r1 H1 r (upd H D (.lst acc')) := by
  have w := wk_other (K := K) (r := r) (acc' := acc') hD
  refine ⟨⟨e.pre, fun a vs z => w.tup a vs (e.tup a vs z), fun a vs z => w.fl a vs (e.fl a vs z)⟩, fun a o z n => ?_⟩
  obtain ⟨n1, z1⟩ := e.keep a o z n
  exact ⟨n1, by rw [upd_ne (ne_of_none z h1)]; exact z1⟩
end
section
variable {X : Cx} {W : WX} {elt tg iter : Expr} {ifs : List Expr} {src : E Sc} {t : Tg} {test : E Bool} {fe : E D} {pos : Pos} {own : List Nat}
theorem lc_run {wi : TI} (h2 : ∀ (env : Ev) (σ : L2.St) (rr : List Addr) (H : Hp) (hp : MH) (Rr : It → Hp → Prop), ES X.K X.mg rr H env σ → HR X.K X.mg rr hp H → Post X.K X.mg W rr H σ (LI X.K X.mg) Rr (src env hp) → wi σ H Rr)
    (ho : ∀ i ∈ t.slots, i ∈ own) {σ : L2.St} {H : Hp} {Q : VK} (h : tR X.K X.mg W (LL X.K X.mg) (lcM src own t test fe) σ H Q) :
    tLc wi (gT X.K t) (tR X.K X.mg W0 LB test) (tR X.K X.mg W0 (LV X.K X.mg) fe) own σ H Q := by
  obtain ⟨env, hp, rr, es, hh, q⟩ := h
  refine h2 env σ rr H hp _ es hh (Post.bind q fun sc hp1 r1 H1 J e1 hr1 l1 q1 => fun D hD => ?_)
  split at q1
  rotate_left
  · exact False.elim q1
  rename_i hsz
  have nD : D ∉ r1 := hr_nin hr1 hD
  refine ⟨fun i m H' => ∃ hp' r' acc dacc, i + m ≤ sc.size hp1 + 1 ∧ acc.length ≤ i ∧ Ext X.K r1 H1 r' H' ∧ HR X.K X.mg r' hp' H' ∧ D ∉ r' ∧ H' D = some (.lst acc) ∧ Reps X.K X.mg r' H' dacc acc ∧
      Post X.K X.mg W r1 H1 σ (LL X.K X.mg) Q ((lcGo sc t test fe (wipeE env own) m i hp').bind fun ys h3 => .ok (dacc ++ ys) h3), ?_, ?_⟩
  · refine ⟨sc.size hp1 + 1, hp1, r1, [], [], by omega, Nat.le_refl _, ext_new hD, hr_new hr1 hD, nD, upd_same, reps_nil, ?_⟩
    cases z : lcGo sc t test fe (wipeE env own) (sc.size hp1 + 1) 0 hp1 with
    | ok ys h3 => rw [z] at q1; exact q1
    | exc c h3 => rw [z] at q1; exact q1
    | err => rw [z] at q1; exact q1
  · rintro i m H' ⟨hp', r', acc, dacc, him, hacc, e', hr', nD', hDa, hv, q'⟩
    cases m with
    | zero => exact False.elim q'
    | succ f =>
      obtain ⟨s1, s2⟩ := l1 i r' H' hp' e' hr'
      simp only [lcGo] at q'
      split at q'
      · exact False.elim q'
      · rename_i z
        refine .inl ⟨s1 z, ?_⟩
        have q2 : Post X.K X.mg W r1 H1 σ (LL X.K X.mg) Q (.ok (dacc ++ []) hp') := q'
        rw [List.append_nil] at q2
        exact q2 r' H' (.ref D) e' hr' ⟨D, acc, rfl, nD', hD, hDa, hv⟩
      · rename_i d z
        obtain ⟨g1, g2⟩ := s2 d z
        refine .inr ⟨g1, fun H2 => ∃ hp' r' acc dacc, (i + 1) + f ≤ sc.size hp1 + 1 ∧ acc.length ≤ i + 1 ∧ Ext X.K r1 H1 r' H2 ∧ HR X.K X.mg r' hp' H2 ∧ D ∉ r' ∧ H2 D = some (.lst acc) ∧ Reps X.K X.mg r' H2 dacc acc ∧
          Post X.K X.mg W r1 H1 σ (LL X.K X.mg) Q ((lcGo sc t test fe (wipeE env own) f (i + 1) hp').bind fun ys h3 => .ok (dacc ++ ys) h3), fun H2 h => ⟨f, Nat.lt_succ_self _, h⟩, fun x H3 hy => ?_⟩
        obtain ⟨e3, hr3, rx⟩ := g2 x H3 hy
        have keepD : ∀ {r4 : List Addr} {H4 : Hp}, Ext X.K r' H' r4 H4 → D ∉ r4 ∧ H4 D = some (.lst acc) := fun e4 => e4.keep D _ hDa nD'
        split at q'
        · exact False.elim q'
        · rename_i env2 ez
          refine tg_run ez ((((es.mono e1).mono e').mono e3).wipe own) rx fun σ2 es2 hw => ⟨?_, ?_⟩
          · rw [hw own ho]
            exact wipe_sub σ own own fun _ h => h
          · rw [bind_assoc'] at q'
            refine ⟨env2, hp', r', es2, hr3, Post.noX q' fun b hp4 r4 H4 b' e4 hr4 lb q4 => ?_⟩
            subst lb
            have e34 := e3.trans e4
            obtain ⟨nD4, hD4⟩ := keepD e34
            cases b with
            | false => exact ⟨hp4, r4, acc, dacc, by omega, by omega, e'.trans e34, hr4, nD4, hD4, Reps.mono e34 dacc hv, q4⟩
            | true =>
              have q5 : Post X.K X.mg W r1 H1 σ (LL X.K X.mg) Q (((fe env2 hp4).noX.bind fun y h2 => (lcGo sc t test fe (wipeE env own) f (i + 1) h2).bind fun ys h3 => .ok (y :: ys) h3).bind fun ys h3 => .ok (dacc ++ ys) h3) := q4
              rw [bind_assoc'] at q5
              refine ⟨env2, hp4, r4, es2.mono e4, hr4, Post.noX q5 fun y hp6 r6 H6 vy e6 hr6 ly q6 => ?_⟩
              have e36 := e34.trans e6
              obtain ⟨nD6, hD6⟩ := keepD e36
              refine ⟨acc, hD6, Nat.lt_of_le_of_lt hacc (by have : sc.size hp1 < sizeLine := hsz; omega), ?_⟩
              refine ⟨hp6, r6, acc ++ [vy], dacc ++ [y], by omega, by simp; omega, ext_other (e'.trans e36) hD6 hD, hr_other hr6 hD6 nD6, nD6, upd_same, ?_, ?_⟩
              · exact Reps.monoW (wk_other hD6) _ (reps_append (Reps.mono e36 dacc hv) (reps_cons ly reps_nil))
              · cases z6 : lcGo sc t test fe (wipeE env own) f (i + 1) hp6 with
                | ok ys h3 =>
                  rw [z6] at q6
                  have q7 : Post X.K X.mg W r1 H1 σ (LL X.K X.mg) Q (.ok (dacc ++ (y :: ys)) h3) := q6
                  show Post X.K X.mg W r1 H1 σ (LL X.K X.mg) Q (.ok ((dacc ++ [y]) ++ ys) h3)
                  rw [List.append_assoc]
                  exact q7
                | exc c h3 => rw [z6] at q6; exact q6
                | err => rw [z6] at q6; exact q6
theorem ml_lc {scope : Scope} {own' : List (Str × Nat)} (hc : X.calm = true) (hN : X.N.Nodup) (hi : MI X W tg iter src) (ok : BlkOk X.N X.env.scope scope own') (ho : ∀ i ∈ t.slots, i ∈ own'.map (·.2))
    (hg : ∀ (s : Shared) (H : Hp) (C : Addr) (cl : List (Str × Addr)) (fp : List Addr), MG (X.blk s H scope (compEnvC scope cl C X.env) fp) tg t)
    (ht : ∀ (s : Shared) (H : Hp) (C : Addr) (cl : List (Str × Addr)) (fp : List Addr), PTs (X.blk s H scope (compEnvC scope cl C X.env) fp) ifs (tR X.K X.mg W0 LB test))
    (he : ∀ (s : Shared) (H : Hp) (C : Addr) (cl : List (Str × Addr)) (fp : List Addr), ME (X.blk s H scope (compEnvC scope cl C X.env) fp) W0 elt fe) (hs : ∀ x, foldedSetIterable iter X.env x = pure x := by intro _; rfl) :
    ML X W (.ListComp elt [⟨tg, iter, ifs, 0⟩] scope pos) (lcM src (own'.map (·.2)) t test fe) := by
  obtain ⟨wi, h1, h2⟩ := hi.ex
  exact PEm (pe_lc hc hN h1 ok hg ht he hs) fun σ H Q h => lc_run h2 ho h
/-- y = [..] -/
theorem ms_setLc {scope : Scope} {own' : List (Str × Nat)} {i : Nat} {y : Str} {py spos : Pos} (hc : X.calm = true) (hN : X.N.Nodup) (hy : X.N[i]? = some y) (hyl : X.env.scope.names.lookup y = some .local)
    (hsw : swapsWith (.ListComp elt [⟨tg, iter, ifs, 0⟩] scope pos) (some (.Name y py)) spos.line X.env = pure true) (hi : MI X W tg iter src) (ok : BlkOk X.N X.env.scope scope own') (ho : ∀ i ∈ t.slots, i ∈ own'.map (·.2))
    (hg : ∀ (s : Shared) (H : Hp) (C : Addr) (cl : List (Str × Addr)) (fp : List Addr), MG (X.blk s H scope (compEnvC scope cl C X.env) fp) tg t)
    (ht : ∀ (s : Shared) (H : Hp) (C : Addr) (cl : List (Str × Addr)) (fp : List Addr), PTs (X.blk s H scope (compEnvC scope cl C X.env) fp) ifs (tR X.K X.mg W0 LB test))
    (he : ∀ (s : Shared) (H : Hp) (C : Addr) (cl : List (Str × Addr)) (fp : List Addr), ME (X.blk s H scope (compEnvC scope cl C X.env) fp) W0 elt fe) (hs : ∀ x, foldedSetIterable iter X.env x = pure x := by intro _; rfl) :
    MS X W (.Assign [.Name y py] (.ListComp elt [⟨tg, iter, ifs, 0⟩] scope pos) spos) (sSet i (vAlloc (lcM src (own'.map (·.2)) t test fe))) := by
  obtain ⟨wi, h1, h2⟩ := hi.ex
  exact PSm (ps_setLc hc hN hy hyl hsw h1 ok hg ht he hs) fun Dn σ H h => set_run (fun Q q => lc_run h2 ho (alloc_run q)) h
theorem mts_nil : PTs X [] (tR X.K X.mg W LB bTrue) := ⟨fun pins s σ H Q I h => pts_nil.run pins s σ H Q I (by
  obtain ⟨env, hp, rr, es, hh, q⟩ := h
  exact q rr H true Ext.refl hh rfl)⟩
theorem mts_one {c : Expr} {f : E Bool} (h : MT X W c f) : PTs X [c] (tR X.K X.mg W LB f) := pts_one h
end
end FT
end
section
set_option maxRecDepth 100000
namespace FT
open PySem L2
set_option autoImplicit false
section
variable {X : Cx} {W : WX} {tg e e2 : Expr} {f : E D} {fl g : E (List D)} {pos p tpos : Pos}
/-! ### what a loop walks -/
def srcOf (x : D) (h : MH) : R Sc := match x with
  | .tup ds => .ok (.items ds) h
  | .rol ds => .ok (.items ds) h
  | .str s => .ok (.items (s.map fun c => .str [c])) h
  | .obj n => match h[n]? with
    | some (.lst _) => .ok (.live n) h
    | _ => .err
  | _ => .err
def vSrc (f : E D) : E Sc := fun env hp => (f env hp).bind fun x h => srcOf x h
theorem it_tup {r : List Addr} {H : Hp} {a : Addr} {vs : List V} {ds : List D} (h1 : SqT X.K H a vs) (h2 : Reps X.K X.mg r H ds vs) : ItOk X.K X.mg (Itt X.K a) r H (.items ds) := by
  intro i r2 H2 hp2 e2 hr2
  have h3 := e2.tup a vs h1
  have h4 := Reps.mono e2 ds h2
  refine ⟨fun z => ⟨vs, h3, ?_⟩, fun d z => ?_⟩
  · have z' : ds[i]? = none := by injection z
    rw [reps_len h4]
    exact List.getElem?_eq_none_iff.mp z'
  · have z' : ds[i]? = some d := by injection z
    obtain ⟨v, e3, e4⟩ := reps_get h4 z'
    refine ⟨⟨vs, v, h3, e3⟩, fun x H3 hy => ?_⟩
    obtain ⟨rfl, hy⟩ := hy
    have := hy vs h3
    rw [e3] at this; cases this
    exact ⟨Ext.refl, hr2, e4⟩
theorem it_rol {r : List Addr} {H : Hp} {a : Addr} {vs : List V} {ds : List D} (h1 : SqF X.K H a vs) (h2 : Reps X.K X.mg r H ds vs) : ItOk X.K X.mg (Itl X.K a) r H (.items ds) := by
  intro i r2 H2 hp2 e2 hr2
  have h3 := (e2.fl a vs h1).sq
  have h4 := Reps.mono e2 ds h2
  refine ⟨fun z => ⟨vs, h3, ?_⟩, fun d z => ?_⟩
  · have z' : ds[i]? = none := by injection z
    rw [reps_len h4]
    exact List.getElem?_eq_none_iff.mp z'
  · have z' : ds[i]? = some d := by injection z
    obtain ⟨v, e3, e4⟩ := reps_get h4 z'
    refine ⟨⟨vs, v, h3, e3⟩, fun x H3 hy => ?_⟩
    obtain ⟨rfl, hy⟩ := hy
    have := hy vs h3
    rw [e3] at this; cases this
    exact ⟨Ext.refl, hr2, e4⟩
theorem it_new {r : List Addr} {H : Hp} {a : Addr} {vs : List V} {ds : List D} (h1 : H a = some (.lst vs)) (na : a ∉ r) (h2 : Reps X.K X.mg r H ds vs) : ItOk X.K X.mg (Itl X.K a) r H (.items ds) := by
  intro i r2 H2 hp2 e2 hr2
  have h3 : SqL X.K H2 a vs := SqL.of (e2.keep a _ h1 na).2
  have h4 := Reps.mono e2 ds h2
  refine ⟨fun z => ⟨vs, h3, ?_⟩, fun d z => ?_⟩
  · have z' : ds[i]? = none := by injection z
    rw [reps_len h4]
    exact List.getElem?_eq_none_iff.mp z'
  · have z' : ds[i]? = some d := by injection z
    obtain ⟨v, e3, e4⟩ := reps_get h4 z'
    refine ⟨⟨vs, v, h3, e3⟩, fun x H3 hy => ?_⟩
    obtain ⟨rfl, hy⟩ := hy
    have := hy vs h3
    rw [e3] at this; cases this
    exact ⟨Ext.refl, hr2, e4⟩
theorem it_live {r : List Addr} {H : Hp} {a : Addr} {n : Nat} (h1 : r[n]? = some a) : ItOk X.K X.mg (Itl X.K a) r H (.live n) := by
  intro i r2 H2 hp2 e2 hr2
  have g := e2.at h1
  constructor
  · intro z
    simp only [Sc.nx] at z
    split at z
    · rename_i ys ez
      obtain ⟨a', g', vs, ea, hv⟩ := hr2.obj _ _ ez
      rw [g] at g'; cases g'
      have z' : ys[i]? = none := by injection z
      exact ⟨vs, SqL.of ea, by rw [reps_len hv]; exact List.getElem?_eq_none_iff.mp z'⟩
    · cases z
  · intro d z
    simp only [Sc.nx] at z
    split at z
    · rename_i ys ez
      obtain ⟨a', g', vs, ea, hv⟩ := hr2.obj _ _ ez
      rw [g] at g'; cases g'
      have z' : ys[i]? = some d := by injection z
      obtain ⟨v, e3, e4⟩ := reps_get hv z'
      refine ⟨⟨vs, v, SqL.of ea, e3⟩, fun x H3 hy => ?_⟩
      obtain ⟨rfl, hy⟩ := hy
      have := hy vs (SqL.of ea)
      rw [e3] at this; cases this
      exact ⟨Ext.refl, hr2, e4⟩
    · cases z
theorem it_str {r : List Addr} {H : Hp} (s : List Nat) : ItOk X.K X.mg (Its ⟨s.toArray⟩) r H (.items (s.map fun c => .str [c])) := by
  intro i r2 H2 hp2 e2 hr2
  refine ⟨fun z => ?_, fun d z => ?_⟩
  · have z' : (s.map fun c => D.str [c])[i]? = none := by injection z
    have := List.getElem?_eq_none_iff.mp z'
    show (⟨s.toArray⟩ : Str).cps.size ≤ i
    simpa using this
  · have z' : (s.map fun c => D.str [c])[i]? = some d := by injection z
    rw [List.getElem?_map] at z'
    cases zz : s[i]? with
    | none => rw [zz] at z'; cases z'
    | some c =>
      rw [zz] at z'
      cases z'
      refine ⟨by show i < (⟨s.toArray⟩ : Str).cps.size; simpa using (List.getElem?_eq_some_iff.mp zz).1, fun x H3 hy => ?_⟩
      obtain ⟨rfl, c', h1, rfl⟩ := hy
      have : s[i]? = some c' := by simpa using h1
      rw [zz] at this; cases this
      exact ⟨Ext.refl, hr2, of_str⟩
theorem PI.or {w1 w2 : TI} (h1 : PI X tg e w1) (h2 : PI X tg e w2) : PI X tg e (fun σ H R => w1 σ H R ∨ w2 σ H R) := ⟨fun pins s σ H R I h => by
  rcases h with h | h
  · exact h1.run pins s σ H R I h
  · exact h2.run pins s σ H R I h⟩
theorem mi_val (h : ME X W e f) : MI X W tg e (vSrc f) := ⟨_, PI.or (pi_tup h) (PI.or (pi_list h) (pi_str h)), fun env σ rr H hp Rr es hr p => by
  unfold vSrc at p
  have p0 := p
  cases z : f env hp with
  | err => rw [z] at p; exact False.elim p
  | exc c h' =>
    rw [z] at p
    refine .inl ⟨env, hp, rr, es, hr, ?_⟩
    rw [z]
    exact p
  | ok x h' =>
    rw [z] at p
    have p' : Post X.K X.mg W rr H σ (LI X.K X.mg) Rr (srcOf x h') := p
    cases x <;> try exact False.elim p'
    · rename_i s
      refine .inr (.inr ⟨env, hp, rr, es, hr, ?_⟩)
      rw [z]
      exact fun r1 H1 v e1 hr1 l => ⟨_, rep_str l, p' r1 H1 _ e1 hr1 (it_str s)⟩
    · rename_i ds
      refine .inl ⟨env, hp, rr, es, hr, ?_⟩
      rw [z]
      intro r1 H1 v e1 hr1 l
      obtain ⟨a, vs, rfl, h1, h2⟩ := rep_tup l
      exact ⟨a, rfl, ⟨vs, h1⟩, p' r1 H1 _ e1 hr1 (it_tup h1 h2)⟩
    · rename_i n
      refine .inr (.inl ⟨env, hp, rr, es, hr, ?_⟩)
      rw [z]
      intro r1 H1 v e1 hr1 l
      obtain ⟨a, rfl, h1⟩ := rep_obj l
      simp only [srcOf] at p'
      split at p'
      · rename_i ys ez
        obtain ⟨a', g', vs, ea, hv⟩ := hr1.obj _ _ ez
        rw [h1] at g'; cases g'
        exact ⟨a, rfl, ⟨vs, SqL.of ea⟩, p' r1 H1 _ e1 hr1 (it_live h1)⟩
      · exact False.elim p'
    · rename_i ds
      refine .inr (.inl ⟨env, hp, rr, es, hr, ?_⟩)
      rw [z]
      intro r1 H1 v e1 hr1 l
      unfold LV Rep at l
      obtain ⟨a, vs, rfl, h1, h2⟩ := l
      exact ⟨a, rfl, ⟨vs, h1.sq⟩, p' r1 H1 _ e1 hr1 (it_rol h1 h2)⟩⟩
/-- over a new list -/
def lSrc (fl : E (List D)) : E Sc := fun env hp => (fl env hp).bind fun ds h => .ok (.items ds) h
theorem mi_list (h : ML X W e fl) : MI X W tg e (lSrc fl) := ⟨_, pi_list h, fun env σ rr H hp Rr es hr p => by
  refine ⟨env, hp, rr, es, hr, Post.bind p fun ds hp1 r1 H1 y e1 hr1 l q => ?_⟩
  obtain ⟨a, vs, rfl, na, _, ea, hv⟩ := l
  exact ⟨a, rfl, ⟨vs, SqL.of ea⟩, q r1 H1 _ Ext.refl hr1 (it_new ea na hv)⟩⟩
/-! ### range -/
def upTo (lo : Int) : Nat → List D
  | 0 => []
  | n + 1 => .int lo :: upTo (lo + 1) n
def rng1 (ds : List D) (h : MH) : R Sc := match ds with
  | [.int j] => if -(2 ^ 62) ≤ j ∧ j < 2 ^ 62 then .ok (.items (upTo 0 j.toNat)) h else .err
  | _ => .err
def rng2 (ds : List D) (h : MH) : R Sc := match ds with
  | [.int i, .int j] => if -(2 ^ 62) ≤ i ∧ i < 2 ^ 62 ∧ -(2 ^ 62) ≤ j ∧ j < 2 ^ 62 then .ok (.items (upTo i (j - i).toNat)) h else .err
  | _ => .err
def aSrc (q : List D → MH → R Sc) (g : E (List D)) : E Sc := fun env hp => (g env hp).bind fun ds h => q ds h
theorem upTo_get : ∀ (n : Nat) (lo : Int) (i : Nat), (upTo lo n)[i]? = if i < n then some (.int (lo + i)) else none
  | 0, lo, i => by simp [upTo]
  | n + 1, lo, 0 => by simp [upTo]
  | n + 1, lo, i + 1 => by
    simp only [upTo, List.getElem?_cons_succ, upTo_get n (lo + 1) i]
    by_cases h : i < n
    · rw [if_pos h, if_pos (by omega)]
      congr 2
      push_cast
      omega
    · rw [if_neg h, if_neg (by omega)]
theorem it_rng {r : List Addr} {H : Hp} (lo : Int) (n : Nat) : ItOk X.K X.mg (Itr lo n) r H (.items (upTo lo n)) := by
  intro i r2 H2 hp2 e2 hr2
  refine ⟨fun z => ?_, fun d z => ?_⟩
  · have z' : (upTo lo n)[i]? = none := by injection z
    rw [upTo_get] at z'
    split at z'
    · cases z'
    · show n ≤ i
      omega
  · have z' : (upTo lo n)[i]? = some d := by injection z
    rw [upTo_get] at z'
    split at z'
    · rename_i h
      cases z'
      refine ⟨h, fun x H3 hy => ?_⟩
      obtain ⟨rfl, rfl⟩ := hy
      exact ⟨Ext.refl, hr2, of_int⟩
    · cases z'
theorem aSrc_run {q : List D → MH → R Sc} {env : Ev} {σ : L2.St} {rr : List Addr} {H : Hp} {hp : MH} {Rr : It → Hp → Prop} {Q : List V → Hp → Prop} (es : ES X.K X.mg rr H env σ) (hr : HR X.K X.mg rr hp H) (p : Post X.K X.mg W rr H σ (LI X.K X.mg) Rr (aSrc q g env hp))
    (k : ∀ ds h' r1 H1 vs, Ext X.K rr H r1 H1 → HR X.K X.mg r1 h' H1 → Reps X.K X.mg r1 H1 ds vs → Post X.K X.mg W r1 H1 σ (LI X.K X.mg) Rr (q ds h') → Q vs H1) : tR X.K X.mg W (LA X.K X.mg) g σ H Q :=
  ⟨env, hp, rr, es, hr, Post.bind p fun ds hp1 r1 H1 y e1 hr1 l q => k ds hp1 r1 H1 y e1 hr1 l q⟩
theorem mi_range1 (hg : Gl X "range") (hm : X.mg "range" = none) (ha : MA X W [e] g) (hs : starEach [e] X.env = [(false, eval e X.env)] := by rfl) : MI X W tg (.Call (.Name "range" p) [e] [] pos) (aSrc rng1 g) :=
  ⟨_, pi_range1 hg hm ha hs, fun env σ rr H hp Rr es hr p => aSrc_run es hr p fun ds h' r1 H1 vs e1 hr1 l p' => by
      unfold rng1 at p'
      split at p'
      · obtain ⟨v, rfl, h1⟩ := reps1 l
        obtain rfl := rep_int h1
        split at p'
        · rename_i hc
          exact ⟨_, rfl, hc.1, hc.2, p' r1 H1 _ Ext.refl hr1 (it_rng 0 _)⟩
        · exact False.elim p'
      · exact False.elim p'⟩
theorem mi_range2 (hg : Gl X "range") (hm : X.mg "range" = none) (ha : MA X W [e, e2] g) (hs : starEach [e, e2] X.env = [(false, eval e X.env), (false, eval e2 X.env)] := by rfl) (hs2 : starEach [e2] X.env = [(false, eval e2 X.env)] := by rfl) : MI X W tg (.Call (.Name "range" p) [e, e2] [] pos) (aSrc rng2 g) :=
  ⟨_, pi_range2 hg hm ha hs hs2, fun env σ rr H hp Rr es hr p => aSrc_run es hr p fun ds h' r1 H1 vs e1 hr1 l p' => by
      unfold rng2 at p'
      split at p'
      · obtain ⟨v, w, rfl, h1, h2⟩ := reps2 l
        obtain rfl := rep_int h1
        obtain rfl := rep_int h2
        split at p'
        · rename_i hc
          exact ⟨_, _, rfl, hc, p' r1 H1 _ Ext.refl hr1 (it_rng _ _)⟩
        · exact False.elim p'
      · exact False.elim p'⟩
/-! ### zip of two tuples -/
def zipD : List D → List D → List D
  | x :: xs, y :: ys => .tup [x, y] :: zipD xs ys
  | _, _ => []
def zipT (ds : List D) (h : MH) : R Sc := match ds with
  | [.tup xs, .tup ys] => .ok (.items (zipD xs ys)) h
  | _ => .err
theorem zipD_get : ∀ (xs ys : List D) (i : Nat), (zipD xs ys)[i]? = match xs[i]?, ys[i]? with
    | some x, some y => some (.tup [x, y])
    | _, _ => none
  | [], ys, i => by simp [zipD]
  | x :: xs, [], i => by simp [zipD]
  | x :: xs, y :: ys, 0 => by simp [zipD]
  | x :: xs, y :: ys, i + 1 => by simp [zipD, zipD_get xs ys i]
theorem it_zipT {r : List Addr} {H : Hp} {a b : Addr} {vs ws : List V} {ds es : List D} (h1 : SqT X.K H a vs) (h2 : Reps X.K X.mg r H ds vs) (h3 : SqT X.K H b ws) (h4 : Reps X.K X.mg r H es ws) : ItOk X.K X.mg (RZ.ItzT X.K a b) r H (.items (zipD ds es)) := by
  intro i r2 H2 hp2 e2 hr2
  have g1 := e2.tup a vs h1
  have g2 := Reps.mono e2 ds h2
  have g3 := e2.tup b ws h3
  have g4 := Reps.mono e2 es h4
  refine ⟨fun z => ⟨vs, ws, g1, g3, ?_⟩, fun d z => ?_⟩
  · have z' : (zipD ds es)[i]? = none := by injection z
    rw [zipD_get] at z'
    rw [reps_len g2, reps_len g4]
    split at z'
    · cases z'
    · rename_i hne
      by_cases h5 : ds.length ≤ i
      · exact .inl h5
      · by_cases h6 : es.length ≤ i
        · exact .inr h6
        · exact absurd (List.getElem?_eq_getElem (by omega : i < es.length)) (hne _ _ (List.getElem?_eq_getElem (by omega : i < ds.length)))
  · have z' : (zipD ds es)[i]? = some d := by injection z
    rw [zipD_get] at z'
    split at z'
    · rename_i x y ex ey
      cases z'
      obtain ⟨v, k1, k2⟩ := reps_get g2 ex
      obtain ⟨w, k3, k4⟩ := reps_get g4 ey
      refine ⟨⟨vs, ws, v, w, g1, g3, k1, k3⟩, fun z H3 hy => ?_⟩
      obtain ⟨T, v', w', rfl, nT, rfl, y1, y2⟩ := hy
      have z1 := y1 vs g1
      rw [k1] at z1; cases z1
      have z2 := y2 ws g3
      rw [k3] at z2; cases z2
      exact ⟨ext_new nT, hr_new hr2 nT, of_tup (SqT.of upd_same) (reps_cons (Rep.mono (ext_new nT) _ k2) (reps_cons (Rep.mono (ext_new nT) _ k4) reps_nil))⟩
    · cases z'
theorem mi_zipT {elts : List Expr} {kk : Nat} (hg : Gl X "zip") (hm : X.mg "zip" = none) (ha : MA X W [e, e2] g)
    (hs : starEach [e, e2] X.env = (false, eval e X.env) :: starEach [e2] X.env := by rfl) (hpl : (backTo pos (starEach [e2] X.env)).any (·.1) = false := by rfl) : MI X W (.Tuple elts kk tpos) (.Call (.Name "zip" p) [e, e2] [] pos) (aSrc zipT g) :=
  ⟨_, RZ.pi_zipA hg hm ha hs hpl, fun env σ rr H hp Rr es hr p => aSrc_run es hr p fun ds h' r1 H1 vs e1 hr1 l p' => by
      unfold zipT at p'
      split at p'
      · obtain ⟨v, w, rfl, h1, h2⟩ := reps2 l
        obtain ⟨a, us, rfl, k1, k2⟩ := rep_tup h1
        obtain ⟨b, ws, rfl, k3, k4⟩ := rep_tup h2
        exact ⟨a, b, us, ws, rfl, .inr ⟨k1, k3, p' r1 H1 _ Ext.refl hr1 (it_zipT k1 k2 k3 k4)⟩⟩
      · exact False.elim p'⟩
end
end FT
end
section
set_option maxRecDepth 100000
namespace FT
open PySem L2
set_option autoImplicit false
section
variable {X : Cx} {W : WX} {e a b o : Expr} {f k fo : E D} {fl gl : E (List D)} {pos p apos cpos : Pos}
/-! ### sep.join(new list of texts) -/
def joinP (sep : D) (ds : List D) (h : MH) : R D := match sep, strsOf ds with
  | .str s, some ps => if (ps.map List.length).sum + ps.length * s.length ≤ LIM then .ok (.str (TL.joinL s ps)) h else .err
  | _, _ => .err
def vJoin (f : E D) (fl : E (List D)) : E D := fun env hp => (f env hp).bind fun s h1 => (fl env h1).bind fun ds h2 => joinP s ds h2
theorem isStr_of {d : D} {ds : List D} {h : MH} {W : WX} {r : List Addr} {H : Hp} {σ : L2.St} {Q : VK} (p : Post X.K X.mg W r H σ (LV X.K X.mg) Q (joinP d ds h)) : ∃ s, d = .str s := by
  cases d <;> first | exact ⟨_, rfl⟩ | exact False.elim p
theorem join_str (s : List Nat) (ps : List (List Nat)) : Txt.join (⟨s.toArray⟩ : Str) (ps.map fun q => (⟨q.toArray⟩ : Str)) = ⟨(TL.joinL s ps).toArray⟩ := by
  rw [TL.join_eq]
  have h := TL.tl_join (⟨s.toArray⟩ : Str) (ps.map fun q => (⟨q.toArray⟩ : Str))
  generalize Str.join (⟨s.toArray⟩ : Str) (ps.map fun q => (⟨q.toArray⟩ : Str)) = z at h
  cases z
  rename_i c
  have h' : c.toList = TL.joinL s ps := by
    have e1 : (List.map TL.tl (List.map (fun q => (⟨q.toArray⟩ : Str)) ps)) = ps := by
      rw [List.map_map]
      conv => rhs; rw [← List.map_id ps]
      apply List.map_congr_left
      intro q _
      simp [TL.tl]
    rw [e1] at h
    simpa [TL.tl] using h
  rw [← h']
/-- the value of the receiver is a text whatever comes behind -/
def asStr (x : D) (k : R D) : R D := match x with
  | .str _ => k
  | _ => .err
theorem me_join (ho : ME X W o f) (he : ML X W e fl) (hs : starEach [e] X.env = [(false, eval e X.env)] := by rfl) (hbase : attributeBase o "join" X.env (eval o X.env) = eval o X.env := by rfl) (hline : (apos.endLine == pos.line) = true := by rfl) :
    ME X W (.Call (.Attribute o "join" apos) [e] [] pos) (fun env hp => (f env hp).bind fun s h1 => asStr s ((fl env h1).bind fun ds h2 => joinP s ds h2)) := PEm (pe_join ho he hs hbase hline) fun σ H Q h => by
  obtain ⟨env, hp, rr, es, hh, q⟩ := h
  refine ⟨env, hp, rr, es, hh, Post.bind q fun s hp1 r1 H1 v e1 hr1 rv q1 => ?_⟩
  cases s <;> try exact False.elim q1
  rename_i s
  obtain rfl := rep_str rv
  have q1' : Post X.K X.mg W r1 H1 σ (LV X.K X.mg) Q ((fl env hp1).bind fun ds h2 => joinP (.str s) ds h2) := q1
  refine ⟨⟨_, rfl⟩, env, hp1, r1, es.mono e1, hr1, Post.bind q1' fun ds hp2 r2 H2 y e2 hr2 l q2 => ?_⟩
  obtain ⟨a, vs, rfl, na, n0, ea, hv⟩ := l
  simp only [joinP] at q2
  split at q2
  · rename_i s' ps es' ep
    cases es'
    split at q2
    · rename_i hl
      obtain rfl := strsOf_eq ep
      obtain rfl := reps_strs hv
      have e2 : (ps.map fun s => V.str ⟨s.toArray⟩) = (ps.map fun q => (⟨q.toArray⟩ : Str)).map V.str := by rw [List.map_map]; rfl
      have e3 : ((ps.map fun q => (⟨q.toArray⟩ : Str)).map (·.length)) = ps.map List.length := by
        rw [List.map_map]
        apply List.map_congr_left
        intro q _
        exact str_len q
      refine ⟨_, a, ps.map (fun q => (⟨q.toArray⟩ : Str)), rfl, rfl, .inl (SqL.of (by rw [← e2]; exact ea)), ?_, ?_⟩
      · rw [e3, str_len, List.length_map]
        exact hl
      · rw [join_str]
        exact post_at hr2 q2 of_str
    · exact False.elim q2
  · exact False.elim q2
/-! ### lists are put together -/
def catLL (fl gl : E (List D)) : E (List D) := fun env hp => (fl env hp).bind fun xs h1 => (gl env h1).bind fun ys h2 => if xs.length + ys.length ≤ LIM then .ok (xs ++ ys) h2 else .err
theorem ml_catLL (ha : ML X W a fl) (hb : ML X W b gl) : ML X W (.BinOp a .Add b pos) (catLL fl gl) := PEm (pe_op op_cat ha hb) fun σ H Q h => by
  obtain ⟨env, hp, rr, es, hh, q⟩ := h
  refine ⟨env, hp, rr, es, hh, Post.bind q fun xs hp1 r1 H1 v e1 hr1 l1 q1 => ?_⟩
  obtain ⟨a, vs, rfl, na, n0, ea, hv⟩ := l1
  refine ⟨env, hp1, r1, es.mono e1, hr1, Post.bind q1 fun ys hp2 r2 H2 w e2 hr2 l2 q2 => ?_⟩
  obtain ⟨b, ws, rfl, nb, m0, eb, hw⟩ := l2
  split at q2
  · rename_i hl
    exact ⟨a, b, vs, ws, rfl, rfl, (e2.keep a _ ea na).2, eb, by rw [reps_len hv, reps_len hw]; exact hl, fun q hq => post_new hr2 q2 (reps_append (Reps.mono e2 xs hv) hw) hq⟩
  · exact False.elim q2
def lstOf (x : D) (h : MH) : Option (List D) := match x with
  | .obj n => match h[n]? with
    | some (.lst ds) => some ds
    | _ => none
  | _ => none
theorem lstOf_sq {rr : List Addr} {H : Hp} {hp : MH} {x : D} {v : V} {ds : List D} (hr : HR X.K X.mg rr hp H) (h : Rep X.K X.mg rr H x v) (e : lstOf x hp = some ds) : ∃ a vs n, v = .ref a ∧ x = .obj n ∧ rr[n]? = some a ∧ hp[n]? = some (.lst ds) ∧ H a = some (.lst vs) ∧ Reps X.K X.mg rr H ds vs := by
  cases x <;> try cases e
  rename_i n
  obtain ⟨a, rfl, h1⟩ := rep_obj h
  simp only [lstOf] at e
  split at e
  · rename_i xs e1
    obtain ⟨a', g1, vs, ea, hv⟩ := hr.obj _ _ e1
    rw [h1] at g1; cases g1
    cases e
    exact ⟨a, vs, n, rfl, rfl, h1, e1, ea, hv⟩
  · cases e
def catOL (f : E D) (gl : E (List D)) : E (List D) := fun env hp => (f env hp).bind fun x h1 => (gl env h1).bind fun ys h2 => match lstOf x h2 with
  | some xs => if xs.length + ys.length ≤ LIM then .ok (xs ++ ys) h2 else .err
  | none => .err
theorem ml_catOL (ha : ME X W a f) (hb : ML X W b gl) : ML X W (.BinOp a .Add b pos) (catOL f gl) := PEm (pe_op op_cat ha hb) fun σ H Q h => by
  obtain ⟨env, hp, rr, es, hh, q⟩ := h
  refine ⟨env, hp, rr, es, hh, Post.bind q fun x hp1 r1 H1 v e1 hr1 l1 q1 => ?_⟩
  refine ⟨env, hp1, r1, es.mono e1, hr1, Post.bind q1 fun ys hp2 r2 H2 w e2 hr2 l2 q2 => ?_⟩
  obtain ⟨b, ws, rfl, nb, m0, eb, hw⟩ := l2
  split at q2
  · rename_i xs ex
    split at q2
    · rename_i hl
      obtain ⟨a, vs, n, rfl, _, _, _, ea, hv⟩ := lstOf_sq hr2 (Rep.mono e2 x l1) ex
      exact ⟨a, b, vs, ws, rfl, rfl, ea, eb, by rw [reps_len hv, reps_len hw]; exact hl, fun q hq => post_new hr2 q2 (reps_append hv hw) hq⟩
    · exact False.elim q2
  · exact False.elim q2
def catLO (fl : E (List D)) (g : E D) : E (List D) := fun env hp => (fl env hp).bind fun xs h1 => (g env h1).bind fun y h2 => match lstOf y h2 with
  | some ys => if xs.length + ys.length ≤ LIM then .ok (xs ++ ys) h2 else .err
  | none => .err
theorem ml_catLO (ha : ML X W a fl) (hb : ME X W b f) : ML X W (.BinOp a .Add b pos) (catLO fl f) := PEm (pe_op op_cat ha hb) fun σ H Q h => by
  obtain ⟨env, hp, rr, es, hh, q⟩ := h
  refine ⟨env, hp, rr, es, hh, Post.bind q fun xs hp1 r1 H1 v e1 hr1 l1 q1 => ?_⟩
  obtain ⟨a, vs, rfl, na, n0, ea, hv⟩ := l1
  refine ⟨env, hp1, r1, es.mono e1, hr1, Post.bind q1 fun y hp2 r2 H2 w e2 hr2 l2 q2 => ?_⟩
  split at q2
  · rename_i ys ex
    split at q2
    · rename_i hl
      obtain ⟨b, ws, n, rfl, _, _, _, eb, hw⟩ := lstOf_sq hr2 l2 ex
      exact ⟨a, b, vs, ws, rfl, rfl, (e2.keep a _ ea na).2, eb, by rw [reps_len hv, reps_len hw]; exact hl, fun q hq => post_new hr2 q2 (reps_append (Reps.mono e2 xs hv) hw) hq⟩
    · exact False.elim q2
  · exact False.elim q2
/-- [..] * n -/
def repL (fl : E (List D)) (g : E D) : E (List D) := fun env hp => (fl env hp).bind fun xs h1 => (g env h1).bind fun y h2 => match y with
  | .int k => if -(2 ^ 63) ≤ k ∧ k < 2 ^ 63 ∧ xs.length * k.toNat ≤ LIM then .ok (List.replicate k.toNat xs).flatten h2 else .err
  | _ => .err
theorem ml_rep (ha : ML X W a fl) (hb : ME X W b f) : ML X W (.BinOp a .Mult b pos) (repL fl f) := PEm (pe_op op_rep ha hb) fun σ H Q h => by
  obtain ⟨env, hp, rr, es, hh, q⟩ := h
  refine ⟨env, hp, rr, es, hh, Post.bind q fun xs hp1 r1 H1 v e1 hr1 l1 q1 => ?_⟩
  obtain ⟨a, vs, rfl, na, n0, ea, hv⟩ := l1
  refine ⟨env, hp1, r1, es.mono e1, hr1, Post.bind q1 fun y hp2 r2 H2 w e2 hr2 l2 q2 => ?_⟩
  split at q2
  · rename_i k
    obtain rfl := rep_int l2
    split at q2
    · rename_i hl
      refine ⟨a, k, vs, rfl, rfl, (e2.keep a _ ea na).2, hl.1, hl.2.1, by rw [reps_len hv]; exact hl.2.2, fun q hq => post_new hr2 q2 ?_ hq⟩
      have hv2 := Reps.mono e2 xs hv
      generalize k.toNat = n
      induction n with
      | zero => exact reps_nil
      | succ n ih => rw [List.replicate_succ, List.replicate_succ, List.flatten_cons, List.flatten_cons]; exact reps_append hv2 ih
    · exact False.elim q2
  · exact False.elim q2
/-! ### list(x) -/
def listP (ds : List D) (h : MH) : R (List D) := match ds with
  | [.str s] => if s.length ≤ LIM then .ok (s.map fun c => .str [c]) h else .err
  | [x] => match itemsM x h with
    | some ds => .ok ds h
    | none => .err
  | _ => .err
theorem call_list_txt (hc : X.calm = true) : CallR X (.type "list") (fun xs H Q => ∃ z : Str, xs = [.str z] ∧ z.length ≤ sizeLine ∧ ∀ l, H l = none → Q (.ref l) (upd H l (.lst (z.cps.toList.map fun c => V.str ⟨#[c]⟩)))) := by
  intro pins s σ H xs us Q I r h
  obtain ⟨z, rfl, hz, q⟩ := h
  obtain ⟨u, rfl, rx⟩ := vals1 r
  obtain ⟨t, rfl⟩ := rx
  refine call_list_str (I.ok.hd hc) z t (fun h' tk acc' c' kp e it => ?_) hz
  have hv : Vals (z.cps.toList.map fun c => V.str ⟨#[c]⟩) acc'.toList := by
    obtain ⟨h1, h2⟩ := it
    have key : ∀ (cs : List Nat) (us : List Value), us.length = cs.length → (∀ (j : Nat) (v : Value), us[j]? = some v → ∃ c u, cs[j]? = some c ∧ v = .str ⟨#[c]⟩ u) → Vals (cs.map fun c => V.str ⟨#[c]⟩) us := by
      intro cs
      induction cs with
      | nil =>
        intro us hl _
        have : us = [] := List.length_eq_zero_iff.mp hl
        subst this
        exact .nil
      | cons c cs ih =>
        intro us hl hj
        cases us with
        | nil => simp at hl
        | cons u us =>
          obtain ⟨c', t', e1, e2⟩ := hj 0 u rfl
          have e1' : c = c' := by simpa using e1
          subst e1'
          exact .cons ⟨t', e2⟩ (ih us (by simpa using hl) fun j v hv => by
            obtain ⟨c2, t2, e3, e4⟩ := hj (j + 1) v (by simpa using hv)
            exact ⟨c2, t2, by simpa using e3, e4⟩)
    refine key z.cps.toList acc'.toList (by simpa using h1) fun j v hj => ?_
    obtain ⟨c, u, e1, e2⟩ := h2 j v (by simpa using hj)
    exact ⟨c, u, by simpa using e1, e2⟩
  refine ⟨.ref s.heap.objs.size, _, I.laid (t' := tk) (o := .lst (z.cps.toList.map fun c => V.str ⟨#[c]⟩)) kp (Nat.le_refl _) ?_, rfl, q _ (I.hok.fresh (Nat.le_refl _))⟩
  exact ⟨by simpa [Str.length] using hz, acc'.toList, c', hv, by rw [Array.toArray_toList]; exact e⟩
def lCall (q : List D → MH → R (List D)) (g : E (List D)) : E (List D) := fun env hp => (g env hp).bind fun ds h => q ds h
theorem ml_list {g : E (List D)} (hc : X.calm = true) (hg : Gl X "list") (hm : X.mg "list" = none) (hv : bootBuiltins "list" = some (.type "list")) (ha : MA X W [e] g) (he : starEach [e] X.env = (false, eval e X.env) :: starEach [] X.env := by rfl) (hpl : (backTo pos (starEach [] X.env)).any (·.1) = false := by rfl) :
    ML X W (.Call (.Name "list" p) [e] [] pos) (lCall listP g) := PEm (pe_callTy (call_list_of.or (call_list_txt hc)) hg hm hv ha (by decide) (by decide) he hpl) fun σ H Q h => by
  obtain ⟨env, hp, rr, es, hh, q⟩ := h
  refine ⟨env, hp, rr, es, hh, Post.bind q fun ds hp1 r1 H1 v e1 hr1 l1 q1 => ?_⟩
  unfold listP at q1
  split at q1
  · rename_i s
    obtain ⟨v, rfl, h1⟩ := reps1 l1
    obtain rfl := rep_str h1
    split at q1
    · rename_i hl
      refine .inr ⟨_, rfl, by rw [str_len]; exact hl, fun q hq => post_new hr1 q1 ?_ hq⟩
      have key : ∀ cs : List Nat, Reps X.K X.mg r1 H1 (cs.map fun c => .str [c]) (cs.map fun c => V.str ⟨#[c]⟩) := fun cs => by
        induction cs with
        | nil => exact reps_nil
        | cons c cs ih => exact reps_cons of_str ih
      exact key s
    · exact False.elim q1
  · obtain ⟨v, rfl, h1⟩ := reps1 l1
    split at q1
    · rename_i xs ex
      obtain ⟨a, vs, rfl, h2, h3⟩ := items_sq hr1 h1 ex
      exact .inl ⟨a, vs, rfl, h2, fun q hq => post_new hr1 q1 h3 hq⟩
    · exact False.elim q1
  · exact False.elim q1
/-! ### x == [], x != [] -/
def rNil (K : PySem.W.Frag) (neg : Bool) : R2 := fun x y H Q => ∃ a b vs, x = .ref a ∧ y = .ref b ∧ SqL K H a vs ∧ SqL K H b [] ∧ Q (.bl (if neg then !vs.isEmpty else vs.isEmpty)) H
theorem op_eqNil (hu : X.A.units + 64 < cLine) : OpR X (compareOp .Eq) (rNil X.K false) := by
  intro pins s σ H x y v u Q I rx ry h
  obtain ⟨a, b, vs, rfl, rfl, ha, hb, q⟩ := h
  cases rx
  cases ry
  obtain ⟨its, r1, p1, _⟩ := I.list ha
  obtain ⟨its2, r2, p2, _⟩ := I.list hb
  cases r2
  cases r1 with
  | nil =>
    refine SeqAt.eq_listAt (e := fun _ => true) p1.isList p2.isList rfl (by omega) (fun j h1 _ => absurd h1 (by simp)) ?_
    exact ⟨.bl true, H, I, rfl, q⟩
  | cons r t => exact SeqAt.eq_list_lengthsAt p1.isList p2.isList (by simp) (by omega) ⟨.bl false, H, I, rfl, q⟩
theorem op_neNil (hu : X.A.units + 64 < cLine) : OpR X (compareOp .NotEq) (rNil X.K true) := by
  intro pins s σ H x y v u Q I rx ry h
  obtain ⟨a, b, vs, rfl, rfl, ha, hb, q⟩ := h
  cases rx
  cases ry
  obtain ⟨its, r1, p1, _⟩ := I.list ha
  obtain ⟨its2, r2, p2, _⟩ := I.list hb
  cases r2
  cases r1 with
  | nil =>
    refine SeqAt.RcNeAt.lists (e := fun _ => true) p1.isList p2.isList rfl (by omega) (fun j h1 _ => absurd h1 (by simp)) _ _ _ _ ?_
    exact ⟨.bl false, H, I, rfl, q⟩
  | cons r t => exact SeqAt.RcNeAt.lists_lengths p1.isList p2.isList (by simp) (by omega) _ _ _ _ ⟨.bl true, H, I, rfl, q⟩
def listItems (x : D) (h : MH) : Option (List D) := match x with
  | .rol ds => some ds
  | .obj n => match h[n]? with
    | some (.lst ds) => some ds
    | _ => none
  | _ => none
def vNil (neg : Bool) (f : E D) : E D := fun env hp => (f env hp).bind fun x h => match listItems x h with
  | some ds => .ok (.bl (if neg then !ds.isEmpty else ds.isEmpty)) h
  | none => .err
def lNil (neg : Bool) (fl : E (List D)) : E D := fun env hp => (fl env hp).bind fun ds h => .ok (.bl (if neg then !ds.isEmpty else ds.isEmpty)) h
theorem empty_of {rr : List Addr} {H : Hp} {ds : List D} {vs : List V} (h : Reps X.K X.mg rr H ds vs) : vs.isEmpty = ds.isEmpty := by
  have := reps_len h
  cases ds <;> cases vs <;> simp_all
theorem nil_run {neg : Bool} {σ : L2.St} {H : Hp} {Q : VK} (h : tR X.K X.mg W (LV X.K X.mg) (vNil neg f) σ H Q) : tOp (rNil X.K neg) (tR X.K X.mg W (LV X.K X.mg) f) (tLst tNil) σ H Q := by
  obtain ⟨env, hp, rr, es, hh, q⟩ := h
  refine ⟨env, hp, rr, es, hh, Post.bind q fun x hp1 r1 H1 v e1 hr1 l1 q1 => ?_⟩
  refine ⟨Nat.zero_le _, fun b hb => ?_⟩
  split at q1
  · rename_i ds ed
    have hx : ∃ a vs, v = .ref a ∧ SqL X.K H1 a vs ∧ Reps X.K X.mg r1 H1 ds vs := by
      cases x <;> try cases ed
      · rename_i n
        obtain ⟨a, rfl, h1⟩ := rep_obj l1
        simp only [listItems] at ed
        split at ed
        · rename_i xs e2
          obtain ⟨a', g1, vs, ea, hv⟩ := hr1.obj _ _ e2
          rw [h1] at g1; cases g1
          cases ed
          exact ⟨a, vs, rfl, SqL.of ea, hv⟩
        · cases ed
      · unfold LV Rep at l1
        obtain ⟨a, vs, rfl, h1, h2⟩ := l1
        exact ⟨a, vs, rfl, h1.sq, h2⟩
    obtain ⟨a, vs, rfl, h1, h2⟩ := hx
    refine ⟨a, b, vs, rfl, rfl, sql_upd_new hb h1, SqL.of upd_same, ?_⟩
    rw [empty_of h2]
    exact q1 r1 _ _ (ext_new hb) (hr_new hr1 hb) of_bl
  · exact False.elim q1
theorem lnil_run {neg : Bool} {σ : L2.St} {H : Hp} {Q : VK} (h : tR X.K X.mg W (LV X.K X.mg) (lNil neg fl) σ H Q) : tOp (rNil X.K neg) (tR X.K X.mg W (LL X.K X.mg) fl) (tLst tNil) σ H Q := by
  obtain ⟨env, hp, rr, es, hh, q⟩ := h
  refine ⟨env, hp, rr, es, hh, Post.bind q fun ds hp1 r1 H1 v e1 hr1 l1 q1 => ?_⟩
  refine ⟨Nat.zero_le _, fun b hb => ?_⟩
  obtain ⟨a, vs, rfl, na, n0, ea, hv⟩ := l1
  refine ⟨a, b, vs, rfl, rfl, sql_upd_new hb (SqL.of ea), SqL.of upd_same, ?_⟩
  rw [empty_of hv]
  exact q1 r1 _ _ (ext_new hb) (hr_new hr1 hb) of_bl
variable {p2 : Pos}
theorem me_eqNil (hu : X.A.units + 64 < cLine) (ha : ME X W a f) : ME X W (.Compare a [.Eq] [.List [] p2] pos) (vNil false f) := PEm (pe_cmpR (op_eqNil hu) ha (pe_lst pa_nil) (nomark _)) fun σ H Q h => nil_run h
theorem me_neNil (hu : X.A.units + 64 < cLine) (ha : ME X W a f) : ME X W (.Compare a [.NotEq] [.List [] p2] pos) (vNil true f) := PEm (pe_cmpR (op_neNil hu) ha (pe_lst pa_nil) (nomark _)) fun σ H Q h => nil_run h
theorem me_eqNilL (hu : X.A.units + 64 < cLine) (ha : ML X W a fl) : ME X W (.Compare a [.Eq] [.List [] p2] pos) (lNil false fl) := PEm (pe_cmpR (op_eqNil hu) ha (pe_lst pa_nil) (nomark _)) fun σ H Q h => lnil_run h
theorem me_neNilL (hu : X.A.units + 64 < cLine) (ha : ML X W a fl) : ME X W (.Compare a [.NotEq] [.List [] p2] pos) (lNil true fl) := PEm (pe_cmpR (op_neNil hu) ha (pe_lst pa_nil) (nomark _)) fun σ H Q h => lnil_run h
theorem mt_eqNil (hu : X.A.units + 64 < cLine) (ha : ME X W a f) : MT X W (.Compare a [.Eq] [.List [] p2] pos) (vTest (vNil false f)) := PTm (pt_cmpR (op_eqNil hu) ha (pe_lst pa_nil) (nomark _)) fun σ H Q h => nil_run (test_run h)
theorem mt_neNil (hu : X.A.units + 64 < cLine) (ha : ME X W a f) : MT X W (.Compare a [.NotEq] [.List [] p2] pos) (vTest (vNil true f)) := PTm (pt_cmpR (op_neNil hu) ha (pe_lst pa_nil) (nomark _)) fun σ H Q h => nil_run (test_run h)
theorem mt_eqNilL (hu : X.A.units + 64 < cLine) (ha : ML X W a fl) : MT X W (.Compare a [.Eq] [.List [] p2] pos) (vTest (lNil false fl)) := PTm (pt_cmpR (op_eqNil hu) ha (pe_lst pa_nil) (nomark _)) fun σ H Q h => lnil_run (test_run h)
theorem mt_neNilL (hu : X.A.units + 64 < cLine) (ha : ML X W a fl) : MT X W (.Compare a [.NotEq] [.List [] p2] pos) (vTest (lNil true fl)) := PTm (pt_cmpR (op_neNil hu) ha (pe_lst pa_nil) (nomark _)) fun σ H Q h => lnil_run (test_run h)
end
end FT
end
section
set_option maxRecDepth 100000
namespace FT
open PySem L2
set_option autoImplicit false
section
variable {X : Cx} {W : WX} {e a b o : Expr} {f k fo : E D} {fl gl g : E (List D)} {pos p apos cpos : Pos}
/-! ### methods of lists -/
def pushM (x y : D) (h : MH) : R D := match x with
  | .obj n => match h[n]? with
    | some (.lst xs) => if xs.length < LIM then .ok .non (h.set n (.lst (xs ++ [y]))) else .err
    | _ => .err
  | _ => .err
def isLst (x : D) (h : MH) (k : R D) : R D := match lstOf x h with
  | some _ => k
  | none => .err
def vAppend (fo f : E D) : E D := fun env hp => (fo env hp).bind fun x h1 => isLst x h1 ((f env h1).bind fun y h2 => pushM x y h2)
theorem me_append (ho : ME X W o fo) (ha : ME X W e f)
    (hbase : attributeBase o "append" X.env (eval o X.env) = eval o X.env := by rfl)
    (hfew : ((backTo cpos (starEach [e] X.env)).all (fun x => !x.1) && (backToKw cpos (keywordEach [] X.env)).all (fun x => x.1.isSome)
      && decide (([e] : List Expr).length + ([] : List Keyword).length + (if ([] : List Keyword).isEmpty then 0 else 1) < 30)) = true := by rfl)
    (hline : (apos.endLine == cpos.line) = true := by rfl) (hs : starEach [e] X.env = (false, eval e X.env) :: starEach [] X.env := by rfl) (hplain : (backTo cpos (starEach [] X.env)).any (·.1) = false := by rfl) :
    ME X W (.Call (.Attribute o "append" apos) [e] [] cpos) (vAppend fo f) :=
  PEm (pe_bm PySem.F.plainAttrs_list PySem.F.slot_list_append PySem.F.type_list_append mt_append ho (pa_cons ha pa_nil hs) hbase hfew hline hs hplain) fun σ H Q h => by
    obtain ⟨env, hp, rr, es, hh, q⟩ := h
    refine ⟨env, hp, rr, es, hh, Post.bind q fun x hp1 r1 H1 v e1 hr1 l1 q1 => ?_⟩
    unfold isLst at q1
    split at q1
    · rename_i ds ed
      obtain ⟨q0, vs, n, rfl, rfl, g0, hn, ea, hv⟩ := lstOf_sq hr1 l1 ed
      refine ⟨.inl ⟨rfl, vs, SqL.of ea⟩, env, hp1, r1, es.mono e1, hr1, Post.bind q1 fun y hp2 r2 H2 w e2 hr2 l2 q2 => ?_⟩
      simp only [pushM] at q2
      split at q2
      · rename_i xs ex
        split at q2
        · rename_i hl
          obtain ⟨a', g1, ws, eb, hw⟩ := hr2.obj _ _ ex
          have g2 := e2.at g0
          rw [g2] at g1; cases g1
          obtain ⟨e3, hr3⟩ := hr_set hr2 g2 ex (reps_append hw (reps_cons l2 reps_nil))
          exact ⟨q0, ws, w, rfl, rfl, eb, by rw [reps_len hw]; exact hl, q2 r2 _ _ e3 hr3 of_non⟩
        · exact False.elim q2
      · exact False.elim q2
    · exact False.elim q1
/-- o.extend([..]) -/
def extM (x : D) (ys : List D) (h : MH) : R D := match x with
  | .obj n => match h[n]? with
    | some (.lst xs) => if xs.length + ys.length ≤ LIM then .ok .non (h.set n (.lst (xs ++ ys))) else .err
    | _ => .err
  | _ => .err
def vExtend (fo : E D) (fl : E (List D)) : E D := fun env hp => (fo env hp).bind fun x h1 => isLst x h1 ((fl env h1).bind fun ys h2 => extM x ys h2)
theorem me_extend (ho : ME X W o fo) (ha : ML X W e fl)
    (hbase : attributeBase o "extend" X.env (eval o X.env) = eval o X.env := by rfl)
    (hfew : ((backTo cpos (starEach [e] X.env)).all (fun x => !x.1) && (backToKw cpos (keywordEach [] X.env)).all (fun x => x.1.isSome)
      && decide (([e] : List Expr).length + ([] : List Keyword).length + (if ([] : List Keyword).isEmpty then 0 else 1) < 30)) = true := by rfl)
    (hline : (apos.endLine == cpos.line) = true := by rfl) (hs : starEach [e] X.env = (false, eval e X.env) :: starEach [] X.env := by rfl) (hplain : (backTo cpos (starEach [] X.env)).any (·.1) = false := by rfl) :
    ME X W (.Call (.Attribute o "extend" apos) [e] [] cpos) (vExtend fo fl) :=
  PEm (pe_bm PySem.F.plainAttrs_list PySem.F.slot_list_extend PySem.F.type_list_extend mt_extend ho (pa_cons ha pa_nil hs) hbase hfew hline hs hplain) fun σ H Q h => by
    obtain ⟨env, hp, rr, es, hh, q⟩ := h
    refine ⟨env, hp, rr, es, hh, Post.bind q fun x hp1 r1 H1 v e1 hr1 l1 q1 => ?_⟩
    unfold isLst at q1
    split at q1
    · rename_i ds ed
      obtain ⟨q0, vs, n, rfl, rfl, g0, hn, ea, hv⟩ := lstOf_sq hr1 l1 ed
      refine ⟨.inl ⟨rfl, vs, SqL.of ea⟩, env, hp1, r1, es.mono e1, hr1, Post.bind q1 fun ys hp2 r2 H2 w e2 hr2 l2 q2 => ?_⟩
      obtain ⟨b, us, rfl, nb, n0, eb2, hu⟩ := l2
      simp only [extM] at q2
      split at q2
      · rename_i xs ex
        split at q2
        · rename_i hl
          obtain ⟨a', g1, ws, eb, hw⟩ := hr2.obj _ _ ex
          have g2 := e2.at g0
          rw [g2] at g1; cases g1
          obtain ⟨e3, hr3⟩ := hr_set hr2 g2 ex (reps_append hw hu)
          exact ⟨q0, b, ws, us, rfl, rfl, eb, eb2, by rw [reps_len hw, reps_len hu]; exact hl, q2 r2 _ _ e3 hr3 of_non⟩
        · exact False.elim q2
      · exact False.elim q2
    · exact False.elim q1
/-- o.pop() -/
def popM (x : D) (h : MH) : R D := match x with
  | .obj n => match h[n]? with
    | some (.lst xs) => (match xs[xs.length - 1]? with
      | some y => .ok y (h.set n (.lst xs.dropLast))
      | none => .err)
    | _ => .err
  | _ => .err
def vPop (fo : E D) : E D := fun env hp => (fo env hp).bind fun x h1 => popM x h1
theorem reps_dropLast {K : PySem.W.Frag} {mg : Str → Option Value} {r : List Addr} {H : Hp} {ds : List D} {vs : List V} (h : Reps K mg r H ds vs) : Reps K mg r H ds.dropLast vs.dropLast := by
  rw [List.dropLast_eq_take, List.dropLast_eq_take, reps_len h]
  exact reps_take _ h
theorem me_pop (ho : ME X W o fo) (hbase : attributeBase o "pop" X.env (eval o X.env) = eval o X.env := by rfl) (hline : (apos.endLine == cpos.line) = true := by rfl) :
    ME X W (.Call (.Attribute o "pop" apos) [] [] cpos) (vPop fo) :=
  PEm (pe_bm0 PySem.F.plainAttrs_list PySem.F.slot_list_pop PySem.F.type_list_pop mt_pop ho hbase hline) fun σ H Q h => by
    obtain ⟨env, hp, rr, es, hh, q⟩ := h
    refine ⟨env, hp, rr, es, hh, Post.bind q fun x hp1 r1 H1 v e1 hr1 l1 q1 => ?_⟩
    cases x <;> try exact False.elim q1
    rename_i n
    obtain ⟨a, rfl, h1⟩ := rep_obj l1
    simp only [popM] at q1
    split at q1
    · rename_i xs ex
      split at q1
      · rename_i y ey
        obtain ⟨a', g1, ws, eb, hw⟩ := hr1.obj _ _ ex
        rw [h1] at g1; cases g1
        obtain ⟨w, ew, rw'⟩ := reps_get hw ey
        obtain ⟨e3, hr3⟩ := hr_set hr1 h1 ex (reps_dropLast hw)
        exact ⟨.inl ⟨rfl, ws, SqL.of eb⟩, a, ws, w, rfl, rfl, eb, by rw [reps_len hw]; exact ew, q1 r1 _ _ e3 hr3 (Rep.mono e3 y rw')⟩
      · exact False.elim q1
    · exact False.elim q1
/-! ### a, b = e -/
def sUnp (t : Tg) (f : E D) : S := fun env hp => (f env hp).toS env fun d h => match tgM t d env with
  | some env' => .next env' h
  | none => .err
theorem ms_unp {tg : Expr} {t : Tg} (he : ME X W e f) (hg : MG X tg t) (hs : swapsWithSole [tg] e pos.line X.env = pure false := by rfl) (hw : swappedStores [tg] e X.env = pure none := by rfl)
    (h1 : (assignEach [tg] X.env).map (·.2) = [assign tg X.env] := by rfl) : MS X W (.Assign [tg] e pos) (sUnp t f) := PSm (ps_asg he hg hs hw h1) fun Dn σ H h => by
  obtain ⟨env, hp, rr, es, hh, q⟩ := h
  refine ⟨env, hp, rr, es, hh, PostS.bind es q fun x hp1 r1 H1 v e1 hr1 l1 q1 => ?_⟩
  split at q1
  · rename_i env' ez
    exact tg_run ez (es.mono e1) l1 fun σ' es' _ => q1 r1 H1 σ' Ext.refl hr1 es'
  · exact False.elim q1
/-! ### a, b = x, y -/
def sPar (i j : Nat) (g : E (List D)) : S := fun env hp => (g env hp).toS env fun ds h => match ds with
  | [x, y] => .next ((env.set i (some x)).set j (some y)) h
  | _ => .err
theorem ms_par {i j : Nat} {x y : Str} {px py pt : Pos} {kt k2 pt2} (hc : X.calm = true) (hN : X.N.Nodup) (hi : X.N[i]? = some x) (hj : X.N[j]? = some y) (hij : i ≠ j)
    (hx : X.env.scope.names.lookup x = some .local) (hy : X.env.scope.names.lookup y = some .local) (ha : MA X W [a, b] g)
    (hw : swappedStores [.Tuple [.Name x px, .Name y py] kt pt] (.Tuple [a, b] k2 pt2) X.env = pure (some [x, y]))
    (hs : swapsWithSole [.Tuple [.Name x px, .Name y py] kt pt] (.Tuple [a, b] k2 pt2) pos.line X.env = pure false := by rfl) :
    MS X W (.Assign [.Tuple [.Name x px, .Name y py] kt pt] (.Tuple [a, b] k2 pt2) pos) (sPar i j g) := PSm (ps_par hc hN hi hj hij hx hy ha hw hs) fun Dn σ H h => by
  obtain ⟨env, hp, rr, es, hh, q⟩ := h
  refine ⟨env, hp, rr, es, hh, PostS.bind es q fun ds hp1 r1 H1 v e1 hr1 l1 q1 => ?_⟩
  split at q1
  · obtain ⟨v, w, rfl, h1, h2⟩ := reps2 l1
    exact ⟨v, w, rfl, q1 r1 H1 _ Ext.refl hr1 (((es.mono e1).set i h1).set j h2)⟩
  · exact False.elim q1
end
end FT
end
section
set_option maxRecDepth 100000
set_option maxHeartbeats 4000000
/-! sets of texts: made of a list, walked in whatever order, sorted -/
namespace FTS
open PySem PySem.Spec PyProof.Rows L2
def txtOf (e : Int × Value) : Str := match e.2 with
  | .str x _ => x
  | _ => Str.empty
def GoodT (w : World) (e : Int × Value) : Prop := ∃ x tk, e.2 = Value.str x tk ∧ e.1 = hashStr w x
/-- the set of the texts zs at a -/
structure TSet (w : World) (h : Heap) (a : Addr) (zs : List Str) : Prop where
  ex : ∃ (o : Obj) (es : Array (Int × Value)) (ep : Nat) (t : SetTable), h.get? a = some o ∧ o.ExactSet ∧ o.data = .set es ep t ∧ (∀ e ∈ es.toList, GoodT w e) ∧ es.toList.map txtOf = zs ∧ zs.Nodup ∧ es.size < scanBound ∧
    t.fits es.size = true ∧ Ris t.place.toList ∧ (w.params.followText "set-order" = true ∨ t.led = true)
section
variable {P : Program} {w : World} {A : Around} {E : Value → Shared → Prop} {s : Shared} {a : Addr} {zs : List Str}
theorem TSet.at {h h' : Heap} (T : TSet w h a zs) (k : ∀ o, h.get? a = some o → h'.get? a = some o) : TSet w h' a zs := by
  obtain ⟨o, es, ep, t, ho, r⟩ := T.ex
  exact ⟨o, es, ep, t, k o ho, r⟩
theorem good_el {l : List (Int × Value)} (g : ∀ e ∈ l, GoodT w e) : ElemsOf (PySem.strKind P w) l := fun e he => by
  obtain ⟨x, tk, h1, h2⟩ := g e he
  exact ⟨⟨x, by rw [h1]; exact strKind_is P w x tk, h2⟩, by rw [h1] <;> rfl⟩
theorem is_txt {e : Int × Value} (g : GoodT w e) (x : Str) : (PySem.strKind P w).is x e.2 = true ↔ txtOf e = x := by
  obtain ⟨y, tk, h1, _⟩ := g
  unfold txtOf
  rw [h1]
  constructor
  · intro h
    obtain ⟨t', e'⟩ := Value.isStrOf_shape (x := x) (v := Value.str y tk) h
    injection e' with e1 _
  · rintro rfl
    exact strKind_is P w _ tk
theorem mem_txt {l : List (Int × Value)} (g : ∀ e ∈ l, GoodT w e) (x : Str) : x ∈ l.map txtOf ↔ ∃ e ∈ l, (PySem.strKind P w).is x e.2 = true := by
  rw [List.mem_map]
  constructor
  · rintro ⟨e, he, q⟩; exact ⟨e, he, (is_txt (g e he) x).2 q⟩
  · rintro ⟨e, he, q⟩; exact ⟨e, he, (is_txt (g e he) x).1 q⟩
theorem tset_tail {g : Bool → Sem Unit} (hg : ∀ (b : Bool) (s₁ : Shared) (Q' : Unit → Shared → Prop), Q' () s₁ → wpAny (model P w) A (g b) Q' E s₁)
    {o : Obj} {es : Array (Int × Value)} {ep : Nat} {t : SetTable} (ho : s.heap.get? a = some o) (hex : o.ExactSet) (hd : o.data = .set es ep t)
    {es1 : Array (Int × Value)} {t2 : SetTable} (g1 : ∀ e ∈ es1.toList, GoodT w e) (nd1 : (es1.toList.map txtOf).Nodup)
    (hb1 : es1.size < scanBound) (hf2 : t2.fits es1.size = true) (hr : Ris t2.place.toList) (hl : w.params.followText "set-order" = true ∨ t2.led = true) {wasDummy : Bool} {R : Option Bool → Shared → Prop}
    (hR : ∀ h' zs', Heap.SameBut a s.heap h' → TSet w h' a zs' → zs'.Perm (es1.toList.map txtOf) → R (some true) { s with heap := h' }) :
    wpAny (model P w) A (do
        storeSet a es1 t2
        if (!wasDummy && t2.tooFull) = true then do
            g (relayAll t2 es1 (SetTable.grown es1.size)).2.2
            storeSet a (relayAll t2 es1 (SetTable.grown es1.size)).1 (relayAll t2 es1 (SetTable.grown es1.size)).2.1
            pure (some true)
          else pure (some true)) R E s := by
  refine wpAny_bind (wpAny_storeSet_of ho hd ?_ (fits_of_scanBound hb1))
  have w1 := store_at (es' := es1) (t' := t2) ho hd
  have w2 := Heap.SameBut.update s.heap a (Obj.putSet es1 t2)
  split
  · have pm := relayAll_perm t2 es1 (SetTable.grown es1.size)
    have ft := relayAll_fits t2 es1 (SetTable.grown es1.size)
    have ri := relayAll_ris t2 es1 (SetTable.grown es1.size)
    have le := relayAll_led t2 es1 (SetTable.grown es1.size)
    generalize relayAll t2 es1 (SetTable.grown es1.size) = zz at pm ft ri le ⊢
    obtain ⟨es2, t3, gave⟩ := zz
    dsimp only at pm ft ri le ⊢
    have sz : es2.size = es1.size := by rw [← Array.length_toList, pm.length_eq, Array.length_toList]
    have b2 : es2.size < scanBound := by rw [sz]; exact hb1
    refine wpAny_bind (hg _ _ _ ?_)
    refine wpAny_bind (wpAny_storeSet_of w1 rfl ?_ (fits_of_scanBound b2))
    have w3 := store_at (es' := es2) (t' := t3) w1 rfl
    refine wpAny_pure (hR _ (es2.toList.map txtOf) (w2.trans (Heap.SameBut.update _ a _)) ⟨_, es2, _, t3, w3, hex, rfl, fun e he => g1 e (pm.mem_iff.mp he), rfl, (pm.map txtOf).nodup_iff.mpr nd1, b2, ft, ri, ?_⟩ (pm.map txtOf))
    exact hl.imp id fun z => by rw [le]; exact z
  · exact wpAny_pure (hR _ _ w2 ⟨_, es1, _, t2, w1, hex, rfl, g1, rfl, nd1, hb1, hf2, hr, hl⟩ (List.Perm.refl _))
/-- one more text -/
theorem tset_add {x : Str} {tk : Tok} {Q : Bool → Shared → Prop} (T : TSet w s.heap a zs) (room : zs.length + 1 < scanBound)
    (hQ : ∀ h' zs' b, Heap.SameBut a s.heap h' → TSet w h' a zs' → (∀ y, y ∈ zs' ↔ y ∈ zs ∨ y = x) → zs'.length ≤ zs.length + 1 → Q b { s with heap := h' }) :
    wpAny (model P w) A (setAddHashed a (.str x tk) ((PySem.strKind P w).hash x)) Q E s := by
  obtain ⟨o, es, ep, t, ho, hex, hd, g, hz, nd, hb, hf, hr, hl⟩ := T.ex
  have k1 : (PySem.strKind P w).is x (.str x tk) = true := strKind_is P w x tk
  have k2 : (Value.str x tk).scannable = true := rfl
  have k3 : ElemsOf (PySem.strKind P w) es.toList := good_el g
  unfold setAddHashed setAddHashedIn
  refine wpAny_holding (wpAny_bind (wpAny_setState_of ho hd hf ?_))
  dsimp only
  rw [byScan_of k2 hb k3]
  simp only [↓reduceIte]
  unfold setAddByScan
  refine wpAny_bind ?_
  refine wpAny_bind (wpAny_rule ?_)
  refine wpAny_bind (wpAny_setScan_of k1 ho hd hf k3 ?_)
  cases hfi : List.findIdx? (fun e => (PySem.strKind P w).is x e.2) es.toList with
  | some j =>
    dsimp only
    obtain ⟨hj, pj, _⟩ := List.findIdx?_eq_some_iff_getElem.mp hfi
    have hin : x ∈ zs := by
      rw [← hz]
      exact (mem_txt (P := P) (w := w) g x).2 ⟨es.toList[j], List.getElem_mem hj, pj⟩
    exact wpAny_pure (wpAny_pure (hQ s.heap zs _ (Heap.SameBut.refl a s.heap) T (fun y => ⟨Or.inl, fun z => z.elim id fun e => e ▸ hin⟩) (Nat.le_succ _)))
  | none =>
    dsimp only
    have hno : x ∉ zs := fun z => by
      rw [← hz] at z
      obtain ⟨e, he, q⟩ := (mem_txt (P := P) (w := w) g x).1 z
      have c := List.findIdx?_eq_none_iff.mp hfi e he
      rw [q] at c
      cases c
    have hgw : ∀ (b : Bool) {s₁ : Shared} {Q' : Unit → Shared → Prop}, Q' () s₁ → wpAny (model P w) A (match b with | true => rule "set.scan.the-table-gave-way" | false => pure ()) Q' E s₁ := fun b s₁ Q' q => by
      cases b
      · exact wpAny_pure q
      · exact wpAny_rule q
    have pm := layNew_perm t es ((PySem.strKind P w).hash x) (.str x tk)
    have ft := layNew_fits t es ((PySem.strKind P w).hash x) (.str x tk)
    have ri := layNew_ris t es ((PySem.strKind P w).hash x) (.str x tk) hr
    have le := layNew_led t es ((PySem.strKind P w).hash x) (.str x tk)
    generalize layNew t es ((PySem.strKind P w).hash x) (.str x tk) = zz at pm ft ri le ⊢
    obtain ⟨es1, t1, wasDummy, gave⟩ := zz
    dsimp only at pm ft ri le ⊢
    rw [Array.toList_push] at pm
    have pc : es1.toList.Perm (((PySem.strKind P w).hash x, Value.str x tk) :: es.toList) := pm.trans (List.perm_append_singleton _ _)
    have pk : (es1.toList.map txtOf).Perm (x :: zs) := by
      rw [← hz]
      exact pc.map txtOf
    have g1 : ∀ e ∈ es1.toList, GoodT w e := fun e he => by
      rcases List.mem_cons.mp (pc.mem_iff.mp he) with z | z
      · rw [z]; exact ⟨x, tk, rfl, rfl⟩
      · exact g e z
    have nd1 : (es1.toList.map txtOf).Nodup := pk.nodup_iff.mpr (List.nodup_cons.mpr ⟨hno, nd⟩)
    have hzl : zs.length = es.size := by rw [← hz, List.length_map, Array.length_toList]
    have sz : es1.size = zs.length + 1 := by rw [← Array.length_toList, pc.length_eq, List.length_cons, Array.length_toList, hzl]
    have b1 : es1.size < scanBound := by rw [sz]; exact room
    have led1 : w.params.followText "set-order" = true ∨ t1.led = true := hl.imp id fun z => by rw [le]; exact z
    have fin : ∀ h' zs', Heap.SameBut a s.heap h' → TSet w h' a zs' → zs'.Perm (es1.toList.map txtOf) → Q true { s with heap := h' } := fun h' zs' sb T' pz =>
      hQ h' zs' _ sb T' (fun y => by rw [(pz.trans pk).mem_iff, List.mem_cons]; exact Or.comm) (by rw [(pz.trans pk).length_eq]; exact Nat.le_refl _)
    refine wpAny_bind (hgw _ ?_)
    split
    · refine wpAny_bind ?_
      rw [hashByValue_scannable 8 k2]
      refine wpAny_pure ?_
      refine tset_tail ?_ ho hex hd g1 nd1 b1 ?_ ?_ ?_ ?_
      · intro b s₁ Q' q; cases b <;> first | exact wpAny_pure q | exact wpAny_rule q
      · first | (split <;> first | exact ft | exact SetTable.fits_plain_off ft) | exact ft
      · first | (split <;> exact ri) | exact ri
      · first | (split <;> exact led1) | exact led1
      · intro h' zs' sb r pz; dsimp only; exact wpAny_pure (fin h' zs' sb r pz)
    · refine wpAny_bind (wpAny_pure ?_)
      simp only [↓reduceIte]
      refine tset_tail ?_ ho hex hd g1 nd1 b1 ft ri led1 ?_
      · intro b s₁ Q' q; cases b <;> first | exact wpAny_pure q | exact wpAny_rule q
      · intro h' zs' sb r pz; dsimp only; exact wpAny_pure (fin h' zs' sb r pz)
end
section
variable {prog : Program} {w : World} {A : Around} {R : Result → Shared → Prop} {I : Addr} {fp wr : List Addr} {G : Array GenState → Array GenState → Prop} {n : Nat} {P : Nat → Value → Prop} {St : Nat → Shared → Prop}
theorem tset_loop (W : WalksS prog w A.in1 I fp wr G n P St) (S : Addr) (hSf : S ∉ fp) (xs : List Str) (hsz : xs.length = n) (hfew : n < scanBound)
    (hval : ∀ i v, P i v → ∃ t x, xs[i]? = some x ∧ v = .str x t) :
    ∀ (k i : Nat) (s : Shared) (zs : List Str), n - i = k → i ≤ n → St i s → TSet w s.heap S zs → (∀ y, y ∈ zs ↔ y ∈ xs.take i) → zs.length ≤ i →
      (∀ s' zs', Moved (S :: wr) G s s' → TSet w s'.heap S zs' → (∀ y, y ∈ zs' ↔ y ∈ xs) → R (.ok (.ret .none)) s') →
      codeAny (model prog w) A (.builtin "set.update.loop" ⟨[.ref S, .ref I], []⟩) R s := by
  have nSw : S ∉ wr := fun h => hSf (W.sub _ h)
  have sub1 : ∀ b ∈ wr, b ∈ S :: wr := fun b hb => List.mem_cons_of_mem _ hb
  intro k
  induction k with
  | zero =>
    intro i s zs hk hi hst hS hm hl hR
    have hin : i = n := by omega
    subst hin
    refine codeAny_builtin F.entry_set_update_loop ?_
    rw [Around.under_plainId F.plain_set_update_loop _]
    show wpAny _ A.in1 (pyNext (.ref I) >>= _) _ _ s
    refine wpAny_bind (W.done s _ _ hst fun s' mv => ?_)
    show wpAny _ A.in1 (ret Value.none) _ _ s'
    refine wpAny_pure (hR s' zs (mv.mono sub1) (hS.at fun o e => mv.heap S _ nSw e) fun y => ?_)
    rw [hm y, ← hsz, List.take_length]
  | succ k ih =>
    intro i s zs hk hi hst hS hm hl hR
    have hlt : i < n := by omega
    refine codeAny_builtin F.entry_set_update_loop ?_
    rw [Around.under_plainId F.plain_set_update_loop _]
    show wpAny _ A.in1 (pyNext (.ref I) >>= _) _ _ s
    refine wpAny_bind (W.item i s _ _ hlt hst fun v s' hP hst' mv => ?_)
    obtain ⟨t, x, hx, rfl⟩ := hval i v hP
    have hS' : TSet w s'.heap S zs := hS.at fun o e => mv.heap S _ nSw e
    show wpAny _ A.in1 (holding [Value.str x t] (setAdd S (.str x t)) >>= _) _ _ s'
    refine wpAny_bind (wpAny_holding ?_)
    unfold setAdd
    refine wpAny_holding ?_
    refine wpAny_bind ((PySem.strKind prog w).pyHash (k := x) (strKind_is _ _ _ _) ?_)
    refine tset_add (s := { s' with toks := s'.toks + 1 }) hS' (by omega) fun h' zs' b sb T' hm' hl' => ?_
    have hm2 : ∀ y, y ∈ zs' ↔ y ∈ xs.take (i + 1) := fun y => by
      rw [hm' y, hm y, List.take_add_one, hx]
      simp
    refine wpAny_pure ⟨plainId_quiet F.plain_set_update_loop _, ih (i + 1) _ zs' (by omega) hlt (W.frame _ s' _ _ hst' (Nat.le_succ _) fun c hc o e => ?_) T' hm2 (by omega) fun s'' zs'' mv'' T'' hm'' => ?_⟩
    · rw [sb.2 c (fun h : c = S => hSf (by rw [← h]; exact hc))]; exact e
    · refine hR s'' zs'' (Moved.trans W.gtrans ((mv.mono sub1).then_heap (Nat.le_succ _) fun c o hc e => ?_) mv'') T'' hm''
      rw [sb.2 c (fun h : c = S => hc (by rw [h]; exact List.mem_cons_self))]; exact e
end
end FTS
end
section
set_option maxRecDepth 100000
set_option maxHeartbeats 4000000
namespace FTS
open PySem PySem.Spec PyProof.Rows L2
abbrev newS (w : World) : Obj := { cls := .type "set", dict := none, data := .set #[] 0 (.fresh 0 0 (!w.params.followText "set-order")) }
theorem tset_fresh {w : World} {h : Heap} {a : Addr} (ho : h.get? a = some (newS w)) : TSet w h a [] :=
  ⟨_, #[], 0, _, ho, ⟨rfl, rfl, rfl⟩, rfl, (fun e he => by simp at he), rfl, List.nodup_nil, (by decide), (by rfl), List.Pairwise.nil, by
    show _ ∨ (!w.params.followText "set-order") = true
    cases w.params.followText "set-order"
    · exact .inr rfl
    · exact .inl rfl⟩
section
variable {P : Program} {w : World} {A : Around} {E : Value → Shared → Prop} {s : Shared}
/-- set(xs), xs a list of texts -/
theorem call_set_texts {l : Addr} {items : Array Value} {xs : List Str} {Q : Value → Shared → Prop} (hh : A.handled = none) (hl : s.heap.IsList l items) (hit : StrsAre items.toList xs) (hfew : xs.length < scanBound)
    (h : ∀ (h' : Heap) (tk : Nat) (zs : List Str), TSet w h' s.heap.objs.size zs → (∀ y, y ∈ zs ↔ y ∈ xs) → (∀ b o, s.heap.get? b = some o → h'.get? b = some o) → Q (.ref s.heap.objs.size) { s with heap := h', toks := tk }) :
    wpAny (model P w) A (call (.type "set") [.ref l]) Q E s := by
  have hisz : xs.length = items.size := by rw [← StrsAre.len_eq hit, Array.length_toList]
  have hval : ∀ (i : Nat) (v : Value), items[i]? = some v → ∃ t x, xs[i]? = some x ∧ v = .str x t := fun i v hv => by
    have hv' : items.toList[i]? = some v := by rw [Array.getElem?_toList]; exact hv
    obtain ⟨t, e⟩ := SS.strs_at hit i v hv'
    have hi : i < xs.length := by
      rw [hisz]
      exact (Array.getElem?_eq_some_iff.mp hv).1
    exact ⟨t, xs[i], List.getElem?_eq_getElem hi, by rw [e, List.getD_eq_getElem?_getD, List.getElem?_eq_getElem hi]; rfl⟩
  obtain ⟨c, tl, hmro⟩ := F.called_set.mro
  have m1 := F.called_set.made
  have m2 := F.called_set.sub
  refine wpAny_call (codeAny_of_tree ?_)
  show wpAny _ _ (callAny (.type "set") _) _ _ _
  refine wpAny_pure ⟨Code.quiet_builtin _ (by decide +kernel), codeAny_builtin F.entry_type_call ?_⟩
  rw [Around.under_plain (weight_type_call_type "set" [.ref l] []) rfl]
  have m3 := F.called_set.notType
  have m4 := F.called_set.canCreate
  have m5 := F.typeCall_set_1 (.ref l)
  repeat (any_goals (first | assumption | wp_step))
  refine codeAny_mono (code_set_led1 (.ref l) (E := E) (Q₁ := fun obj s₁ => obj = .ref s.heap.objs.size ∧ s₁ = { s with heap := s.heap.push (newS w) }) ⟨rfl, rfl⟩) fun r s₁ hr => ?_
  cases r with
  | error e => exact hr
  | ok fl =>
    cases fl with
    | ret obj =>
      obtain ⟨rfl, rfl⟩ := hr
      have hS : (s.heap.push (newS w)).get? s.heap.objs.size = some (newS w) := Heap.get?_push_size _ rfl
      have hT : Shared.TypeIs { s with heap := s.heap.push (newS w) } (.ref s.heap.objs.size) "set" := ⟨_, hS, rfl⟩
      have m6 := F.called_set.init.lookup
      have m7 := F.called_set.init.bind (.ref s.heap.objs.size)
      repeat (any_goals (first | assumption | wp_step))
      refine codeAny_mono (codeAny_call_builtin (R := wants (fun r s₂ => r = .none ∧ ∃ h' tk zs, s₂ = { s with heap := h', toks := tk } ∧ TSet w h' s.heap.objs.size zs ∧ (∀ y, y ∈ zs ↔ y ∈ xs) ∧
          (∀ b o, s.heap.get? b = some o → h'.get? b = some o)) E) F.called_set.init.plain F.entry_set_init (check_set_init_1 hT ?_)) fun r₂ s₂ hr₂ => ?_
      · obtain ⟨ol, hol, hcl, nl, hdl⟩ := hl
        obtain ⟨ocls, odict, odata, oslots⟩ := ol
        simp only at hcl hdl
        subst hcl; subst hdl
        have hol' : (s.heap.push (newS w)).get? l = some { cls := .type "list", dict := odict, data := .seq items nl, slots := oslots } := Heap.get?_push_of_some _ hol
        have m8 := F.sub_list_set
        have m9 := F.sub_list_frozenset
        have m10 : (Value.type "list" == Value.type "dict") = false := by decide
        have hl1 : (s.heap.push (newS w)).IsList l items := ⟨_, hol', rfl, nl, rfl⟩
        unfold Builtin.«set.__init__» noKeywords Builtin.Frozenset.updateFrom
        generalize hPI : pyIter = PI
        wp_walk
        subst hPI
        refine wpAny_pyIter_list hl1 ?_
        refine wpAny_bind (wpAny_runValue ?_)
        have hlS : l < s.heap.objs.size := Heap.lt_size hol
        have hh3 : A.in1.in1.in1.handled = none := by simp [hh]
        have hneI : l ≠ (s.heap.push (newS w)).objs.size := by
          rw [Heap.size_push]; exact Nat.ne_of_lt (Nat.lt_succ_of_lt hlS)
        have hSf : s.heap.objs.size ∉ [(s.heap.push (newS w)).objs.size, l] := by
          rw [Heap.size_push]
          intro z
          rcases List.mem_cons.mp z with z | z
          · exact absurd z (Nat.ne_of_lt (Nat.lt_succ_self _))
          · exact absurd (List.mem_singleton.mp z) (Nat.ne_of_gt hlS)
        have hst0 : ((s.heap.push (newS w)).push { cls := .type "list_iterator", data := .fields #[.ref l, .int 0 0] }).get? s.heap.objs.size = some (newS w) := Heap.get?_push_of_some _ hS
        refine tset_loop ((Walks.list hh3 _ l hneI items).toS) s.heap.objs.size hSf xs hisz (by rw [← hisz]; exact hfew) hval (items.size - 0) 0 _ [] (by omega) (Nat.zero_le _)
          ⟨⟨_, Heap.get?_push_size _ rfl, rfl, rfl⟩, (hl1.push _)⟩ (tset_fresh hst0) (fun y => by simp) (Nat.le_refl _) ?_
        intro s' zs' mv T' hm'
        obtain ⟨h', g2, d', tk', os'⟩ := s'
        have eg : g2 = s.gens := mv.gens
        have ed : d' = s.drawn := mv.drawn
        have eo : os' = s.os := mv.os
        subst eg; subst ed; subst eo
        show wpAny _ _ _ _ _ _
        refine wpAny_pure ?_
        show wpAny _ _ (ret Value.none) _ _ _
        refine wpAny_pure ⟨rfl, h', tk', zs', rfl, T', hm', fun b o e => ?_⟩
        have hb := Heap.lt_size e
        refine mv.heap b o (fun z => ?_) (Heap.get?_push_of_some _ (Heap.get?_push_of_some _ e))
        rcases List.mem_cons.mp z with z | z
        · exact absurd z (Nat.ne_of_lt hb)
        · have z := List.mem_singleton.mp z
          rw [Heap.size_push] at z
          exact absurd z (Nat.ne_of_lt (Nat.lt_succ_of_lt hb))
      · cases r₂ with
        | error e => exact hr₂
        | ok fl₂ =>
          cases fl₂ with
          | ret r =>
            obtain ⟨rfl, h', tk, zs, rfl, T', hm', hk'⟩ := hr₂
            repeat (any_goals (first | assumption | wp_step))
            exact h _ _ _ T' hm' hk'
          | _ => exact hr₂.elim
    | _ => exact hr.elim
theorem strs_of_vals : ∀ (l : List Value), (∀ v ∈ l, ∃ x tk, v = Value.str x tk) → ∃ xs : List Str, PySem.W.EachIs (fun v x => ∃ t, v = Value.str x t) l xs ∧ xs = l.map fun v => txtOf (0, v)
  | [], _ => ⟨[], .nil, rfl⟩
  | v :: l, h => by
    obtain ⟨x, tk, rfl⟩ := h v List.mem_cons_self
    obtain ⟨xs, h1, h2⟩ := strs_of_vals l fun u hu => h u (List.mem_cons_of_mem _ hu)
    exact ⟨x :: xs, .cons ⟨tk, rfl⟩ h1, by rw [h2]; rfl⟩
theorem each_strs : ∀ {l : List Value} {xs : List Str}, PySem.W.EachIs (fun v x => ∃ t, v = Value.str x t) l xs → Vals (xs.map V.str) l
  | _, _, .nil => .nil
  | _, _, .cons ⟨t, e⟩ r => .cons ⟨t, e⟩ (each_strs r)
/-- sorted(a set of texts) -/
theorem sorted_tset {a : Addr} {zs : List Str} {Q : Value → Shared → Prop} (T : TSet w s.heap a zs) (hh : A.handled = none) (hu : A.units + 8 < cLine)
    (hQ : ∀ s' p (out : List Value) (c : Nat) (ys : List Str), (∀ b o, s.heap.get? b = some o → s'.heap.get? b = some o) → s'.gens = s.gens → s'.os = s.os → s.heap.objs.size ≤ p →
      s'.heap.get? p = some (seqObj "list" out.toArray c) → Vals (ys.map V.str) out → ys.Perm zs → ys.Pairwise (fun x y => x.cps.toList ≤ y.cps.toList) → Q (.ref p) s') :
    wpAny (model P w) A (call (.builtin "sorted") [.ref a]) Q E s := by
  obtain ⟨o, es, ep, t, ho, hex, hd, g, hz, nd, hb, hf, hr, hl⟩ := T.ex
  refine Calls.call_function_entry kind_sorted plain_sorted entry_sorted (args_sorted1 _) ?_
  unfold Builtin.«sorted»
  refine wpAny_bind (m := checkCount "sorted" 1 1 _) (wpAny_pure ?_)
  refine wpAny_bind (collect_set (A := A.in1) hh ⟨o, ho, hex.1, hd⟩ hf hb hr hl fun s1 vs k1 hz1 g1 o1 pm => ?_)
  have hvl : vs.length = es.size := by rw [pm.length_eq, List.length_map, Array.length_toList]
  obtain ⟨xs, ex, exs⟩ := strs_of_vals vs fun v hv => by
    obtain ⟨e, he, q⟩ := List.mem_map.mp (pm.mem_iff.mp hv)
    obtain ⟨x, tk, h1, _⟩ := g e he
    exact ⟨x, tk, by rw [← q]; exact h1⟩
  have pz : xs.Perm zs := by
    rw [exs, ← hz]
    have q := pm.map fun v => txtOf (0, v)
    rw [List.map_map] at q
    exact q
  have hxl : xs.length = es.size := by rw [← ex.length]; exact hvl
  refine wpAny_bind (wpAny_newList ?_ (by rw [hvl]; exact fits_of_scanBound hb))
  have hoL : (s1.heap.push (seqObj "list" vs.toArray 0)).get? s1.heap.objs.size = some (seqObj "list" vs.toArray 0) := Heap.get?_push_size _ rfl
  refine wpAny_bind (wpAny_holding (PySem.W.list_sort_data (s := { s1 with heap := s1.heap.push (seqObj "list" vs.toArray 0) }) (enc := PyData.str) (bs := xs) hoL ex ?_ ?_ ?_ (by rw [hxl]; exact fits_of_scanBound hb) ?_ fun out h1 h2 => ?_))
  · exact ex.mono fun v x ⟨t, e⟩ => ⟨[], by rw [e]; exact .str x t, by simp⟩
  · exact PySem.W.AllAlike.of fun _ _ => rfl
  · exact PySem.W.Sortable.others fun b => ⟨(fun z => nomatch z), fun xs z => nomatch z⟩
  · intro b _
    show A.in1.units + 1 + 0 < cLine
    have : A.in1.units ≤ A.units + 1 := by first | exact Nat.le_refl _ | (simp [Around.in1]) | omega
    omega
  · obtain ⟨c, hc⟩ := sortedHeap_at (vs := vs) (out := out.toArray) hoL
    rw [PySem.W.dataLe_str] at h2
    refine wpAny_pure ⟨_, rfl, hQ _ s1.heap.objs.size out c _ (fun b u e => ?_) g1 o1 hz1 hc (each_strs h2) ((List.mergeSort_perm _ _).trans pz) ?_⟩
    · have q := k1 b u e
      have hlt := Heap.lt_size q
      show (sortedHeap (s1.heap.push (seqObj "list" vs.toArray 0)) s1.heap.objs.size vs out.toArray).get? b = some u
      rw [sortedHeap_old (Nat.ne_of_lt hlt) (by rw [size_push']; exact Nat.lt_succ_of_lt hlt)]
      exact Heap.get?_push_of_some _ q
    · have sp := List.pairwise_mergeSort (le := fun a b : Str => decide (a.cps.toList ≤ b.cps.toList)) (fun a b c h1 h2 => decide_eq_true (List.le_trans (of_decide_eq_true h1) (of_decide_eq_true h2))) (fun a b => by
        rcases List.le_total a.cps.toList b.cps.toList with z | z
        · rw [decide_eq_true z]; rfl
        · rw [decide_eq_true z, Bool.or_true]) xs
      exact sp.imp fun h => of_decide_eq_true h
end
end FTS
end
section
set_option maxRecDepth 100000
namespace FT
open PySem L2
set_option autoImplicit false
/-! ### sorted(set(texts)) -/
def insU (x : List Nat) : List (List Nat) → List (List Nat)
  | [] => [x]
  | y :: r => if x = y then y :: r else if x < y then x :: y :: r else y :: insU x r
def sortU : List (List Nat) → List (List Nat)
  | [] => []
  | x :: r => insU x (sortU r)
theorem mem_insU (x z : List Nat) : ∀ l, z ∈ insU x l ↔ z = x ∨ z ∈ l
  | [] => by simp [insU]
  | y :: r => by
    unfold insU
    split
    · rename_i h; subst h; simp
    · split
      · simp
      · rw [List.mem_cons, mem_insU x z r, List.mem_cons]
        exact ⟨fun h => h.elim (fun h => .inr (.inl h)) fun h => h.elim .inl fun h => .inr (.inr h), fun h => h.elim (fun h => .inr (.inl h)) fun h => h.elim .inl fun h => .inr (.inr h)⟩
theorem mem_sortU (z : List Nat) : ∀ l, z ∈ sortU l ↔ z ∈ l
  | [] => by simp [sortU]
  | x :: r => by rw [sortU, mem_insU, mem_sortU z r, List.mem_cons]
theorem insU_lt (x : List Nat) : ∀ l : List (List Nat), l.Pairwise (· < ·) → (insU x l).Pairwise (· < ·)
  | [], _ => by simp [insU]
  | y :: r, h => by
    obtain ⟨h1, h2⟩ := List.pairwise_cons.mp h
    unfold insU
    split
    · exact h
    · rename_i hne
      split
      · rename_i hlt
        refine List.pairwise_cons.mpr ⟨fun z hz => ?_, h⟩
        rcases List.mem_cons.mp hz with e | e
        · rw [e]; exact hlt
        · exact List.lt_trans hlt (h1 z e)
      · rename_i hlt
        refine List.pairwise_cons.mpr ⟨fun z hz => ?_, insU_lt x r h2⟩
        rcases (mem_insU x z r).mp hz with e | e
        · rw [e]
          by_cases hq : y < x
          · exact hq
          · exact absurd (List.le_antisymm (List.not_lt.mp hq) (List.not_lt.mp hlt)) hne
        · exact h1 z e
theorem sortU_lt : ∀ l, (sortU l).Pairwise (· < ·)
  | [] => List.Pairwise.nil
  | x :: r => insU_lt x _ (sortU_lt r)
theorem sortU_one {ys l : List (List Nat)} (h1 : ys.Pairwise (· ≤ ·)) (h2 : ys.Nodup) (h3 : ∀ y, y ∈ ys ↔ y ∈ l) : ys = sortU l := by
  have n2 : (sortU l).Nodup := (sortU_lt l).imp fun {a b} (h : a < b) (e : a = b) => List.lt_irrefl b (e ▸ h)
  have pm : ys.Perm (sortU l) := (List.perm_ext_iff_of_nodup h2 n2).mpr fun y => by rw [h3 y, mem_sortU]
  exact List.Perm.eq_of_pairwise (le := (· ≤ ·)) (fun a b _ _ h h' => List.le_antisymm h h') h1 ((sortU_lt l).imp fun h => List.le_of_lt h) pm
section
variable {X : Cx} {W : WX} {e : Expr} {f : E D} {fl g : E (List D)} {pos p pos2 q2 : Pos}
def TxO (w : World) (a : Addr) (zs : List Str) : HO := .ext fun h => FTS.TSet w h a zs
theorem txO_ok {P : Program} {w : World} {H : Hp} {h : Heap} {a : Addr} {zs : List Str} (T : FTS.TSet w h a zs) : ObjOk P w H h a (TxO w a zs) :=
  ⟨T, let ⟨o, _, _, _, ho, _⟩ := T.ex; ⟨o, ho⟩, fun h1 h2 T1 k => T1.at k⟩
def rSetTx (K : PySem.W.Frag) (w : World) : List V → Hp → VK → Prop := fun xs H Q => ∃ (l : Addr) (ys : List Str), xs = [.ref l] ∧ SqL K H l (ys.map V.str) ∧ ys.length < scanBound ∧ ∀ (a : Addr) (zs : List Str), H a = none → (∀ y, y ∈ zs ↔ y ∈ ys) → Q (.ref a) (upd H a (TxO w a zs))
theorem cr_setTx (hc : X.calm = true) : CallR X (.type "set") (rSetTx X.K X.w) := by
  intro pins s σ H xs us Q I r h
  obtain ⟨l, ys, rfl, hs, hfew, q⟩ := h
  obtain ⟨its, rv, pl, _⟩ := I.list hs
  rw [Vals.ref1 r]
  refine FTS.call_set_texts (I.ok.hd hc) pl.isList (by simpa using rv.strs) hfew fun h' tk zs T hm kp => ?_
  exact ⟨.ref _, _, I.laid (t' := tk) kp (Nat.le_refl _) (txO_ok T), rfl, q _ zs (I.hok.fresh (Nat.le_refl _)) hm⟩
def rSortedTx (w : World) : List V → Hp → VK → Prop := fun vs H Q => ∃ (a : Addr) (zs : List Str), vs = [.ref a] ∧ H a = some (TxO w a zs) ∧ ∀ (ys : List Str) (p : Addr), ys.Perm zs → zs.Nodup → ys.Pairwise (fun x y => x.cps.toList ≤ y.cps.toList) → H p = none → Q (.ref p) (upd H p (.lst (ys.map V.str)))
theorem cr_sortedTx (hc : X.calm = true) (hu : X.A.units + 64 < cLine) : CallR X (.builtin "sorted") (rSortedTx X.w) := by
  intro pins s σ H vs us Q I r h
  obtain ⟨a, zs, rfl, ha, q⟩ := h
  rw [Vals.ref1 r]
  have T : FTS.TSet X.w s.heap a zs := (I.hok a _ ha).1
  have T' := T
  obtain ⟨o, es, ep, t, ho, hex, hd, g, hz, nd, hb, hf, hr, hl⟩ := T.ex
  refine FTS.sorted_tset T' (I.ok.hd hc) (by omega) fun s' p out c ys kp eg eo hp hget hv pm hs => ?_
  obtain ⟨h', g', d', t', o'⟩ := s'
  have e1 : g' = s.gens := eg
  have e2 : o' = s.os := eo
  subst e1 e2
  have hlen : (ys.map V.str).length ≤ sizeLine := by
    rw [List.length_map, pm.length_eq, ← hz, List.length_map, Array.length_toList]
    exact fits_of_scanBound hb
  have J : Inv X pins σ (upd H p (.lst (ys.map V.str))) { s with heap := h', toks := t', drawn := d' } := by
    have J0 := I.laid (t' := t') (o := .lst (ys.map V.str)) kp hp ⟨hlen, out, c, hv, hget⟩
    exact ⟨J0.ok, J0.os, J0.bare, J0.base, J0.loc, J0.cell, J0.free, J0.freeC, J0.pin, J0.hok, J0.len⟩
  exact ⟨.ref p, _, J, rfl, q ys p pm nd hs (I.hok.fresh hp)⟩
/-- what sorted(set(..)) makes of texts -/
def sortSet (ds : List D) (h : MH) : R (List D) := match strsOf ds with
  | some ps => if ps.length < 4096 then .ok ((sortU ps).map .str) h else .err
  | none => .err
theorem sortset_run {rr : List Addr} {H : Hp} {hp : MH} {σ : L2.St} {a : Addr} {ds : List D} {vs : List V} {Q : VK} (hr : HR X.K X.mg rr hp H) (hs : SqL X.K H a vs) (hv : Reps X.K X.mg rr H ds vs) (p : Post X.K X.mg W rr H σ (LL X.K X.mg) Q (sortSet ds hp)) :
    rSetTx X.K X.w [.ref a] H fun x H1 => rSortedTx X.w [x] H1 Q := by
  unfold sortSet at p
  split at p
  · rename_i ps ep
    split at p
    · rename_i hl
      obtain rfl := strsOf_eq ep
      obtain rfl := reps_strs hv
      have e2 : (ps.map fun s => V.str ⟨s.toArray⟩) = (ps.map fun q => (⟨q.toArray⟩ : Str)).map V.str := by rw [List.map_map]; rfl
      rw [e2] at hs
      refine ⟨a, _, rfl, hs, by rw [List.length_map]; exact hl, fun b zs hb hm => ?_⟩
      refine ⟨b, zs, rfl, upd_same, fun ys c pm nd hsort hc => ?_⟩
      have ey : (ys.map fun y => y.cps.toList) = sortU ps := by
        refine sortU_one (List.pairwise_map.mpr hsort) ?_ fun y => ?_
        · exact List.pairwise_map.mpr (((pm.nodup_iff).mpr nd).imp fun {x y} hne e => hne (by cases x; cases y; simp at e; rw [e]))
        · rw [List.mem_map]
          constructor
          · rintro ⟨z, hz, rfl⟩
            have := (hm z).mp (pm.mem_iff.mp hz)
            obtain ⟨w, hw, rfl⟩ := List.mem_map.mp this
            simpa using hw
          · intro hy
            exact ⟨⟨y.toArray⟩, pm.mem_iff.mpr ((hm _).mpr (List.mem_map.mpr ⟨y, hy, rfl⟩)), by simp⟩
      have hr1 := hr_new (o := TxO X.w b zs) hr hb
      have e1 := ext_new (K := X.K) (r := rr) (o := TxO X.w b zs) hb
      have e2 := ext_new (K := X.K) (r := rr) (o := HO.lst (ys.map V.str)) hc
      refine p rr _ (.ref c) (e1.trans e2) (hr_new hr1 hc) ⟨c, _, rfl, hr_nin hr1 hc, ?_, upd_same, ?_⟩
      · cases z : H c with
        | none => rfl
        | some o => rw [(e1.keep c o z (hr_nin hr1 hc)).2] at hc; cases hc
      · rw [← ey]
        have key : ∀ l : List Str, Reps X.K X.mg rr (upd (upd H b (TxO X.w b zs)) c (.lst (ys.map V.str))) ((l.map fun y => y.cps.toList).map .str) (l.map V.str) := fun l => by
          induction l with
          | nil => exact reps_nil
          | cons y l ih => exact reps_cons (by unfold Rep; cases y; simp) ih
        exact key ys
    · exact False.elim p
  · exact False.elim p
def lSortSetL (fl : E (List D)) : E (List D) := fun env hp => (fl env hp).bind fun ds h => sortSet ds h
def lSortSetV (f : E D) : E (List D) := fun env hp => (f env hp).bind fun x h => match lstOf x h with
  | some ds => sortSet ds h
  | none => .err
section
theorem ml_sortSetL (hc : X.calm = true) (hu : X.A.units + 64 < cLine) (hg : Gl X "sorted") (hm : X.mg "sorted" = none) (hv : bootBuiltins "sorted" = some (.builtin "sorted")) (hg2 : Gl X "set") (hm2 : X.mg "set" = none) (hv2 : bootBuiltins "set" = some (.type "set")) (ha : ML X W e fl)
    (he : starEach [e] X.env = (false, eval e X.env) :: starEach [] X.env := by rfl) (hpl : (backTo pos2 (starEach [] X.env)).any (·.1) = false := by rfl) (hpl1 : (backTo pos (starEach [] X.env)).any (·.1) = false := by rfl)
    (he2 : starEach [.Call (.Name "set" q2) [e] [] pos2] X.env = (false, eval (.Call (.Name "set" q2) [e] [] pos2) X.env) :: starEach [] X.env := by rfl) :
    ML X W (.Call (.Name "sorted" p) [.Call (.Name "set" q2) [e] [] pos2] [] pos) (lSortSetL fl) :=
  PEm (pe_callB (cr_sortedTx hc hu) hg hm hv (pa_cons (pe_callTy (cr_setTx hc) hg2 hm2 hv2 (pa_cons ha pa_nil he) (by decide) (by decide) he hpl) pa_nil he2) (by decide) (by decide) he2 hpl1) fun σ H Q h => by
    obtain ⟨env, hp, rr, es, hh, q⟩ := h
    refine ⟨env, hp, rr, es, hh, Post.bind q fun ds hp1 r1 H1 y e1 hr1 l q1 => ?_⟩
    obtain ⟨a, vs, rfl, na, n0, ea, hv⟩ := l
    exact sortset_run hr1 (SqL.of ea) hv q1
theorem ml_sortSetV (hc : X.calm = true) (hu : X.A.units + 64 < cLine) (hg : Gl X "sorted") (hm : X.mg "sorted" = none) (hv : bootBuiltins "sorted" = some (.builtin "sorted")) (hg2 : Gl X "set") (hm2 : X.mg "set" = none) (hv2 : bootBuiltins "set" = some (.type "set")) (ha : ME X W e f)
    (he : starEach [e] X.env = (false, eval e X.env) :: starEach [] X.env := by rfl) (hpl : (backTo pos2 (starEach [] X.env)).any (·.1) = false := by rfl) (hpl1 : (backTo pos (starEach [] X.env)).any (·.1) = false := by rfl)
    (he2 : starEach [.Call (.Name "set" q2) [e] [] pos2] X.env = (false, eval (.Call (.Name "set" q2) [e] [] pos2) X.env) :: starEach [] X.env := by rfl) :
    ML X W (.Call (.Name "sorted" p) [.Call (.Name "set" q2) [e] [] pos2] [] pos) (lSortSetV f) :=
  PEm (pe_callB (cr_sortedTx hc hu) hg hm hv (pa_cons (pe_callTy (cr_setTx hc) hg2 hm2 hv2 (pa_cons ha pa_nil he) (by decide) (by decide) he hpl) pa_nil he2) (by decide) (by decide) he2 hpl1) fun σ H Q h => by
    obtain ⟨env, hp, rr, es, hh, q⟩ := h
    refine ⟨env, hp, rr, es, hh, Post.bind q fun x hp1 r1 H1 y e1 hr1 l q1 => ?_⟩
    split at q1
    · rename_i ds ed
      obtain ⟨a, vs, n, rfl, _, _, _, ea, hv⟩ := lstOf_sq hr1 l ed
      exact sortset_run hr1 (SqL.of ea) hv q1
    · exact False.elim q1
end
end
end FT
end
section
set_option maxRecDepth 100000
namespace FT
open PySem L2
set_option autoImplicit false
section
variable {X : Cx} {W : WX} {e : Expr} {f : E D} {fl g : E (List D)} {pos p pos2 q2 : Pos}
theorem hu64 {A : Around} {k : Nat} (hr : Room k A) : A.units + 64 < cLine := by have := hr.un; omega
theorem hu65 {A : Around} {k : Nat} (hr : Room k A) : A.units + 65 < cLine := by have := hr.un; omega
/-- -3 -/
theorem me_negC {i : Int} {j : Nat} : ME X W (.UnaryOp .USub (.Constant (.int i) j q2) pos) (vC (.int (-i))) := PEm (pe_un un_neg pe_int) fun σ H Q h => by
  obtain ⟨env, hp, rr, es, hh, q⟩ := h
  exact ⟨i, rfl, q rr H _ Ext.refl hh of_int⟩
/-- tuple(x) -/
def tupV (ds : List D) (h : MH) : R D := match ds with
  | [.tup xs] => .ok (.tup xs) h
  | [.rol xs] => .ok (.tup xs) h
  | [.obj n] => match h[n]? with
    | some (.lst xs) => .ok (.tup xs) h
    | _ => .err
  | _ => .err
theorem v_tupV : PV X (fun xs H Q => ∃ p ys, xs = [.ref p] ∧ ((SqL X.K H p ys ∧ ∀ l, H l = none → Q (.ref l) (upd H l (.tup ys))) ∨ (SqT X.K H p ys ∧ Q (.ref p) H))) tupV := ⟨fun W σ rr H hp ds vs Q hr hv p => by
  unfold tupV at p
  split at p
  · obtain ⟨v, rfl, h1⟩ := reps1 hv
    obtain ⟨a, ws, rfl, h2, h3⟩ := rep_tup h1
    exact ⟨a, ws, rfl, .inr ⟨h2, post_at hr p h1⟩⟩
  · obtain ⟨v, rfl, h1⟩ := reps1 hv
    unfold Rep at h1
    obtain ⟨a, ws, rfl, h2, h3⟩ := h1
    exact ⟨a, ws, rfl, .inl ⟨h2.sq, fun l hl => post_tup hr p h3 hl⟩⟩
  · obtain ⟨v, rfl, h1⟩ := reps1 hv
    obtain ⟨a, rfl, h2⟩ := rep_obj h1
    split at p
    · rename_i xs ex
      obtain ⟨a', g1, ws, ea, hw⟩ := hr.obj _ _ ex
      rw [h2] at g1; cases g1
      exact ⟨a, ws, rfl, .inl ⟨SqL.of ea, fun l hl => post_tup hr p hw hl⟩⟩
    · exact False.elim p
  · exact False.elim p⟩
/-- the law's own promise -/
def spLaw (K : PySem.W.Frag) : Sp := fun vs H Q _ => ∃ (a : Addr) (ns : List Int), vs = [.ref a] ∧ SqL K H a (ns.map V.int) ∧ ns.length ≤ 63 ∧ Only H ∧ ∀ H', Q (.bl true) H'
theorem sp_law {K : PySem.W.Frag} {mg : Str → Option Value} {m : List D → MH → R D} (hm : ∀ ns : List Int, ns.length ≤ 63 → ∃ h, m [.rol (ns.map .int)] [] = .ok (.bl true) h) :
    ∀ vs H Q E, spLaw K vs H Q E → spM K mg 1 m vs H Q E := fun vs H Q E h => by
  obtain ⟨a, ns, rfl, hs, hl, ho, q⟩ := h
  obtain ⟨h', e⟩ := hm ns hl
  have hf : SqF K H a (ns.map V.int) := by
    rcases hs with (hs | ⟨o, hs⟩) | hs
    · rcases ho a with z | ⟨o, xs, z⟩
      · rw [z] at hs; cases hs
      · rw [z] at hs; cases hs
    · exact .inl ⟨o, hs⟩
    · exact .inr fun H' => .inr hs
  refine ⟨rfl, [.rol (ns.map .int)], [], [], ?_, ⟨rfl, List.nodup_nil, fun n o z => by simp at z⟩, ?_⟩
  · refine reps_cons ?_ reps_nil
    unfold Rep
    exact ⟨a, _, rfl, hf, of_ints⟩
  · rw [e]
    intro r' H' v _ _ rv
    rw [rep_bl rv]
    exact q H'
/-- nothing is promised where no call is left -/
theorem none_left {P : Program} {w : World} {K : PySem.W.Frag} {mg : Str → Option Value} {base : Heap} {f : Addr} {fd : FuncData} {ps : List Str} {n : Nat} : FnOk P w K mg base (L2.CX P w) 0 f fd ps (spM K mg n fun _ _ => .err) := by
  have no : ∀ vs H Q E, ¬ spM K mg n (fun _ _ => .err) vs H Q E := fun vs H Q E h => by
    obtain ⟨_, _, _, _, _, _, z⟩ := h
    exact z
  exact ⟨fun vs H Q E h => absurd h (no vs H Q E), fun A outer s H args us vs Q E _ _ _ _ h => absurd h (no vs H Q E)⟩
theorem fnM_len {n m : Nat} {b : S} : ∀ ds hp, ds.length ≠ n → fnM n m b ds hp = .err := fun ds hp h => by unfold fnM; rw [if_neg h]
end
def vJoinL (f : E D) (fl : E (List D)) : E D := fun env hp => (f env hp).bind fun s h1 => asStr s ((fl env h1).bind fun ds h2 => joinP s ds h2)
end FT
end
section
set_option maxRecDepth 100000
namespace FT
open PySem L2
set_option autoImplicit false
/-! ### what a mirror comes to -/
def OkP {a : Type} (x : R a) (Q : a → MH → Prop) : Prop := match x with
  | .ok v h => Q v h
  | _ => False
def OkSP (x : SR) (N : Ev → MH → Prop) (T : D → MH → Prop) : Prop := match x with
  | .next e h => N e h
  | .ret d h => T d h
  | _ => False
/-- the same, shut: what is run is not to be unfolded by the way -/
structure Ok {a : Type} (x : R a) (Q : a → MH → Prop) : Prop where
  wrap ::
  bare : OkP x Q
structure OkS (x : SR) (N : Ev → MH → Prop) (T : D → MH → Prop) : Prop where
  wrap ::
  bare : OkSP x N T
theorem ok_is : @Ok = @OkP := by funext a x Q; exact propext ⟨Ok.bare, Ok.wrap⟩
theorem okS_is : @OkS = @OkSP := by funext x N T; exact propext ⟨OkS.bare, OkS.wrap⟩
section
variable {a b : Type}
theorem Ok.ex {x : R a} {Q : a → MH → Prop} (h : Ok x Q) : ∃ v h', x = .ok v h' ∧ Q v h' := by
  cases x with
  | ok v h' => exact ⟨v, h', rfl, h.bare⟩
  | exc c h' => exact h.bare.elim
  | err => exact h.bare.elim
theorem w_ok {v : a} {h : MH} {Q : a → MH → Prop} : Ok (.ok v h) Q = Q v h := by rw [ok_is]; rfl
theorem w_err {Q : a → MH → Prop} : Ok (.err : R a) Q = False := by rw [ok_is]; rfl
theorem w_exc {c : Str} {h : MH} {Q : a → MH → Prop} : Ok (.exc c h : R a) Q = False := by rw [ok_is]; rfl
theorem Ok.of {x : R a} {Q : a → MH → Prop} {v : a} {h : MH} (e : x = .ok v h) (q : Q v h) : Ok x Q := by rw [e, w_ok]; exact q
theorem Ok.imp {x : R a} {Q Q' : a → MH → Prop} (h : Ok x Q) (k : ∀ v h, Q v h → Q' v h) : Ok x Q' := by
  obtain ⟨v, h', e, q⟩ := h.ex
  exact Ok.of e (k v h' q)
theorem w_snext {e : Ev} {h : MH} {N : Ev → MH → Prop} {T : D → MH → Prop} : OkS (.next e h) N T = N e h := by rw [okS_is]; rfl
theorem w_sret {d : D} {h : MH} {N : Ev → MH → Prop} {T : D → MH → Prop} : OkS (.ret d h) N T = T d h := by rw [okS_is]; rfl
theorem w_serr {N : Ev → MH → Prop} {T : D → MH → Prop} : OkS .err N T = False := by rw [okS_is]; rfl
theorem w_bind {x : R a} {k : a → MH → R b} {Q : b → MH → Prop} : Ok (x.bind k) Q = Ok x fun v h => Ok (k v h) Q := by cases x <;> simp only [R.bind, w_ok, w_err, w_exc]
theorem w_noX {x : R a} {Q : a → MH → Prop} : Ok x.noX Q = Ok x Q := by cases x <;> simp only [R.noX, w_ok, w_err, w_exc]
theorem w_toS {x : R a} {env : Ev} {k : a → MH → SR} {N : Ev → MH → Prop} {T : D → MH → Prop} : OkS (x.toS env k) N T = Ok x fun v h => OkS (k v h) N T := by
  cases x <;> simp only [R.toS, w_ok, w_err, w_exc]
  · rw [okS_is]; rfl
  · rw [okS_is]; rfl
end
section
variable {env : Ev} {hp : MH} {Q : D → MH → Prop} {QB : Bool → MH → Prop} {QL : List D → MH → Prop} {N : Ev → MH → Prop} {T : D → MH → Prop} {f g k : E D} {fb gb : E Bool} {fl gl : E (List D)} {s t : S}
theorem w_var {i : Nat} {d : D} (h : env[i]? = some (some d)) : Ok (vVar i env hp) Q = Q d hp := by unfold vVar; rw [h]; (first | rfl | (rw [ok_is]; rfl) | (rw [okS_is]; rfl) | (rw [ok_is, okS_is]; rfl))
theorem w_C {d : D} : Ok (vC d env hp) Q = Q d hp := by (first | rfl | (rw [ok_is]; rfl) | (rw [okS_is]; rfl) | (rw [ok_is, okS_is]; rfl))
theorem w_op2 {p : D → D → MH → R D} : Ok (op2 p f g env hp) Q = Ok (f env hp) fun x h1 => Ok (g env h1) fun y h2 => Ok (p x y h2) Q := by unfold op2; simp only [w_bind]
theorem w_asB {x : D} {kk : Bool → R D} : Ok (asB x kk) Q = match x with
    | .bl b => Ok (kk b) Q
    | _ => False := by cases x <;> (first | rfl | (rw [ok_is]; rfl) | (rw [okS_is]; rfl) | (rw [ok_is, okS_is]; rfl))
theorem w_op3 {p q : D → D → MH → R D} : Ok (op3 p q f g k env hp) Q = Ok (f env hp) fun x h1 => Ok (g env h1) fun y h2 => Ok (p x y h2) fun z h3 => Ok (asB z fun t => if t = true then (k env h3).bind fun w h4 => q y w h4 else .ok (.bl false) h3) Q := by unfold op3; simp only [w_bind]
theorem w_and : Ok (vAnd f g env hp) Q = Ok (f env hp) fun x h => Ok (asB x fun c => if c = true then g env h else .ok (.bl false) h) Q := by unfold vAnd; simp only [w_bind]
theorem w_or : Ok (vOr f g env hp) Q = Ok (f env hp) fun x h => Ok (asB x fun c => if c = true then .ok (.bl true) h else g env h) Q := by unfold vOr; simp only [w_bind]
theorem w_not : Ok (vNot f env hp) Q = Ok (f env hp) fun x h => Ok (asB x fun c => .ok (.bl (!c)) h) Q := by unfold vNot; simp only [w_bind]
theorem w_test : Ok (vTest f env hp) QB = Ok (f env hp) fun x h => match x with
    | .bl b => QB b h
    | _ => False := by
  unfold vTest
  rw [w_bind]
  congr 1
  funext x h
  cases x <;> (first | rfl | (rw [ok_is]; rfl) | (rw [okS_is]; rfl) | (rw [ok_is, okS_is]; rfl))
theorem w_bAnd : Ok (bAnd fb gb env hp) QB = Ok (fb env hp) fun x h => Ok (if x = true then gb env h else .ok false h) QB := by unfold bAnd; simp only [w_bind]
theorem w_bOr : Ok (bOr fb gb env hp) QB = Ok (fb env hp) fun x h => Ok (if x = true then .ok true h else gb env h) QB := by unfold bOr; simp only [w_bind]
theorem w_bNot : Ok (bNot fb env hp) QB = Ok (fb env hp) fun x h => QB (!x) h := by unfold bNot; simp only [w_bind, w_ok]
theorem w_if : Ok (vIf fb f g env hp) Q = Ok (fb env hp) fun x h => Ok (if x = true then f env h else g env h) Q := by unfold vIf; simp only [w_bind]
theorem w_lif : Ok (lIf fb fl gl env hp) QL = Ok (fb env hp) fun x h => Ok (if x = true then fl env h else gl env h) QL := by unfold lIf; simp only [w_bind]
theorem w_tup : Ok (vTup fl env hp) Q = Ok (fl env hp) fun ds h => Ok (if ds.length ≤ LIM then .ok (.tup ds) h else .err) Q := by unfold vTup; simp only [w_bind]
theorem w_lst : Ok (lLst fl env hp) QL = Ok (fl env hp) fun ds h => Ok (if ds.length ≤ LIM then .ok ds h else .err) QL := by unfold lLst; simp only [w_bind]
theorem w_alloc : Ok (vAlloc fl env hp) Q = Ok (fl env hp) fun ds h => Q (.obj h.length) (h ++ [.lst ds]) := by unfold vAlloc; simp only [w_bind, w_ok]
theorem w_vL {p : List D → MH → R D} : Ok (vL p fl env hp) Q = Ok (fl env hp) fun ds h => Ok (p ds h) Q := by unfold vL; simp only [w_bind]
theorem w_call {m : List D → MH → R D} : Ok (vCall m fl env hp) Q = Ok (fl env hp) fun ds h => Ok (m ds h) Q := by unfold vCall; simp only [w_bind]
theorem w_aNil : Ok (aNil env hp) QL = QL [] hp := by (first | rfl | (rw [ok_is]; rfl) | (rw [okS_is]; rfl) | (rw [ok_is, okS_is]; rfl))
theorem w_aCons : Ok (aCons f fl env hp) QL = Ok (f env hp) fun x h1 => Ok (fl env h1) fun xs h2 => QL (x :: xs) h2 := by unfold aCons; simp only [w_bind, w_ok]
theorem w_lCall {q : List D → MH → R (List D)} : Ok (lCall q fl env hp) QL = Ok (fl env hp) fun ds h => Ok (q ds h) QL := by unfold lCall; simp only [w_bind]
theorem w_append : Ok (vAppend f g env hp) Q = Ok (f env hp) fun x h1 => Ok (isLst x h1 ((g env h1).bind fun y h2 => pushM x y h2)) Q := by unfold vAppend; simp only [w_bind]
theorem w_isLst {x : D} {h : MH} {kk : R D} : Ok (isLst x h kk) Q = match lstOf x h with
    | some _ => Ok kk Q
    | none => False := by unfold isLst; cases lstOf x h <;> (first | rfl | (rw [ok_is]; rfl) | (rw [okS_is]; rfl) | (rw [ok_is, okS_is]; rfl))
theorem w_nil {neg : Bool} : Ok (vNil neg f env hp) Q = Ok (f env hp) fun x h => match listItems x h with
    | some ds => Q (.bl (if neg then !ds.isEmpty else ds.isEmpty)) h
    | none => False := by
  unfold vNil
  rw [w_bind]
  congr 1
  funext x h
  cases listItems x h <;> (first | rfl | (rw [ok_is]; rfl) | (rw [okS_is]; rfl) | (rw [ok_is, okS_is]; rfl))
theorem w_lnil {neg : Bool} : Ok (lNil neg fl env hp) Q = Ok (fl env hp) fun ds h => Q (.bl (if neg then !ds.isEmpty else ds.isEmpty)) h := by unfold lNil; simp only [w_bind, w_ok]
/-! statements -/
theorem w_seq : OkS (sSeq s t env hp) N T = OkS (s env hp) (fun e h => OkS (t e h) N T) T := by
  unfold sSeq
  cases s env hp <;> (first | rfl | (rw [ok_is]; rfl) | (rw [okS_is]; rfl) | (rw [ok_is, okS_is]; rfl))
theorem w_next : OkS (sNext env hp) N T = N env hp := by (first | rfl | (rw [ok_is]; rfl) | (rw [okS_is]; rfl) | (rw [ok_is, okS_is]; rfl))
theorem w_ret : OkS (sRet f env hp) N T = Ok (f env hp) T := by unfold sRet; rw [w_toS]; (first | rfl | (rw [ok_is]; rfl) | (rw [okS_is]; rfl) | (rw [ok_is, okS_is]; rfl))
theorem w_set {i : Nat} : OkS (sSet i f env hp) N T = Ok (f env hp) fun d h => N (env.set i (some d)) h := by unfold sSet; rw [w_toS]; (first | rfl | (rw [ok_is]; rfl) | (rw [okS_is]; rfl) | (rw [ok_is, okS_is]; rfl))
theorem w_expr : OkS (sExpr f env hp) N T = Ok (f env hp) fun _ h => N env h := by unfold sExpr; rw [w_toS]; (first | rfl | (rw [ok_is]; rfl) | (rw [okS_is]; rfl) | (rw [ok_is, okS_is]; rfl))
theorem w_sif : OkS (sIf fb s t env hp) N T = Ok (fb env hp) fun b h => OkS (if b = true then s env h else t env h) N T := by unfold sIf; rw [w_toS]
theorem w_sub : OkS (sSub f g k env hp) N T = Ok (k env hp) fun v h1 => Ok (f env h1) fun o h2 => Ok (g env h2) fun i h3 => match setM o i v h3 with
    | some h4 => N env h4
    | none => False := by
  unfold sSub
  rw [w_toS]
  congr 1
  funext v h1
  rw [w_toS]
  congr 1
  funext o h2
  rw [w_toS]
  congr 1
  funext i h3
  cases setM o i v h3 <;> (first | rfl | (rw [ok_is]; rfl) | (rw [okS_is]; rfl) | (rw [ok_is, okS_is]; rfl))
theorem w_unp {t : Tg} : OkS (sUnp t f env hp) N T = Ok (f env hp) fun d h => match tgM t d env with
    | some e => N e h
    | none => False := by
  unfold sUnp
  rw [w_toS]
  congr 1
  funext d h
  cases tgM t d env <;> (first | rfl | (rw [ok_is]; rfl) | (rw [okS_is]; rfl) | (rw [ok_is, okS_is]; rfl))
theorem w_fn {n m : Nat} {b : S} {ds : List D} (hl : ds.length = n) : Ok (fnM n m b ds hp) Q = OkS (b (ds.map some ++ List.replicate (m - n) none) hp) (fun _ h => Q .non h) Q := by
  unfold fnM
  rw [if_pos hl]
  cases b (ds.map some ++ List.replicate (m - n) none) hp <;> (first | rfl | (rw [ok_is]; rfl) | (rw [okS_is]; rfl) | (rw [ok_is, okS_is]; rfl))
end
/-! ### loops over items -/
section
variable {t : Tg} {body : S} {test : E Bool} {elt : E D} {env : Ev} {hp : MH} {N : Ev → MH → Prop} {T : D → MH → Prop} {QL : List D → MH → Prop}
/-- a loop over items, by what holds ahead of the rest -/
theorem w_for_items (I : List D → Ev → MH → Prop) {ds : List D} (h0 : I ds env hp)
    (hs : ∀ d r e h, I (d :: r) e h → ∃ e', tgM t d e = some e' ∧ OkS (body e' h) (fun e2 h2 => I r e2 h2) T) (hd : ∀ e h, I [] e h → N e h) :
    OkS (forGo (.items ds) t body (ds.length + 1) 0 env hp) N T := by
  have key : ∀ (k i : Nat) (e : Ev) (h : MH), k + i = ds.length → I (ds.drop i) e h → OkS (forGo (.items ds) t body (k + 1) i e h) N T := by
    intro k
    induction k with
    | zero =>
      intro i e h hk hI
      have : ds.length ≤ i := by omega
      rw [List.drop_eq_nil_of_le this] at hI
      unfold forGo
      simp only [Sc.nx, List.getElem?_eq_none this]
      rw [w_snext]
      exact hd e h hI
    | succ k ih =>
      intro i e h hk hI
      have hi : i < ds.length := by omega
      rw [List.drop_eq_getElem_cons hi] at hI
      obtain ⟨e', h1, h2⟩ := hs _ _ e h hI
      unfold forGo
      simp only [Sc.nx, List.getElem?_eq_getElem hi, h1]
      cases z : body e' h with
      | next e2 h3 =>
        rw [z] at h2
        rw [w_snext] at h2
        exact ih (i + 1) e2 h3 (by omega) h2
      | ret d h3 =>
        rw [z, w_sret] at h2
        show OkS (.ret d h3) N T
        rw [w_sret]
        exact h2
      | brk e2 h3 => rw [z] at h2; exact h2.bare.elim
      | cont e2 h3 => rw [z] at h2; exact h2.bare.elim
      | exc c e2 h3 => rw [z] at h2; exact h2.bare.elim
      | err => rw [z] at h2; exact h2.bare.elim
  exact key ds.length 0 env hp (by omega) (by simpa using h0)
theorem w_forS {src : E Sc} : OkS (sFor src t body env hp) N T = Ok (src env hp) fun sc h => OkS (forGo sc t body (sc.size h + 1) 0 env h) N T := by unfold sFor; rw [w_toS]
/-- a comprehension over items: one step -/
def lcL (t : Tg) (test : E Bool) (elt : E D) (env : Ev) : List D → MH → R (List D)
  | [], h => .ok [] h
  | d :: r, h => match tgM t d env with
    | none => .err
    | some env' => (test env' h).noX.bind fun b h1 => if b = true then (elt env' h1).noX.bind fun y h2 => (lcL t test elt env r h2).bind fun ys h3 => .ok (y :: ys) h3 else lcL t test elt env r h1
theorem lc_items {ds : List D} : lcGo (.items ds) t test elt env (ds.length + 1) 0 hp = lcL t test elt env ds hp := by
  have key : ∀ (k i : Nat) (h : MH), k + i = ds.length → lcGo (.items ds) t test elt env (k + 1) i h = lcL t test elt env (ds.drop i) h := by
    intro k
    induction k with
    | zero =>
      intro i h hk
      have : ds.length ≤ i := by omega
      rw [List.drop_eq_nil_of_le this]
      unfold lcGo
      simp only [Sc.nx, List.getElem?_eq_none this, lcL]
    | succ k ih =>
      intro i h hk
      have hi : i < ds.length := by omega
      rw [List.drop_eq_getElem_cons hi]
      unfold lcGo
      simp only [Sc.nx, List.getElem?_eq_getElem hi, lcL]
      cases tgM t ds[i] env with
      | none => rfl
      | some env' =>
        simp only [fun h => ih (i + 1) h (by omega)]
  have := key ds.length 0 hp (by omega)
  simpa using this
theorem w_lc {src : E Sc} {own : List Nat} : Ok (lcM src own t test elt env hp) QL = Ok (src env hp) fun sc h => Ok (if sc.size h < LIM then lcGo sc t test elt (wipeE env own) (sc.size h + 1) 0 h else .err) QL := by unfold lcM; rw [w_bind]
theorem w_lcI {ds : List D} (hl : ds.length < LIM) {env' : Ev} : Ok (if (Sc.items ds).size hp < LIM then lcGo (.items ds) t test elt env' ((Sc.items ds).size hp + 1) 0 hp else .err) QL = Ok (lcL t test elt env' ds hp) QL := by
  rw [if_pos (show (Sc.items ds).size hp < LIM from hl)]
  show Ok (lcGo (.items ds) t test elt env' (ds.length + 1) 0 hp) QL = _
  rw [lc_items]
/-- by what holds ahead of the rest and of what is made -/
theorem w_lcL (I : List D → List D → MH → Prop) : ∀ (ds acc : List D) (h : MH), I ds acc h →
    (∀ d r acc h, I (d :: r) acc h → ∃ e', tgM t d env = some e' ∧ Ok (test e' h) fun b h1 => if b = true then Ok (elt e' h1) fun y h2 => I r (acc ++ [y]) h2 else I r acc h1) →
    (∀ acc h, I [] acc h → QL acc h) → Ok (lcL t test elt env ds h) fun ys h' => QL (acc ++ ys) h'
  | [], acc, h, hI, hs, hd => by
    unfold lcL
    rw [w_ok, List.append_nil]
    exact hd acc h hI
  | d :: r, acc, h, hI, hs, hd => by
    obtain ⟨e', h1, h2⟩ := hs d r acc h hI
    unfold lcL
    simp only [h1, w_bind, w_noX]
    refine h2.imp fun b hb z => ?_
    cases b with
    | true =>
      simp only [if_true, w_bind, w_noX] at z ⊢
      refine z.imp fun y hy z2 => ?_
      have ih := w_lcL I r (acc ++ [y]) hy z2 hs hd
      refine ih.imp fun ys h' q => ?_
      rw [w_ok]
      rw [List.append_assoc] at q
      exact q
    | false =>
      simp only [Bool.false_eq_true, if_false] at z ⊢
      exact w_lcL I r acc hb z hs hd
end
end FT
end
section
set_option maxRecDepth 100000
namespace FT
open PySem L2
set_option autoImplicit false
theorem ok_congr {a : Type} {x y : R a} {Q : a → MH → Prop} (h : x = y) : Ok x Q = Ok y Q := by rw [h]
theorem okS_congr {x y : SR} {N : Ev → MH → Prop} {T : D → MH → Prop} (h : x = y) : OkS x N T = OkS y N T := by rw [h]
theorem ixN_nat {n j : Nat} (hj : j < n) : ixN n (j : Int) = some j := by
  unfold ixN
  rw [if_pos (by omega), if_pos (by omega), Int.toNat_natCast]
section
variable {m : Nat} {b : S} {x y z u v : D} {hp : MH} {Q : D → MH → Prop}
theorem w_fn1 : Ok (fnM 1 m b [x] hp) Q = OkS (b (some x :: List.replicate (m - 1) none) hp) (fun _ h => Q .non h) Q := w_fn rfl
theorem w_fn2 : Ok (fnM 2 m b [x, y] hp) Q = OkS (b (some x :: some y :: List.replicate (m - 2) none) hp) (fun _ h => Q .non h) Q := w_fn rfl
theorem w_fn3 : Ok (fnM 3 m b [x, y, z] hp) Q = OkS (b (some x :: some y :: some z :: List.replicate (m - 3) none) hp) (fun _ h => Q .non h) Q := w_fn rfl
theorem w_fn4 : Ok (fnM 4 m b [x, y, z, u] hp) Q = OkS (b (some x :: some y :: some z :: some u :: List.replicate (m - 4) none) hp) (fun _ h => Q .non h) Q := w_fn rfl
theorem w_fn5 : Ok (fnM 5 m b [x, y, z, u, v] hp) Q = OkS (b (some x :: some y :: some z :: some u :: some v :: List.replicate (m - 5) none) hp) (fun _ h => Q .non h) Q := w_fn rfl
end
section
variable {i j : Int} {s t : List Nat} {xs ys : List D} {h : MH} {x y z u : D} {e : Ev} {ox : Option D} {n c : Nat} {p q : Bool}
theorem v_0 : vVar 0 (some x :: e) h = .ok x h := (rfl)
theorem v_S : vVar (n + 1) (ox :: e) h = vVar n e h := by unfold vVar; rw [List.getElem?_cons_succ]
theorem q_add : addM (.int i) (.int j) h = .ok (.int (i + j)) h := (rfl)
theorem q_addT (hl : xs.length + ys.length ≤ LIM) : addM (.tup xs) (.tup ys) h = .ok (.tup (xs ++ ys)) h := if_pos hl
theorem q_addS (hl : s.length + t.length ≤ LIM) : addM (.str s) (.str t) h = .ok (.str (s ++ t)) h := if_pos hl
theorem q_sub : subM (.int i) (.int j) h = .ok (.int (i - j)) h := (rfl)
theorem q_mul (hm : mulOk i j = true) : mulM (.int i) (.int j) h = .ok (.int (i * j)) h := if_pos hm
theorem q_fdiv (h0 : 0 < j) (h1 : j < 1073741824) : fdivM (.int i) (.int j) h = .ok (.int (i / j)) h := if_pos ⟨h0, h1⟩
theorem q_mod (h0 : 0 < j) : modM (.int i) (.int j) h = .ok (.int (i % j)) h := if_pos h0
theorem q_pow (h0 : 0 ≤ j) (h1 : j ≤ 1000000) (h2 : i.natAbs < 2 ^ 64) : powM (.int i) (.int j) h = .ok (.int (i ^ j.toNat)) h := if_pos ⟨h0, h1, h2⟩
theorem q_eq : eqM (.int i) (.int j) h = .ok (.bl (decide (i = j))) h := (rfl)
theorem q_eqS : eqM (.str s) (.str t) h = .ok (.bl (decide (s = t))) h := (rfl)
theorem q_eqB : eqM (.bl p) (.bl q) h = .ok (.bl (decide (p = q))) h := (rfl)
theorem q_ne : neM (.int i) (.int j) h = .ok (.bl (!decide (i = j))) h := (rfl)
theorem q_neS : neM (.str s) (.str t) h = .ok (.bl (!decide (s = t))) h := (rfl)
theorem q_neB : neM (.bl p) (.bl q) h = .ok (.bl (!decide (p = q))) h := (rfl)
theorem q_lt : ltM (.int i) (.int j) h = .ok (.bl (decide (i < j))) h := (rfl)
theorem q_ltS : ltM (.str s) (.str t) h = .ok (.bl (decide (s < t))) h := (rfl)
theorem q_le : leM (.int i) (.int j) h = .ok (.bl (decide (i ≤ j))) h := (rfl)
theorem q_gt : gtM (.int i) (.int j) h = .ok (.bl (decide (j < i))) h := (rfl)
theorem q_ge : geM (.int i) (.int j) h = .ok (.bl (decide (j ≤ i))) h := (rfl)
theorem q_in1 : inM (.str [n]) (.str s) h = .ok (.bl (decide (n ∈ s))) h := (rfl)
theorem q_nin1 : notInM (.str [n]) (.str s) h = .ok (.bl (!decide (n ∈ s))) h := (rfl)
theorem q_isN : isM x .non h = .ok (.bl x.isN) h := by cases x <;> (first | rfl | (rw [ok_is]; rfl) | (rw [okS_is]; rfl) | (rw [ok_is, okS_is]; rfl))
theorem q_isnN : isNotM x .non h = .ok (.bl (!x.isN)) h := by cases x <;> (first | rfl | (rw [ok_is]; rfl) | (rw [okS_is]; rfl) | (rw [ok_is, okS_is]; rfl))
theorem q_isB : isM (.bl p) (.bl q) h = .ok (.bl (decide (p = q))) h := (rfl)
theorem q_isnB : isNotM (.bl p) (.bl q) h = .ok (.bl (!decide (p = q))) h := (rfl)
theorem q_isiI0 : isiP [.int i, .ty 0] h = .ok (.bl true) h := (rfl)
theorem q_isiI1 : isiP [.int i, .ty 1] h = .ok (.bl false) h := (rfl)
theorem q_isiI2 : isiP [.int i, .ty 2] h = .ok (.bl false) h := (rfl)
theorem q_isiI3 : isiP [.int i, .ty 3] h = .ok (.bl false) h := (rfl)
theorem q_isiI4 : isiP [.int i, .ty 4] h = .ok (.bl false) h := (rfl)
theorem q_isiI5 : isiP [.int i, .ty 5] h = .ok (.bl false) h := (rfl)
theorem q_isiB0 : isiP [.bl p, .ty 0] h = .ok (.bl true) h := (rfl)
theorem q_isiB1 : isiP [.bl p, .ty 1] h = .ok (.bl true) h := (rfl)
theorem q_isiB2 : isiP [.bl p, .ty 2] h = .ok (.bl false) h := (rfl)
theorem q_isiB3 : isiP [.bl p, .ty 3] h = .ok (.bl false) h := (rfl)
theorem q_isiB4 : isiP [.bl p, .ty 4] h = .ok (.bl false) h := (rfl)
theorem q_isiB5 : isiP [.bl p, .ty 5] h = .ok (.bl false) h := (rfl)
theorem q_isiS0 : isiP [.str s, .ty 0] h = .ok (.bl false) h := (rfl)
theorem q_isiS1 : isiP [.str s, .ty 1] h = .ok (.bl false) h := (rfl)
theorem q_isiS2 : isiP [.str s, .ty 2] h = .ok (.bl true) h := (rfl)
theorem q_isiS3 : isiP [.str s, .ty 3] h = .ok (.bl false) h := (rfl)
theorem q_isiS4 : isiP [.str s, .ty 4] h = .ok (.bl false) h := (rfl)
theorem q_isiS5 : isiP [.str s, .ty 5] h = .ok (.bl false) h := (rfl)
theorem q_isiT0 : isiP [.tup xs, .ty 0] h = .ok (.bl false) h := (rfl)
theorem q_isiT1 : isiP [.tup xs, .ty 1] h = .ok (.bl false) h := (rfl)
theorem q_isiT2 : isiP [.tup xs, .ty 2] h = .ok (.bl false) h := (rfl)
theorem q_isiT3 : isiP [.tup xs, .ty 3] h = .ok (.bl true) h := (rfl)
theorem q_isiT4 : isiP [.tup xs, .ty 4] h = .ok (.bl false) h := (rfl)
theorem q_isiT5 : isiP [.tup xs, .ty 5] h = .ok (.bl false) h := (rfl)
theorem q_isiR0 : isiP [.rol xs, .ty 0] h = .ok (.bl false) h := (rfl)
theorem q_isiR1 : isiP [.rol xs, .ty 1] h = .ok (.bl false) h := (rfl)
theorem q_isiR2 : isiP [.rol xs, .ty 2] h = .ok (.bl false) h := (rfl)
theorem q_isiR3 : isiP [.rol xs, .ty 3] h = .ok (.bl false) h := (rfl)
theorem q_isiR4 : isiP [.rol xs, .ty 4] h = .ok (.bl true) h := (rfl)
theorem q_isiR5 : isiP [.rol xs, .ty 5] h = .ok (.bl false) h := (rfl)
theorem q_isiN0 : isiP [.non, .ty 0] h = .ok (.bl false) h := (rfl)
theorem q_isiN1 : isiP [.non, .ty 1] h = .ok (.bl false) h := (rfl)
theorem q_isiN2 : isiP [.non, .ty 2] h = .ok (.bl false) h := (rfl)
theorem q_isiN3 : isiP [.non, .ty 3] h = .ok (.bl false) h := (rfl)
theorem q_isiN4 : isiP [.non, .ty 4] h = .ok (.bl false) h := (rfl)
theorem q_isiN5 : isiP [.non, .ty 5] h = .ok (.bl false) h := (rfl)
theorem q_lenS (hl : s.length ≤ LIM) : lenV [.str s] h = .ok (.int s.length) h := if_pos hl
theorem q_lenT : lenV [.tup xs] h = .ok (.int xs.length) h := (rfl)
theorem q_lenR : lenV [.rol xs] h = .ok (.int xs.length) h := (rfl)
theorem q_min2 : min2P [.int i, .int j] h = .ok (.int (if j < i then j else i)) h := (rfl)
theorem q_max2 : max2P [.int i, .int j] h = .ok (.int (if i < j then j else i)) h := (rfl)
theorem q_strS : strP [.str s] h = .ok (.str s) h := (rfl)
theorem q_tupP : tupP xs h = .ok (.tup xs) h := (rfl)
end
section
variable {env : Ev} {hp : MH} {Q : D → MH → Prop} {QL : List D → MH → Prop} {QS : Sc → MH → Prop} {f g : E D} {fl gl : E (List D)} {lo hi : Option (E D)}
theorem w_join : Ok (vJoinL f fl env hp) Q = Ok (f env hp) fun s h1 => match s with
    | .str s => Ok (fl env h1) fun ds h2 => Ok (joinP (.str s) ds h2) Q
    | _ => False := by
  unfold vJoinL
  rw [w_bind]
  congr 1
  funext x h
  cases x <;> first | (first | rfl | (rw [ok_is]; rfl) | (rw [okS_is]; rfl) | (rw [ok_is, okS_is]; rfl)) | (simp only [asStr, w_bind]; done)
theorem w_vSrc : Ok (vSrc f env hp) QS = Ok (f env hp) fun x h => Ok (srcOf x h) QS := by unfold vSrc; rw [w_bind]
theorem w_aSrc {q : List D → MH → R Sc} : Ok (aSrc q fl env hp) QS = Ok (fl env hp) fun x h => Ok (q x h) QS := by unfold aSrc; rw [w_bind]
theorem w_lSrc : Ok (lSrc fl env hp) QS = Ok (fl env hp) fun ds h => QS (.items ds) h := by unfold lSrc; rw [w_bind]; (first | rfl | (rw [ok_is]; rfl) | (rw [okS_is]; rfl) | (rw [ok_is, okS_is]; rfl))
theorem w_catLL : Ok (catLL fl gl env hp) QL = Ok (fl env hp) fun xs h1 => Ok (gl env h1) fun ys h2 => Ok (if xs.length + ys.length ≤ LIM then .ok (xs ++ ys) h2 else .err) QL := by unfold catLL; simp only [w_bind]
theorem w_catOL : Ok (catOL f gl env hp) QL = Ok (f env hp) fun x h1 => Ok (gl env h1) fun ys h2 => match lstOf x h2 with
    | some xs => Ok (if xs.length + ys.length ≤ LIM then .ok (xs ++ ys) h2 else .err) QL
    | none => False := by
  unfold catOL
  simp only [w_bind]
  congr 1
  funext x h
  congr 1
  funext y h2
  cases lstOf x h2 <;> (first | rfl | (rw [ok_is]; rfl) | (rw [okS_is]; rfl) | (rw [ok_is, okS_is]; rfl))
theorem w_repL : Ok (repL fl g env hp) QL = Ok (fl env hp) fun xs h1 => Ok (g env h1) fun y h2 => match y with
    | .int k => Ok (if -(2 ^ 63) ≤ k ∧ k < 2 ^ 63 ∧ xs.length * k.toNat ≤ LIM then .ok (List.replicate k.toNat xs).flatten h2 else .err) QL
    | _ => False := by
  unfold repL
  simp only [w_bind]
  congr 1
  funext x h
  congr 1
  funext y h2
  cases y <;> (first | rfl | (rw [ok_is]; rfl) | (rw [okS_is]; rfl) | (rw [ok_is, okS_is]; rfl))
theorem w_sortV : Ok (lSortSetV f env hp) QL = Ok (f env hp) fun x h => match lstOf x h with
    | some ds => Ok (sortSet ds h) QL
    | none => False := by
  unfold lSortSetV
  simp only [w_bind]
  congr 1
  funext x h
  cases lstOf x h <;> (first | rfl | (rw [ok_is]; rfl) | (rw [okS_is]; rfl) | (rw [ok_is, okS_is]; rfl))
theorem w_asI {x : D} {kk : Int → R D} : Ok (asI x kk) Q = match x with
    | .int i => Ok (kk i) Q
    | _ => False := by cases x <;> (first | rfl | (rw [ok_is]; rfl) | (rw [okS_is]; rfl) | (rw [ok_is, okS_is]; rfl))
theorem w_slE0 {h : MH} {kk : Option Int → MH → R D} : Ok (slE none env h kk) Q = Ok (kk none h) Q := by (first | rfl | (rw [ok_is]; rfl) | (rw [okS_is]; rfl) | (rw [ok_is, okS_is]; rfl))
theorem w_slE1 {h : MH} {kk : Option Int → MH → R D} : Ok (slE (some f) env h kk) Q = Ok (f env h) fun x h => Ok (asI x fun i => kk (some i) h) Q := by unfold slE; simp only [w_bind]
theorem w_sl : Ok (vSl f lo hi env hp) Q = Ok (f env hp) fun x h1 => Ok (slE lo env h1 fun l h2 => slE hi env h2 fun u h3 => slM x l u h3) Q := by unfold vSl; simp only [w_bind]
theorem q_srcT {ds : List D} {h : MH} : srcOf (.tup ds) h = .ok (.items ds) h := (rfl)
theorem q_srcS {s : List Nat} {h : MH} : srcOf (.str s) h = .ok (.items (s.map fun c => .str [c])) h := (rfl)
theorem q_srcR {ds : List D} {h : MH} : srcOf (.rol ds) h = .ok (.items ds) h := (rfl)
theorem q_rng1 {j : Int} {h : MH} (h0 : -1000 ≤ j) (h1 : j ≤ 1000000) : rng1 [.int j] h = .ok (.items (upTo 0 j.toNat)) h := if_pos (by omega)
theorem q_zipT {xs ys : List D} {h : MH} : zipT [.tup xs, .tup ys] h = .ok (.items (zipD xs ys)) h := (rfl)
theorem q_slT {ds : List D} {h : MH} {l u : Option Int} : slM (.tup ds) l u h = .ok (.tup (cutL ds l u)) h := (rfl)
theorem q_slS {s : List Nat} {h : MH} {l u : Option Int} (hl : s.length ≤ LIM) : slM (.str s) l u h = .ok (.str (cutL s l u)) h := if_pos hl
theorem cut_take {t : Type} {xs : List t} {n : Nat} : cutL xs none (some (n : Int)) = xs.take n := by
  unfold cutL
  rw [HT.sIx_none, HT.sIx_nat, List.drop_zero, Nat.sub_zero]
  rcases Nat.le_total n xs.length with h | h
  · rw [Nat.min_eq_left h]
  · rw [Nat.min_eq_right h, List.take_length, List.take_of_length_le h]
theorem cut_drop {t : Type} {xs : List t} {n : Nat} : cutL xs (some (n : Int)) none = xs.drop n := by
  unfold cutL
  rw [HT.sIx_none, HT.sIx_nat]
  rcases Nat.le_total n xs.length with h | h
  · rw [Nat.min_eq_left h, List.take_of_length_le (by simp)]
  · rw [Nat.min_eq_right h, List.drop_length, List.drop_of_length_le h]; simp
theorem upTo_len : ∀ (n : Nat) (lo : Int), (upTo lo n).length = n
  | 0, _ => rfl
  | n + 1, lo => by simp [upTo, upTo_len n]
end
section
variable {elt : E D} {env : Ev} {hp : MH} {QL : List D → MH → Prop} {i : Nat} {body : S} {N : Ev → MH → Prop} {T : D → MH → Prop}
/-- [elt for i in range(n)] by what holds after j turns -/
theorem lc_rng {n : Nat} (I : Nat → List D → MH → Prop) (h0 : I 0 [] hp) (hs : ∀ j acc h, j < n → I j acc h → Ok (elt (env.set i (some (.int j))) h) fun y h2 => I (j + 1) (acc ++ [y]) h2) (hd : ∀ acc h, I n acc h → QL acc h) :
    Ok (lcL (.nm i) bTrue elt env (upTo 0 n) hp) QL := by
  have key : ∀ (m j : Nat) (acc : List D) (h : MH), j + m = n → I j acc h → Ok (lcL (.nm i) bTrue elt env (upTo j m) h) fun ys h' => QL (acc ++ ys) h' := by
    intro m
    induction m with
    | zero =>
      intro j acc h hj hI
      rw [show j = n by omega] at hI
      show Ok (.ok [] h) _
      rw [w_ok, List.append_nil]
      exact hd acc h hI
    | succ m ih =>
      intro j acc h hj hI
      unfold upTo lcL
      simp only [tgM, bTrue, w_bind, w_noX, w_ok, if_true]
      refine (hs j acc h (by omega) hI).imp fun y h2 hy => ?_
      have := ih (j + 1) (acc ++ [y]) h2 (by omega) hy
      rw [show ((j + 1 : Nat) : Int) = (j : Int) + 1 by omega] at this
      refine this.imp fun ys h' q => ?_
      rw [List.append_assoc] at q
      exact q
  have := key n 0 [] hp (by omega) h0
  simpa using this
/-- for i in range(n) -/
theorem for_rng {n : Nat} (I : Nat → Ev → MH → Prop) (h0 : I 0 env hp) (hs : ∀ j e h, j < n → I j e h → OkS (body (e.set i (some (.int j))) h) (fun e2 h2 => I (j + 1) e2 h2) T) (hd : ∀ e h, I n e h → N e h) :
    OkS (forGo (.items (upTo 0 n)) (.nm i) body ((Sc.items (upTo 0 n)).size hp + 1) 0 env hp) N T := by
  show OkS (forGo (.items (upTo 0 n)) (.nm i) body ((upTo 0 n).length + 1) 0 env hp) N T
  refine w_for_items (fun r e h => ∃ j, j + r.length = n ∧ r = upTo j r.length ∧ I j e h) ⟨0, by rw [upTo_len]; omega, by rw [upTo_len]; rfl, h0⟩ ?_ ?_
  · rintro d r e h ⟨j, h1, h2, h3⟩
    simp only [List.length_cons, upTo, List.cons.injEq] at h1 h2
    refine ⟨_, rfl, ?_⟩
    rw [h2.1]
    have := hs j e h (by omega) h3
    revert this
    cases body (e.set i (some (.int j))) h with
    | next e2 hh =>
      rw [w_snext, w_snext]
      exact fun q => ⟨j + 1, by omega, by rw [show ((j + 1 : Nat) : Int) = (j : Int) + 1 by omega]; exact h2.2, q⟩
    | ret d hh => rw [w_sret, w_sret]; exact fun q => q
    | brk e2 hh => exact fun q => q.bare.elim
    | cont e2 hh => exact fun q => q.bare.elim
    | exc c e2 hh => exact fun q => q.bare.elim
    | err => exact fun q => q.bare.elim
  · rintro e h ⟨j, h1, _, h3⟩
    exact hd e h (by rw [← h1]; exact h3)
end
/-! ### what pure code comes to -/
theorem blsOf_map {a : Type} (g : a → Bool) : ∀ l : List a, blsOf (l.map fun x => .bl (g x)) = some (l.map g)
  | [] => rfl
  | x :: l => by simp [blsOf, blsOf_map g l]
theorem intsOf_map {a : Type} (g : a → Int) : ∀ l : List a, intsOf (l.map fun x => .int (g x)) = some (l.map g)
  | [] => rfl
  | x :: l => by simp [intsOf, intsOf_map g l]
theorem strsOf_map {a : Type} (g : a → List Nat) : ∀ l : List a, strsOf (l.map fun x => .str (g x)) = some (l.map g)
  | [] => rfl
  | x :: l => by simp [strsOf, strsOf_map g l]
theorem all_map {a : Type} (g : a → Bool) (l : List a) (h : MH) : allP (l.map fun x => .bl (g x)) h = .ok (.bl (l.all g)) h := by
  unfold allP
  rw [blsOf_map]
  simp [List.all_map]
theorem sum_map {a : Type} (g : a → Int) (l : List a) (h : MH) : sumP (l.map fun x => .int (g x)) h = .ok (.int (l.map g).sum) h := by
  unfold sumP
  rw [intsOf_map]
theorem joinL_nil : ∀ ps : List (List Nat), TL.joinL [] ps = ps.flatten
  | [] => rfl
  | [p] => by simp [TL.joinL]
  | p :: q :: r => by
    have := joinL_nil (q :: r)
    simp [TL.joinL, this]
theorem flat_len (ps : List (List Nat)) : ps.flatten.length = (ps.map List.length).sum := by rw [List.length_flatten]
theorem join_strs {ps : List (List Nat)} {h : MH} (hl : (ps.map List.length).sum ≤ LIM) : joinP (.str []) (ps.map .str) h = .ok (.str ps.flatten) h := by
  unfold joinP
  have : strsOf (ps.map D.str) = some ps := by
    have := strsOf_map (fun x : List Nat => x) ps
    simpa using this
  simp [this, hl, joinL_nil]
section
variable {t : Tg} {test : E Bool} {elt : E D} {env : Ev} {h : MH} {src : E Sc} {own : List Nat} {i : Nat}
theorem lcL_pure {ds : List D} (p : D → Bool) (g : D → D) : (∀ d ∈ ds, ∃ e', tgM t d env = some e' ∧ test e' h = .ok (p d) h ∧ (p d = true → elt e' h = .ok (g d) h)) → lcL t test elt env ds h = .ok ((ds.filter p).map g) h := by
  induction ds with
  | nil => intro _; rfl
  | cons d ds ih =>
    intro hh
    obtain ⟨e', h1, h2, h3⟩ := hh d (List.mem_cons_self ..)
    have ih' := ih fun x hx => hh x (List.mem_cons_of_mem _ hx)
    unfold lcL
    simp only [h1, h2, R.noX, R.bind]
    cases hp : p d with
    | true => simp [h3 hp, R.noX, R.bind, ih', hp]
    | false => simp [ih', hp]
theorem lcL_map {a : Type} {xs : List a} {c : a → D} (g : a → D) (he : ∀ x ∈ xs, elt (env.set i (some (c x))) h = .ok (g x) h) : lcL (.nm i) bTrue elt env (xs.map c) h = .ok (xs.map g) h := by
  induction xs with
  | nil => rfl
  | cons x xs ih =>
    have h1 := he x (List.mem_cons_self ..)
    have h2 := ih fun y hy => he y (List.mem_cons_of_mem _ hy)
    simp only [List.map_cons]
    unfold lcL
    simp only [tgM, bTrue, R.noX, R.bind, if_true, h1, h2]
theorem lcL_fil {a : Type} {xs : List a} {c : a → D} (p : a → Bool) (ht : ∀ x ∈ xs, test (env.set i (some (c x))) h = .ok (p x) h) (hi : i < env.length) : lcL (.nm i) test (vVar i) env (xs.map c) h = .ok ((xs.filter p).map c) h := by
  induction xs with
  | nil => rfl
  | cons x xs ih =>
    have h1 := ht x (List.mem_cons_self ..)
    have h2 := ih fun y hy => ht y (List.mem_cons_of_mem _ hy)
    have h3 : vVar i (env.set i (some (c x))) h = .ok (c x) h := by
      unfold vVar
      rw [List.getElem?_set_self hi]
    simp only [List.map_cons]
    unfold lcL
    simp only [tgM, h1, R.noX, R.bind]
    cases hp : p x with
    | true => simp [h3, R.noX, R.bind, h2, hp]
    | false => simp [h2, hp]
theorem lcM_items {ds : List D} (hs : src env h = .ok (.items ds) h) (hl : ds.length < LIM) : lcM src own t test elt env h = lcL t test elt (wipeE env own) ds h := by
  unfold lcM
  rw [hs]
  show (if (Sc.items ds).size h < LIM then _ else _) = _
  rw [if_pos (show (Sc.items ds).size h < LIM from hl)]
  exact lc_items
/-- [elt for i in ds] -/
theorem lc_map {a : Type} {xs : List a} {c : a → D} (g : a → D) (hs : src env h = .ok (.items (xs.map c)) h) (hl : xs.length < LIM) (he : ∀ x ∈ xs, elt ((wipeE env own).set i (some (c x))) h = .ok (g x) h) : lcM src own (.nm i) bTrue elt env h = .ok (xs.map g) h := by
  rw [lcM_items hs (by simpa using hl)]
  clear hs hl
  induction xs with
  | nil => rfl
  | cons x xs ih =>
    have h1 := he x (List.mem_cons_self ..)
    have h2 := ih fun y hy => he y (List.mem_cons_of_mem _ hy)
    simp only [List.map_cons]
    unfold lcL
    simp only [tgM, bTrue, R.noX, R.bind, if_true, h1, h2]
/-- [i for i in ds if test] -/
theorem lc_fil {a : Type} {xs : List a} {c : a → D} (p : a → Bool) (hs : src env h = .ok (.items (xs.map c)) h) (hl : xs.length < LIM) (ht : ∀ x ∈ xs, test ((wipeE env own).set i (some (c x))) h = .ok (p x) h) (hi : i < env.length) : lcM src own (.nm i) test (vVar i) env h = .ok ((xs.filter p).map c) h := by
  rw [lcM_items hs (by simpa using hl)]
  clear hs hl
  induction xs with
  | nil => rfl
  | cons x xs ih =>
    have h1 := ht x (List.mem_cons_self ..)
    have h2 := ih fun y hy => ht y (List.mem_cons_of_mem _ hy)
    have h3 : vVar i ((wipeE env own).set i (some (c x))) h = .ok (c x) h := by
      unfold vVar
      rw [List.getElem?_set_self (by rw [wipeE_len]; exact hi)]
    simp only [List.map_cons]
    unfold lcL
    simp only [tgM, h1, R.noX, R.bind]
    cases hp : p x with
    | true => simp [h3, R.noX, R.bind, h2, hp]
    | false => simp [h2, hp]
end
section
variable {t : Tg} {test : E Bool} {elt : E D} {env : Ev} {h : MH} {src : E Sc} {own : List Nat} {i n : Nat}
/-- a list that stays as it is while it is walked -/
theorem live_items {ds : List D} (hn : h[n]? = some (.lst ds)) (hp : ∀ d ∈ ds, ∃ e', tgM t d env = some e' ∧ ∃ b, test e' h = .ok b h ∧ (b = true → ∃ y, elt e' h = .ok y h)) : ∀ (f j : Nat), lcGo (.live n) t test elt env f j h = lcGo (.items ds) t test elt env f j h
  | 0, _ => rfl
  | f + 1, j => by
    unfold lcGo
    simp only [Sc.nx, hn]
    cases z : ds[j]? with
    | none => rfl
    | some d =>
      obtain ⟨e', h1, b, h2, h3⟩ := hp d (List.mem_of_getElem? z)
      simp only [h1, h2, R.noX, R.bind]
      cases b with
      | false => simp only [Bool.false_eq_true, if_false]; exact live_items hn hp f (j + 1)
      | true =>
        obtain ⟨y, h4⟩ := h3 rfl
        simp only [if_true, h4, R.noX, live_items hn hp f (j + 1)]
theorem lcM_live {ds : List D} (hs : src env h = .ok (.live n) h) (hn : h[n]? = some (.lst ds)) (hl : ds.length < LIM) (hp : ∀ d ∈ ds, ∃ e', tgM t d (wipeE env own) = some e' ∧ ∃ b, test e' h = .ok b h ∧ (b = true → ∃ y, elt e' h = .ok y h)) : lcM src own t test elt env h = lcL t test elt (wipeE env own) ds h := by
  unfold lcM
  rw [hs]
  have e : (Sc.live n).size h = ds.length := by simp [Sc.size, hn]
  show (if (Sc.live n).size h < LIM then _ else _) = _
  rw [e, if_pos hl, live_items hn hp]
  exact lc_items
theorem w_lcLive {ds : List D} {QL : List D → MH → Prop} (hn : h[n]? = some (.lst ds)) (hl : ds.length < LIM) (hp : ∀ d ∈ ds, ∃ e', tgM t d env = some e' ∧ ∃ b, test e' h = .ok b h ∧ (b = true → ∃ y, elt e' h = .ok y h)) : Ok (if (Sc.live n).size h < LIM then lcGo (.live n) t test elt env ((Sc.live n).size h + 1) 0 h else .err) QL = Ok (lcL t test elt env ds h) QL := by
  have e : (Sc.live n).size h = ds.length := by simp [Sc.size, hn]
  rw [e, if_pos hl, live_items hn hp, lc_items]
end
theorem filter_nil {a : Type} (p : a → Bool) (xs : List a) : (xs.filter p).isEmpty = xs.all fun x => !p x := by
  induction xs with
  | nil => rfl
  | cons x xs ih => cases hp : p x <;> simp [hp, ih]
theorem map_nil {a b : Type} (f : a → b) (xs : List a) : (xs.map f).isEmpty = xs.isEmpty := by cases xs <;> rfl
/-! ### x[i] -/
theorem atI_0 {a : Type} {x : a} {xs : List a} : atI (x :: xs) 0 = some x := atI_nat (j := 0) rfl
theorem atI_1 {a : Type} {x y : a} {xs : List a} : atI (x :: y :: xs) 1 = some y := atI_nat (j := 1) rfl
theorem atI_2 {a : Type} {x y z : a} {xs : List a} : atI (x :: y :: z :: xs) 2 = some z := atI_nat (j := 2) rfl
theorem atI_3 {a : Type} {x y z w : a} {xs : List a} : atI (x :: y :: z :: w :: xs) 3 = some w := atI_nat (j := 3) rfl
theorem ix_0 {x : D} {xs : List D} {h : MH} : ixM (.tup (x :: xs)) (.int 0) h = .ok x h := by simp [ixM, atI_0]
theorem ix_1 {x y : D} {xs : List D} {h : MH} : ixM (.tup (x :: y :: xs)) (.int 1) h = .ok y h := by simp [ixM, atI_1]
theorem ix_2 {x y z : D} {xs : List D} {h : MH} : ixM (.tup (x :: y :: z :: xs)) (.int 2) h = .ok z h := by simp [ixM, atI_2]
theorem ix_3 {x y z w : D} {xs : List D} {h : MH} : ixM (.tup (x :: y :: z :: w :: xs)) (.int 3) h = .ok w h := by simp [ixM, atI_3]
theorem atI_get' {a : Type} {xs : List a} {i : Int} (h0 : 0 ≤ i) (h1 : i < xs.length) : ∃ x, atI xs i = some x ∧ x ∈ xs ∧ xs[i.toNat]? = some x := by
  have h2 : i.toNat < xs.length := by omega
  refine ⟨xs[i.toNat], ?_, List.getElem_mem h2, List.getElem?_eq_getElem h2⟩
  have := atI_nat (xs := xs) (j := i.toNat) (List.getElem?_eq_getElem h2)
  rwa [Int.toNat_of_nonneg h0] at this
theorem ix_tup {ds : List D} {i : Int} {h : MH} (h0 : 0 ≤ i) (h1 : i < ds.length) : ∃ d, d ∈ ds ∧ ds[i.toNat]? = some d ∧ ixM (.tup ds) (.int i) h = .ok d h := by
  obtain ⟨d, e, m, g⟩ := atI_get' h0 h1
  exact ⟨d, m, g, by simp [ixM, e]⟩
theorem ix_obj {ds : List D} {i : Int} {h : MH} {n : Nat} (hn : h[n]? = some (.lst ds)) (h0 : 0 ≤ i) (h1 : i < ds.length) : ∃ d, d ∈ ds ∧ ds[i.toNat]? = some d ∧ ixM (.obj n) (.int i) h = .ok d h := by
  obtain ⟨d, e, m, g⟩ := atI_get' h0 h1
  exact ⟨d, m, g, by simp [ixM, hn, e]⟩
/-! ### heaps -/
/-- all objects stay but one, new ones may come -/
structure Fr (t : Nat) (h h' : MH) : Prop where
  len : h.length ≤ h'.length
  at' : ∀ i, i < h.length → i ≠ t → h'[i]? = h[i]?
theorem Fr.refl {t : Nat} {h : MH} : Fr t h h := ⟨Nat.le_refl _, fun _ _ _ => rfl⟩
theorem Fr.trans {t : Nat} {h h1 h2 : MH} (a : Fr t h h1) (b : Fr t h1 h2) : Fr t h h2 := ⟨Nat.le_trans a.len b.len, fun i hi ht => (b.at' i (Nat.lt_of_lt_of_le hi a.len) ht).trans (a.at' i hi ht)⟩
theorem Fr.app {t : Nat} {h l : MH} : Fr t h (h ++ l) := ⟨by simp, fun i hi _ => List.getElem?_append_left hi⟩
theorem Fr.set {t : Nat} {h : MH} {x : MO} : Fr t h (h.set t x) := ⟨by simp, fun i hi ht => List.getElem?_set_ne (Ne.symm ht)⟩
theorem Fr.get {t : Nat} {h h' : MH} {i : Nat} {x : MO} (a : Fr t h h') (e : h[i]? = some x) (ne : i ≠ t) : h'[i]? = some x := by
  have : i < h.length := by
    rcases Nat.lt_or_ge i h.length with l | l
    · exact l
    · rw [List.getElem?_eq_none l] at e; cases e
  rw [a.at' i this ne]; exact e
/-- an object made later was changed -/
theorem Fr.set_new {t n : Nat} {h h' : MH} {x : MO} (a : Fr t h h') (hn : h.length ≤ n) : Fr t h (h'.set n x) := ⟨by rw [List.length_set]; exact a.len, fun i hi ht => by rw [List.getElem?_set_ne (by omega)]; exact a.at' i hi ht⟩
/-- the drawing's own list -/
def Twn (ns : List Int) (t b : Nat) (h : MH) : Prop := ∃ (c : Nat) (cs : List Int), h[t]? = some (.lst (.int c :: cs.map .int)) ∧ cs.length = ns.length ∧ c ≤ b
section
variable {ns : List Int} {t b b' n : Nat} {h l : MH} {x : MO}
theorem Twn.lt (a : Twn ns t b h) : t < h.length := by
  obtain ⟨c, cs, e, _, _⟩ := a
  rcases Nat.lt_or_ge t h.length with l | l
  · exact l
  · rw [List.getElem?_eq_none l] at e; cases e
theorem Twn.mono (a : Twn ns t b h) (hb : b ≤ b') : Twn ns t b' h := by
  obtain ⟨c, cs, e, e2, e3⟩ := a
  exact ⟨c, cs, e, e2, Nat.le_trans e3 hb⟩
theorem Twn.app (a : Twn ns t b h) : Twn ns t b (h ++ l) := by
  have := a.lt
  obtain ⟨c, cs, e, e2, e3⟩ := a
  exact ⟨c, cs, by rw [List.getElem?_append_left this]; exact e, e2, e3⟩
theorem Twn.set_ne (a : Twn ns t b h) (hn : n ≠ t) : Twn ns t b (h.set n x) := by
  obtain ⟨c, cs, e, e2, e3⟩ := a
  exact ⟨c, cs, by rw [List.getElem?_set_ne hn]; exact e, e2, e3⟩
end
theorem get_lt {a : Type} {h : List a} {i : Nat} {x : a} (e : h[i]? = some x) : i < h.length := by
  rcases Nat.lt_or_ge i h.length with l | l
  · exact l
  · rw [List.getElem?_eq_none l] at e; cases e
theorem get_app {a : Type} {h l : List a} {i : Nat} {x : a} (e : h[i]? = some x) : (h ++ l)[i]? = some x := by rw [List.getElem?_append_left (get_lt e)]; exact e
theorem getElem?_app {h : MH} {x : MO} : (h ++ [x])[h.length]? = some x := by simp
theorem lim_0 : (0 ≤ LIM) = True := by simp [LIM]
theorem lim_1 : (1 ≤ LIM) = True := by simp [LIM]
theorem lim_2 : (2 ≤ LIM) = True := by simp [LIM]
theorem lim_3 : (3 ≤ LIM) = True := by simp [LIM]
theorem lim_4 : (4 ≤ LIM) = True := by simp [LIM]
theorem lim_5 : (5 ≤ LIM) = True := by simp [LIM]
theorem lim_6 : (6 ≤ LIM) = True := by simp [LIM]
theorem lim_7 : (7 ≤ LIM) = True := by simp [LIM]
theorem lim_8 : (8 ≤ LIM) = True := by simp [LIM]
theorem lim_9 : (9 ≤ LIM) = True := by simp [LIM]
theorem lim_10 : (10 ≤ LIM) = True := by simp [LIM]
theorem lim_11 : (11 ≤ LIM) = True := by simp [LIM]
theorem lim_12 : (12 ≤ LIM) = True := by simp [LIM]
theorem lim_13 : (13 ≤ LIM) = True := by simp [LIM]
theorem lim_14 : (14 ≤ LIM) = True := by simp [LIM]
theorem lim_15 : (15 ≤ LIM) = True := by simp [LIM]
theorem lim_16 : (16 ≤ LIM) = True := by simp [LIM]
theorem lim_17 : (17 ≤ LIM) = True := by simp [LIM]
theorem lim_18 : (18 ≤ LIM) = True := by simp [LIM]
theorem lim_19 : (19 ≤ LIM) = True := by simp [LIM]
theorem lim_20 : (20 ≤ LIM) = True := by simp [LIM]
theorem lim_21 : (21 ≤ LIM) = True := by simp [LIM]
theorem lim_22 : (22 ≤ LIM) = True := by simp [LIM]
theorem lim_23 : (23 ≤ LIM) = True := by simp [LIM]
end FT
end
section
set_option maxRecDepth 100000
namespace FT
open PySem L2
set_option autoImplicit false
/-! ### plain data: what is equal is the same -/
def plN : Nat → D → Bool
  | 0, _ => false
  | n + 1, d => match d with
    | .non => true
    | .int _ => true
    | .str s => s.all fun c => decide (c < 0x110000)
    | .tup ds => ds.all (plN n)
    | _ => false
noncomputable def eqD (x y : D) : Bool := @decide (x = y) (Classical.propDecidable _)
noncomputable def inD (x : D) (ds : List D) : Bool := @decide (x ∈ ds) (Classical.propDecidable _)
theorem eqD_iff {x y : D} : eqD x y = true ↔ x = y := by
  unfold eqD
  exact @decide_eq_true_iff _ (Classical.propDecidable _)
theorem inD_iff {x : D} {ds : List D} : inD x ds = true ↔ x ∈ ds := by
  unfold inD
  exact @decide_eq_true_iff _ (Classical.propDecidable _)
theorem pl_py {h : MH} : ∀ (n : Nat) (d : D), plN n d = true → ∃ p, pyOf h n d = some p ∧ p.canLay0 = true ∧ p.depth ≤ n
  | 0, _, e => by cases e
  | n + 1, d, e => by
    cases d with
    | non => exact ⟨_, rfl, by simp [PyData.canLay0], by simp [PyData.depth]⟩
    | int i => exact ⟨_, rfl, by simp [PyData.canLay0], by simp [PyData.depth]⟩
    | str s => exact ⟨_, rfl, by simp only [PyData.canLay0, PyData.strOk, plN] at e ⊢; simpa using e, by simp [PyData.depth]⟩
    | tup ds =>
      have all : ∀ ds : List D, ds.all (plN n) = true → ∃ ps, optAll (pyOf h n) ds = some ps ∧ PyData.canLayAll0 ps = true ∧ PyData.depthAll ps ≤ n := by
        intro ds
        induction ds with
        | nil => intro _; exact ⟨[], rfl, by simp [PyData.canLayAll0], by simp [PyData.depthAll]⟩
        | cons d ds ih =>
          intro e
          simp only [List.all_cons, Bool.and_eq_true] at e
          obtain ⟨p, e1, e2, e3⟩ := pl_py (h := h) n d e.1
          obtain ⟨ps, e4, e5, e6⟩ := ih e.2
          exact ⟨p :: ps, by simp [optAll, e1, e4], by simp [PyData.canLayAll0, e2, e5], by simp [PyData.depthAll]; omega⟩
      obtain ⟨ps, e1, e2, e3⟩ := all ds e
      exact ⟨.tuple ps, by simp [pyOf, e1], by simpa [PyData.canLay0] using e2, by simp [PyData.depth]; omega⟩
    | _ => cases e
theorem py_eq {h : MH} : ∀ (n : Nat) (x y : D) (p q : PyData), plN n x = true → plN n y = true → pyOf h n x = some p → pyOf h n y = some q → (PyData.eqv p q = true ↔ x = y)
  | 0, _, _, _, _, e, _, _, _ => by cases e
  | n + 1, x, y, p, q, ex, ey, e1, e2 => by
    have all : ∀ (xs ys : List D) (ps qs : List PyData), xs.all (plN n) = true → ys.all (plN n) = true → optAll (pyOf h n) xs = some ps → optAll (pyOf h n) ys = some qs → (PyData.eqvAll ps qs = true ↔ xs = ys) := by
      intro xs
      induction xs with
      | nil =>
        intro ys ps qs _ ey e1 e2
        cases e1
        cases ys with
        | nil => cases e2; simp [PyData.eqvAll]
        | cons y ys => obtain ⟨z, zs, _, _, rfl⟩ := optAll_cons e2; simp [PyData.eqvAll]
      | cons x xs ih =>
        intro ys ps qs ex ey e1 e2
        obtain ⟨z, zs, f1, f2, rfl⟩ := optAll_cons e1
        cases ys with
        | nil => cases e2; simp [PyData.eqvAll]
        | cons y ys =>
          obtain ⟨u, us, f3, f4, rfl⟩ := optAll_cons e2
          simp only [List.all_cons, Bool.and_eq_true] at ex ey
          have a := py_eq n x y z u ex.1 ey.1 f1 f3
          have b := ih ys zs us ex.2 ey.2 f2 f4
          simp [PyData.eqvAll, a, b]
    cases x <;> first | (exfalso; cases ex; done) | skip
    all_goals cases y <;> first | (exfalso; cases ey; done) | skip
    all_goals simp only [pyOf, Option.map_eq_some_iff, Option.some.injEq] at e1 e2
    all_goals first | (obtain ⟨ps, g1, rfl⟩ := e1) | subst e1
    all_goals first | (obtain ⟨qs, g2, rfl⟩ := e2) | subst e2
    all_goals first
      | (simp only [plN] at ex ey; rw [PyData.eqv, D.tup.injEq]; exact all _ _ _ _ ex ey g1 g2)
      | (simp [PyData.eqv]; done)
theorem eq_pl {h : MH} {x y : D} (hx : plN 40 x = true) (hy : plN 40 y = true) : eqM x y h = .ok (.bl (eqD x y)) h := by
  obtain ⟨p, p1, p2, p3⟩ := pl_py (h := h) 40 x hx
  obtain ⟨q, q1, q2, q3⟩ := pl_py (h := h) 40 y hy
  have k := py_eq 40 x y p q hx hy p1 q1
  have e : py2 x y h (fun p q => .ok (.bl (PyData.eqv p q)) h) = .ok (.bl (eqD x y)) h := by
    unfold py2
    simp only [DEEP, p1, q1, SeqAt.shaped, p2, q2, show p.depth ≤ 64 by omega, show q.depth ≤ 64 by omega, decide_true, Bool.and_self, and_self, if_true]
    have : PyData.eqv p q = eqD x y := by rw [Bool.eq_iff_iff, k, eqD_iff]
    rw [this]
  have z : ∀ b : Bool, (b = true ↔ x = y) → R.ok (D.bl b) h = R.ok (D.bl (eqD x y)) h := fun b hb => by
    have : b = eqD x y := by rw [Bool.eq_iff_iff, hb, eqD_iff]
    rw [this]
  cases x <;> cases y <;> first | exact e | (refine z _ ?_; simp; done) | (cases hx; done)
theorem ne_pl {h : MH} {x y : D} (hx : plN 40 x = true) (hy : plN 40 y = true) : neM x y h = .ok (.bl (!eqD x y)) h := by
  obtain ⟨p, p1, p2, p3⟩ := pl_py (h := h) 40 x hx
  obtain ⟨q, q1, q2, q3⟩ := pl_py (h := h) 40 y hy
  have k := py_eq 40 x y p q hx hy p1 q1
  have e : py2 x y h (fun p q => .ok (.bl (!PyData.eqv p q)) h) = .ok (.bl (!eqD x y)) h := by
    unfold py2
    simp only [DEEP, p1, q1, SeqAt.shaped, p2, q2, show p.depth ≤ 64 by omega, show q.depth ≤ 64 by omega, decide_true, Bool.and_self, and_self, if_true]
    have : PyData.eqv p q = eqD x y := by rw [Bool.eq_iff_iff, k, eqD_iff]
    rw [this]
  have z : ∀ b : Bool, (b = true ↔ x = y) → R.ok (D.bl (!b)) h = R.ok (D.bl (!eqD x y)) h := fun b hb => by
    have : b = eqD x y := by rw [Bool.eq_iff_iff, hb, eqD_iff]
    rw [this]
  cases x <;> cases y <;> first | exact e | (refine z _ ?_; simp; done) | (cases hx; done)
/-- x in (..) -/
theorem opt_all {h : MH} {n : Nat} : ∀ ds : List D, ds.all (plN n) = true → ∃ ps, optAll (pyOf h n) ds = some ps ∧ PyData.canLayAll0 ps = true ∧ PyData.depthAll ps ≤ n
  | [], _ => ⟨[], rfl, by simp [PyData.canLayAll0], by simp [PyData.depthAll]⟩
  | d :: ds, e => by
    simp only [List.all_cons, Bool.and_eq_true] at e
    obtain ⟨p, e1, e2, e3⟩ := pl_py (h := h) n d e.1
    obtain ⟨ps, e4, e5, e6⟩ := opt_all (h := h) ds e.2
    exact ⟨p :: ps, by simp [optAll, e1, e4], by simp [PyData.canLayAll0, e2, e5], by simp [PyData.depthAll]; omega⟩
theorem any_in {h : MH} {n : Nat} {x : D} {p : PyData} (hx : plN n x = true) (hp : pyOf h n x = some p) : ∀ (ds : List D) (ps : List PyData), ds.all (plN n) = true → optAll (pyOf h n) ds = some ps → ((ps.any fun z => PyData.eqv z p) = true ↔ x ∈ ds)
  | [], _, _, e => by cases e; simp
  | d :: ds, _, hd, e => by
    obtain ⟨z, zs, f1, f2, rfl⟩ := optAll_cons e
    simp only [List.all_cons, Bool.and_eq_true] at hd
    have a := py_eq n d x z p hd.1 hx f1 hp
    have b := any_in hx hp ds zs hd.2 f2
    simp only [List.any_cons, Bool.or_eq_true, a, b, List.mem_cons]
    constructor
    · rintro (e | e)
      · exact .inl e.symm
      · exact .inr e
    · rintro (e | e)
      · exact .inl e.symm
      · exact .inr e
theorem plN_mono : ∀ (n : Nat) (d : D), plN n d = true → plN (n + 1) d = true
  | 0, _, e => by cases e
  | n + 1, d, e => by
    cases d with
    | tup ds =>
      simp only [plN, List.all_eq_true] at e ⊢
      intro x hx
      exact plN_mono n x (e x hx)
    | _ => exact e
section
variable {h : MH} {x : D} {ds : List D}
theorem in_run {y : D} {f : List PyData → PyData} (hf : f = PyData.tuple ∨ f = PyData.list) (hx : plN 39 x = true) (hd : ds.all (plN 39) = true) (hy : ∀ ps, optAll (pyOf h 39) ds = some ps → pyOf h 40 y = some (f ps)) :
    (py2 x y h fun p q => match q with
    | .list ds => .ok (.bl (ds.any fun z => PyData.eqv z p)) h
    | .tuple ds => .ok (.bl (ds.any fun z => PyData.eqv z p)) h
    | _ => .err) = R.ok (.bl (inD x ds)) h ∧ (py2 x y h fun p q => match q with
    | .list ds => .ok (.bl (!ds.any fun z => PyData.eqv z p)) h
    | .tuple ds => .ok (.bl (!ds.any fun z => PyData.eqv z p)) h
    | _ => .err) = R.ok (.bl (!inD x ds)) h := by
  obtain ⟨p, p1, p2, p3⟩ := pl_py (h := h) 40 x (plN_mono 39 x hx)
  obtain ⟨p', p1', _, _⟩ := pl_py (h := h) 39 x hx
  obtain ⟨ps, q1, q2, q3⟩ := opt_all (h := h) ds hd
  have same : ∀ (n : Nat) (d : D) (p : PyData), pyOf h n d = some p → pyOf h (n + 1) d = some p := by
    intro n
    induction n with
    | zero => intro d p e; cases e
    | succ n ih =>
      intro d p e
      have all : ∀ (ds : List D) (ps : List PyData), optAll (pyOf h n) ds = some ps → optAll (pyOf h (n + 1)) ds = some ps := by
        intro ds
        induction ds with
        | nil => intro ps e; exact e
        | cons d ds ih2 =>
          intro ps e
          obtain ⟨z, zs, f1, f2, rfl⟩ := optAll_cons e
          simp [optAll, ih d z f1, ih2 zs f2]
      cases d with
      | tup ds =>
        rw [pyOf, Option.map_eq_some_iff] at e ⊢
        obtain ⟨a, b, c⟩ := e
        exact ⟨a, all _ _ b, c⟩
      | rol ds =>
        rw [pyOf, Option.map_eq_some_iff] at e ⊢
        obtain ⟨a, b, c⟩ := e
        exact ⟨a, all _ _ b, c⟩
      | obj m =>
        have key : ∀ n, pyOf h (n + 1) (.obj m) = match h[m]? with
          | some (.lst ds) => (optAll (pyOf h n) ds).map PyData.list
          | _ => none := fun _ => rfl
        rw [key] at e ⊢
        cases hm : h[m]? with
        | none => rw [hm] at e; cases e
        | some o =>
          rw [hm] at e
          cases o with
          | lst xs =>
            rw [Option.map_eq_some_iff] at e ⊢
            obtain ⟨a, b, c⟩ := e
            exact ⟨a, all _ _ b, c⟩
          | _ => cases e
      | _ => exact e
  have pp : p' = p := by
    have := same 39 x p' p1'
    rw [p1] at this
    exact (Option.some.inj this).symm
  subst pp
  have k := any_in hx p1' ds ps hd q1
  have e : (ps.any fun z => PyData.eqv z p') = inD x ds := by rw [Bool.eq_iff_iff, k, inD_iff]
  have c1 : (f ps).canLay0 = true := by rcases hf with rfl | rfl <;> simpa [PyData.canLay0] using q2
  have c2 : (f ps).depth ≤ 64 := by rcases hf with rfl | rfl <;> (simp only [PyData.depth]; omega)
  unfold py2
  simp only [DEEP, p1, hy ps q1, SeqAt.shaped, p2, c1, c2, show p'.depth ≤ 64 by omega, decide_true, Bool.and_self, and_self, if_true]
  rcases hf with rfl | rfl <;> exact ⟨by simp only [e], by simp only [e]⟩
theorem in_tup (hx : plN 39 x = true) (hd : ds.all (plN 39) = true) : inM x (.tup ds) h = .ok (.bl (inD x ds)) h := by
  have a := (in_run (h := h) (y := .tup ds) (.inl rfl) hx hd fun ps e => by show Option.map _ (optAll (pyOf h 39) ds) = _; rw [e]; rfl).1
  unfold inM
  split
  · rename_i e; cases e
  · exact a
theorem in_lst {n : Nat} (hn : h[n]? = some (.lst ds)) (hx : plN 39 x = true) (hd : ds.all (plN 39) = true) : inM x (.obj n) h = .ok (.bl (inD x ds)) h := by
  have a := (in_run (h := h) (y := .obj n) (.inr rfl) hx hd fun ps e => by rw [pyOf, hn]; show Option.map _ (optAll (pyOf h 39) ds) = _; rw [e]; rfl).1
  unfold inM
  split
  · rename_i e; cases e
  · exact a
theorem nin_tup (hx : plN 39 x = true) (hd : ds.all (plN 39) = true) : notInM x (.tup ds) h = .ok (.bl (!inD x ds)) h := by
  have a := (in_run (h := h) (y := .tup ds) (.inl rfl) hx hd fun ps e => by show Option.map _ (optAll (pyOf h 39) ds) = _; rw [e]; rfl).2
  unfold notInM
  split
  · rename_i e; cases e
  · exact a
theorem nin_lst {n : Nat} (hn : h[n]? = some (.lst ds)) (hx : plN 39 x = true) (hd : ds.all (plN 39) = true) : notInM x (.obj n) h = .ok (.bl (!inD x ds)) h := by
  have a := (in_run (h := h) (y := .obj n) (.inr rfl) hx hd fun ps e => by rw [pyOf, hn]; show Option.map _ (optAll (pyOf h 39) ds) = _; rw [e]; rfl).2
  unfold notInM
  split
  · rename_i e; cases e
  · exact a
end
end FT
end
section
set_option maxRecDepth 100000
namespace FT
open PySem L2
set_option autoImplicit false
/-! ### formats and their values, with no program in sight -/
abbrev Sg := List Nat
inductive SF where
  | word (s : Sg) | digits (lo hi : Nat) | letters (lo hi : Nat) | number (n : Nat) | choice (ts : List Sg)
inductive FF where
  | one (s : SF) | rep (s : SF) (lo hi : Nat)
abbrev kWord : Sg := [119, 111, 114, 100]
abbrev kDigits : Sg := [100, 105, 103, 105, 116, 115]
abbrev kLetters : Sg := [108, 101, 116, 116, 101, 114, 115]
abbrev kNumber : Sg := [110, 117, 109, 98, 101, 114]
abbrev kChoice : Sg := [99, 104, 111, 105, 99, 101]
abbrev kRepeat : Sg := [114, 101, 112, 101, 97, 116]
abbrev cSigns : Sg := [45, 46, 48, 49, 50, 51, 52, 53, 54, 55, 56, 57, 58, 97, 98, 99, 100, 101, 102]
abbrev cDig : Sg := [48, 49, 50, 51, 52, 53, 54, 55, 56, 57]
abbrev cLet : Sg := [97, 98, 99, 100, 101, 102]
def SF.d : SF → D
  | .word s => .tup [.str kWord, .str s]
  | .digits lo hi => .tup [.str kDigits, .int lo, .int hi]
  | .letters lo hi => .tup [.str kLetters, .int lo, .int hi]
  | .number n => .tup [.str kNumber, .int n]
  | .choice ts => .tup [.str kChoice, .tup (ts.map .str)]
def FF.d : FF → D
  | .one s => s.d
  | .rep s lo hi => .tup [.str kRepeat, s.d, .int lo, .int hi]
def TxOk (s : Sg) : Prop := 1 ≤ s.length ∧ s.length ≤ 4 ∧ ∀ c ∈ s, c ∈ cSigns
def SF.Ok : SF → Prop
  | .word s => TxOk s
  | .digits lo hi => lo ≤ hi ∧ hi ≤ 4
  | .letters lo hi => lo ≤ hi ∧ hi ≤ 4
  | .number n => 1 ≤ n ∧ n ≤ 4
  | .choice ts => 1 ≤ ts.length ∧ ts.length ≤ 4 ∧ (∀ s ∈ ts, TxOk s) ∧ ts.Pairwise (· < ·)
def FF.Ok : FF → Prop
  | .one s => s.Ok
  | .rep s lo hi => s.Ok ∧ lo ≤ hi ∧ 1 ≤ hi ∧ hi ≤ 3
def only' (s cs : Sg) : Bool := s.all fun c => decide (c ∈ cs)
def SF.val : SF → D → Bool
  | .word s, .str t => decide (t = s)
  | .digits lo hi, .str t => only' t cDig && (decide (lo ≤ t.length) && decide (t.length ≤ hi))
  | .letters lo hi, .str t => only' t cLet && (decide (lo ≤ t.length) && decide (t.length ≤ hi))
  | .number n, .int i => decide (0 ≤ i) && decide (i < 10 ^ n)
  | .choice ts, .str t => decide (t ∈ ts)
  | _, _ => false
def FF.val : FF → D → Bool
  | .one s, d => s.val d
  | .rep s lo hi, .tup ds => (decide (lo ≤ ds.length) && decide (ds.length ≤ hi)) && ds.all s.val
  | _, _ => false
def vals : List FF → List D → Bool
  | [], [] => true
  | f :: fs, d :: ds => f.val d && vals fs ds
  | _, _ => false
def listed (fs : List FF) : D → Bool
  | .tup ds => vals fs ds
  | _ => false
/-- the text of a value -/
def ptxt : D → Sg
  | .str s => s
  | .int i => decL i.toNat
  | _ => []
def vtxt : D → Sg
  | .tup ds => (ds.map ptxt).flatten
  | d => ptxt d
/-- what may be asked whether it is a value -/
def Bas (h : MH) (d : D) : Prop := (∃ t, tyOf d h = some t ∧ t < 7) ∧ (∀ s, d = .str s → s.length ≤ 1000000 ∧ ∀ c ∈ s, c < 1114112) ∧ ∀ ds, d = .tup ds → ds.length < 1000000
def Flat (h : MH) (d : D) : Prop := Bas h d ∧ ∀ ds, d = .tup ds → ∀ x ∈ ds, Bas h x
theorem Bas.mono {t : Nat} {h h' : MH} {d : D} (a : Bas h d) (f : Fr t h h') (ht : ∀ n, d = .obj n → n ≠ t) : Bas h' d := by
  obtain ⟨⟨k, e, e2⟩, b, c⟩ := a
  refine ⟨⟨k, ?_, e2⟩, b, c⟩
  cases d with
  | obj n =>
    simp only [tyOf] at e ⊢
    have : n ≠ t := ht n rfl
    cases q : h[n]? with
    | none => rw [q] at e; cases e
    | some o => rw [q] at e; rw [f.get q this]; exact e
  | _ => exact e
theorem val_str {f : SF} {d : D} (hv : f.val d = true) : (∃ s, d = .str s) ∨ ∃ i, d = .int i := by
  cases f <;> cases d <;> first | (cases hv; done) | exact .inl ⟨_, rfl⟩ | exact .inr ⟨_, rfl⟩
theorem listed_len {fs : List FF} {d : D} (h : listed fs d = true) : ∃ ds, d = .tup ds ∧ ds.length = fs.length ∧ vals fs ds = true := by
  cases d <;> first | (cases h; done) | skip
  rename_i ds
  refine ⟨ds, rfl, ?_, h⟩
  simp only [listed] at h
  induction fs generalizing ds with
  | nil => cases ds with
    | nil => rfl
    | cons d ds => cases h
  | cons f fs ih => cases ds with
    | nil => cases h
    | cons d ds =>
      simp only [vals, Bool.and_eq_true] at h
      simp [ih ds h.2]
theorem vals_get : ∀ {fs : List FF} {ds : List D} {i : Nat} {f : FF} {d : D}, vals fs ds = true → fs[i]? = some f → ds[i]? = some d → f.val d = true
  | [], _, _, _, _, _, e, _ => by simp at e
  | f :: fs, [], _, _, _, h, _, _ => by cases h
  | f :: fs, d :: ds, 0, _, _, h, e1, e2 => by
    simp only [vals, Bool.and_eq_true] at h
    simp at e1 e2
    subst e1 e2
    exact h.1
  | f :: fs, d :: ds, i + 1, _, _, h, e1, e2 => by
    simp only [vals, Bool.and_eq_true] at h
    simp at e1 e2
    exact vals_get h.2 e1 e2
/-- one value is changed -/
theorem vals_set : ∀ {fs : List FF} {ds : List D} {i : Nat} {f : FF} (x : D), vals fs ds = true → fs[i]? = some f → vals fs (ds.take i ++ x :: ds.drop (i + 1)) = f.val x
  | [], _, _, _, _, _, e => by simp at e
  | f :: fs, [], _, _, _, h, _ => by cases h
  | f :: fs, d :: ds, 0, _, x, h, e => by
    simp only [vals, Bool.and_eq_true] at h
    simp at e
    subst e
    simp [vals, h.2]
  | f :: fs, d :: ds, i + 1, _, x, h, e => by
    simp only [vals, Bool.and_eq_true] at h
    simp at e
    have := vals_set x h.2 e
    simp [vals, h.1, this]
theorem decL_len {n k : Nat} (hk : 0 < k) (h : n < 10 ^ k) : 1 ≤ (decL n).length ∧ (decL n).length ≤ k := by
  unfold decL
  rw [List.length_map]
  exact ⟨Nat.length_toDigits_pos, (Nat.length_toDigits_le_iff (by decide) hk).mpr h⟩
theorem minI_le2 : ∀ (r : List Int) (m : Int), minI r m ≤ m ∧ ∀ x ∈ r, minI r m ≤ x
  | [], m => ⟨Int.le_refl _, fun x hx => by simp at hx⟩
  | y :: r, m => by
    have ih := minI_le2 r (if y < m then y else m)
    unfold minI
    split at ih <;> rename_i hc <;> simp only [hc, if_true, if_false] <;> refine ⟨by omega, fun x hx => ?_⟩ <;> rcases List.mem_cons.mp hx with rfl | hx <;> first | omega | exact ih.2 x hx
theorem le_maxI : ∀ (r : List Int) (m : Int), m ≤ maxI r m ∧ ∀ x ∈ r, x ≤ maxI r m
  | [], m => ⟨Int.le_refl _, fun x hx => by simp at hx⟩
  | y :: r, m => by
    have ih := le_maxI r (if m < y then y else m)
    unfold maxI
    split at ih <;> rename_i hc <;> simp only [hc, if_true, if_false] <;> refine ⟨by omega, fun x hx => ?_⟩ <;> rcases List.mem_cons.mp hx with rfl | hx <;> first | omega | exact ih.2 x hx
def lens (ts : List Sg) : List Int := ts.map fun t => (t.length : Int)
def least : List Int → Int
  | [] => 0
  | x :: r => minI r x
def most : List Int → Int
  | [] => 0
  | x :: r => maxI r x
theorem least_le {l : List Int} {x : Int} (h : x ∈ l) : least l ≤ x := by
  cases l with
  | nil => simp at h
  | cons y r =>
    rcases List.mem_cons.mp h with rfl | h
    · exact (minI_le2 r _).1
    · exact (minI_le2 r _).2 x h
theorem le_most {l : List Int} {x : Int} (h : x ∈ l) : x ≤ most l := by
  cases l with
  | nil => simp at h
  | cons y r =>
    rcases List.mem_cons.mp h with rfl | h
    · exact (le_maxI r _).1
    · exact (le_maxI r _).2 x h
def SF.lo : SF → Int
  | .word s => s.length
  | .digits lo _ => lo
  | .letters lo _ => lo
  | .number _ => 1
  | .choice ts => least (lens ts)
def SF.hi : SF → Int
  | .word s => s.length
  | .digits _ hi => hi
  | .letters _ hi => hi
  | .number n => n
  | .choice ts => most (lens ts)
def FF.lo : FF → Int
  | .one s => s.lo
  | .rep s lo _ => s.lo * lo
def FF.hi : FF → Int
  | .one s => s.hi
  | .rep s _ hi => s.hi * hi
theorem SF.len {f : SF} {d : D} (hf : f.Ok) (hv : f.val d = true) : f.lo ≤ (ptxt d).length ∧ ((ptxt d).length : Int) ≤ f.hi := by
  cases f <;> cases d <;> first | (cases hv; done) | skip
  · simp only [SF.val, decide_eq_true_eq] at hv
    subst hv
    exact ⟨Int.le_refl _, Int.le_refl _⟩
  · simp only [SF.val, Bool.and_eq_true, decide_eq_true_eq] at hv
    simp only [SF.lo, SF.hi, ptxt]
    omega
  · simp only [SF.val, Bool.and_eq_true, decide_eq_true_eq] at hv
    simp only [SF.lo, SF.hi, ptxt]
    omega
  · rename_i n i
    simp only [SF.val, Bool.and_eq_true, decide_eq_true_eq] at hv
    simp only [SF.lo, SF.hi, ptxt]
    have h1 : i.toNat < 10 ^ n := by
      have h2 : ((i.toNat : Nat) : Int) < ((10 ^ n : Nat) : Int) := by
        rw [Int.toNat_of_nonneg hv.1]
        simpa using hv.2
      exact Int.ofNat_lt.mp h2
    have := decL_len hf.1 h1
    omega
  · rename_i ts t
    simp only [SF.val, decide_eq_true_eq] at hv
    simp only [SF.lo, SF.hi, ptxt]
    have hm : (t.length : Int) ∈ lens ts := List.mem_map.mpr ⟨t, hv, rfl⟩
    exact ⟨least_le hm, le_most hm⟩
theorem SF.lo_nn {f : SF} : 0 ≤ f.lo ∧ 0 ≤ f.hi := by
  have nn : ∀ ts : List Sg, 0 ≤ least (lens ts) ∧ 0 ≤ most (lens ts) := fun ts => by
    cases ts with
    | nil => exact ⟨Int.le_refl _, Int.le_refl _⟩
    | cons t ts =>
      refine ⟨?_, Int.le_trans (show (0 : Int) ≤ (t.length : Int) by omega) (le_most (List.mem_cons_self ..))⟩
      have := minI_mem (lens ts) (t.length : Int)
      show 0 ≤ minI (lens ts) (t.length : Int)
      rcases List.mem_cons.mp this with e | e
      · rw [e]; omega
      · obtain ⟨u, _, e⟩ := List.mem_map.mp e
        rw [← e]; omega
  cases f <;> simp only [SF.lo, SF.hi] <;> first | exact nn _ | omega
theorem flat_bounds {f : SF} (hf : f.Ok) : ∀ ds : List D, ds.all f.val = true → f.lo * ds.length ≤ ((ds.map ptxt).flatten.length : Int) ∧ ((ds.map ptxt).flatten.length : Int) ≤ f.hi * ds.length
  | [], _ => by simp
  | d :: ds, h => by
    simp only [List.all_cons, Bool.and_eq_true] at h
    have a := SF.len hf h.1
    have b := flat_bounds hf ds h.2
    simp only [List.map_cons, List.flatten_cons, List.length_append, List.length_cons, Int.natCast_add, Int.natCast_one, Int.mul_add, Int.mul_one]
    omega
theorem FF.len {f : FF} {d : D} (hf : f.Ok) (hv : f.val d = true) : f.lo ≤ (vtxt d).length ∧ ((vtxt d).length : Int) ≤ f.hi := by
  cases f with
  | one s =>
    have := SF.len hf hv
    rcases val_str (show s.val d = true from hv) with ⟨t, rfl⟩ | ⟨i, rfl⟩ <;> exact this
  | rep s lo hi =>
    cases d <;> first | (cases hv; done) | skip
    rename_i ds
    simp only [FF.val, Bool.and_eq_true, decide_eq_true_eq] at hv
    have a := flat_bounds hf.1 ds hv.2
    have n := SF.lo_nn (f := s)
    simp only [FF.lo, FF.hi, vtxt]
    have h1 : s.lo * (lo : Int) ≤ s.lo * (ds.length : Int) := Int.mul_le_mul_of_nonneg_left (by omega) n.1
    have h2 : s.hi * (ds.length : Int) ≤ s.hi * (hi : Int) := Int.mul_le_mul_of_nonneg_left (by omega) n.2
    omega
theorem vals_len : ∀ (fs : List FF) (ds : List D), (∀ f ∈ fs, f.Ok) → vals fs ds = true → (fs.map FF.lo).sum ≤ ((ds.map vtxt).flatten.length : Int) ∧ ((ds.map vtxt).flatten.length : Int) ≤ (fs.map FF.hi).sum
  | [], [], _, _ => by simp
  | [], d :: ds, _, h => by cases h
  | f :: fs, [], _, h => by cases h
  | f :: fs, d :: ds, hf, h => by
    simp only [vals, Bool.and_eq_true] at h
    have a := FF.len (hf f (List.mem_cons_self ..)) h.1
    have b := vals_len fs ds (fun g hg => hf g (List.mem_cons_of_mem _ hg)) h.2
    simp only [List.map_cons, List.sum_cons, List.flatten_cons, List.length_append, Int.natCast_add]
    omega
end FT
end
section
set_option maxRecDepth 100000
namespace FT
open PySem L2
set_option autoImplicit false
/-! the mirrors -/
abbrev I_is_between : Nat := 0
abbrev I_is_text : Nat := 1
abbrev I_is_span : Nat := 2
abbrev I_is_simple : Nat := 3
abbrev I_is_field : Nat := 4
abbrev I_is_format : Nat := 5
abbrev I_check_format : Nat := 6
abbrev I_only : Nat := 7
abbrev I_is_value : Nat := 8
abbrev I_is_listed : Nat := 9
abbrev I_is_record : Nat := 10
abbrev I_check_record : Nat := 11
abbrev I_part_text : Nat := 12
abbrev I_text_of : Nat := 13
abbrev I_bounds_of : Nat := 14
abbrev I_shortest_length : Nat := 15
abbrev I_longest_length : Nat := 16
abbrev I__law_town : Nat := 17
abbrev I__law_draw : Nat := 18
abbrev I__law_pick : Nat := 19
abbrev I__law_signs : Nat := 20
abbrev I__law_simple : Nat := 21
abbrev I__law_field : Nat := 22
abbrev I__law_form : Nat := 23
abbrev I__law_value : Nat := 24
abbrev I__law_record : Nat := 25
abbrev I__law_text : Nat := 26
abbrev I__law_parts : Nat := 27
abbrev I__law_only : Nat := 28
abbrev I__law_is_value : Nat := 29
abbrev I__law_lengths : Nat := 30
abbrev I_law : Nat := 31
def m_is_between (r : Nat → List D → MH → R D) : List D → MH → R D := fnM 3 3
  (sRet (vAnd (vCall isiP (aCons (vVar 0) (aCons (vC (.ty 0)) aNil))) (vAnd (vNot (vCall isiP (aCons (vVar 0) (aCons (vC (.ty 1)) aNil)))) (op3 leM leM (vVar 1) (vVar 0) (vVar 2)))))

def m_is_text (r : Nat → List D → MH → R D) : List D → MH → R D := fnM 3 4
  (sRet (vAnd (vCall isiP (aCons (vVar 0) (aCons (vC (.ty 2)) aNil))) (vAnd (op3 leM leM (vVar 1) (vCall lenV (aCons (vVar 0) aNil)) (vVar 2)) (vL allP (lcM (vSrc (vVar 0)) [3] (.nm 3) bTrue (op2 inM (vVar 3) (vC (.str [45, 46, 48, 49, 50, 51, 52, 53, 54, 55, 56, 57, 58, 97, 98, 99, 100, 101, 102]))))))))

def m_is_span (r : Nat → List D → MH → R D) : List D → MH → R D := fnM 4 4
  (sRet (vAnd (vCall (r I_is_between) (aCons (vVar 0) (aCons (vC (.int 0)) (aCons (vVar 3) aNil)))) (vAnd (vCall (r I_is_between) (aCons (vVar 1) (aCons (vVar 2) (aCons (vVar 3) aNil)))) (op2 leM (vVar 0) (vVar 1)))))

def m_is_simple (r : Nat → List D → MH → R D) : List D → MH → R D := fnM 1 4
  (sSeq (sIf (bOr (bNot (vTest (vCall isiP (aCons (vVar 0) (aCons (vC (.ty 3)) aNil))))) (bOr (bNot (vTest (op3 leM leM (vC (.int 2)) (vCall lenV (aCons (vVar 0) aNil)) (vC (.int 3))))) (bNot (vTest (vCall isiP (aCons (op2 ixM (vVar 0) (vC (.int 0))) (aCons (vC (.ty 2)) aNil)))))))
    (sRet (vC (.bl false)))
    sNext)
    (sSeq (sIf (vTest (op2 eqM (vCall lenV (aCons (vVar 0) aNil)) (vC (.int 3))))
    (sRet (vAnd (op2 inM (op2 ixM (vVar 0) (vC (.int 0))) (vTup (aCons (vC (.str [100, 105, 103, 105, 116, 115])) (aCons (vC (.str [108, 101, 116, 116, 101, 114, 115])) aNil)))) (vCall (r I_is_span) (aCons (op2 ixM (vVar 0) (vC (.int 1))) (aCons (op2 ixM (vVar 0) (vC (.int 2))) (aCons (vC (.int 0)) (aCons (vC (.int 4)) aNil)))))))
    sNext)
    (sSeq (sIf (vTest (op2 eqM (op2 ixM (vVar 0) (vC (.int 0))) (vC (.str [119, 111, 114, 100]))))
    (sRet (vCall (r I_is_text) (aCons (op2 ixM (vVar 0) (vC (.int 1))) (aCons (vC (.int 1)) (aCons (vC (.int 4)) aNil)))))
    sNext)
    (sSeq (sIf (vTest (op2 eqM (op2 ixM (vVar 0) (vC (.int 0))) (vC (.str [110, 117, 109, 98, 101, 114]))))
    (sRet (vCall (r I_is_between) (aCons (op2 ixM (vVar 0) (vC (.int 1))) (aCons (vC (.int 1)) (aCons (vC (.int 4)) aNil)))))
    sNext)
    (sSeq (sIf (bOr (vTest (op2 neM (op2 ixM (vVar 0) (vC (.int 0))) (vC (.str [99, 104, 111, 105, 99, 101])))) (bOr (bNot (vTest (vCall isiP (aCons (op2 ixM (vVar 0) (vC (.int 1))) (aCons (vC (.ty 3)) aNil))))) (bNot (vTest (op3 leM leM (vC (.int 1)) (vCall lenV (aCons (op2 ixM (vVar 0) (vC (.int 1))) aNil)) (vC (.int 4)))))))
    (sRet (vC (.bl false)))
    sNext)
    (sSeq (sSet 1 (op2 ixM (vVar 0) (vC (.int 1))))
    (sSeq (sIf (bNot (vTest (vL allP (lcM (vSrc (vVar 1)) [2] (.nm 2) bTrue (vCall (r I_is_text) (aCons (vVar 2) (aCons (vC (.int 1)) (aCons (vC (.int 4)) aNil))))))))
    (sRet (vC (.bl false)))
    sNext)
    (sRet (vL allP (lcM (aSrc rng1 (aCons (op2 subM (vCall lenV (aCons (vVar 1) aNil)) (vC (.int 1))) aNil)) [3] (.nm 3) bTrue (op2 ltM (op2 ixM (vVar 1) (vVar 3)) (op2 ixM (vVar 1) (op2 addM (vVar 3) (vC (.int 1)))))))))))))))

def m_is_field (r : Nat → List D → MH → R D) : List D → MH → R D := fnM 1 1
  (sSeq (sIf (bAnd (vTest (vCall isiP (aCons (vVar 0) (aCons (vC (.ty 3)) aNil)))) (bAnd (vTest (op2 eqM (vCall lenV (aCons (vVar 0) aNil)) (vC (.int 4)))) (bAnd (vTest (vCall isiP (aCons (op2 ixM (vVar 0) (vC (.int 0))) (aCons (vC (.ty 2)) aNil)))) (vTest (op2 eqM (op2 ixM (vVar 0) (vC (.int 0))) (vC (.str [114, 101, 112, 101, 97, 116])))))))
    (sRet (vAnd (vCall (r I_is_simple) (aCons (op2 ixM (vVar 0) (vC (.int 1))) aNil)) (vCall (r I_is_span) (aCons (op2 ixM (vVar 0) (vC (.int 2))) (aCons (op2 ixM (vVar 0) (vC (.int 3))) (aCons (vC (.int 1)) (aCons (vC (.int 3)) aNil)))))))
    sNext)
    (sRet (vCall (r I_is_simple) (aCons (vVar 0) aNil))))

def m_is_format (r : Nat → List D → MH → R D) : List D → MH → R D := fnM 1 2
  (sRet (vAnd (vCall isiP (aCons (vVar 0) (aCons (vC (.ty 3)) aNil))) (vAnd (op3 leM leM (vC (.int 1)) (vCall lenV (aCons (vVar 0) aNil)) (vC (.int 6))) (vL allP (lcM (vSrc (vVar 0)) [1] (.nm 1) bTrue (vCall (r I_is_field) (aCons (vVar 1) aNil)))))))

def m_check_format (r : Nat → List D → MH → R D) : List D → MH → R D := fnM 1 1
  (sIf (bNot (vTest (vCall (r I_is_format) (aCons (vVar 0) aNil))))
    sErr
    sNext)

def m_only (r : Nat → List D → MH → R D) : List D → MH → R D := fnM 2 3
  (sRet (vAnd (vCall isiP (aCons (vVar 0) (aCons (vC (.ty 2)) aNil))) (vL allP (lcM (vSrc (vVar 0)) [2] (.nm 2) bTrue (op2 inM (vVar 2) (vVar 1))))))

def m_is_value (r : Nat → List D → MH → R D) : List D → MH → R D := fnM 2 3
  (sSeq (sIf (vTest (op2 eqM (op2 ixM (vVar 0) (vC (.int 0))) (vC (.str [119, 111, 114, 100]))))
    (sRet (vAnd (vCall isiP (aCons (vVar 1) (aCons (vC (.ty 2)) aNil))) (op2 eqM (vVar 1) (op2 ixM (vVar 0) (vC (.int 1))))))
    sNext)
    (sSeq (sIf (vTest (op2 eqM (op2 ixM (vVar 0) (vC (.int 0))) (vC (.str [99, 104, 111, 105, 99, 101]))))
    (sRet (vAnd (vCall isiP (aCons (vVar 1) (aCons (vC (.ty 2)) aNil))) (op2 inM (vVar 1) (op2 ixM (vVar 0) (vC (.int 1))))))
    sNext)
    (sSeq (sIf (vTest (op2 eqM (op2 ixM (vVar 0) (vC (.int 0))) (vC (.str [110, 117, 109, 98, 101, 114]))))
    (sRet (vCall (r I_is_between) (aCons (vVar 1) (aCons (vC (.int 0)) (aCons (op2 ixM (vTup (aCons (vC (.int 9)) (aCons (vC (.int 99)) (aCons (vC (.int 999)) (aCons (vC (.int 9999)) aNil))))) (op2 subM (op2 ixM (vVar 0) (vC (.int 1))) (vC (.int 1)))) aNil)))))
    sNext)
    (sSeq (sIf (vTest (op2 eqM (op2 ixM (vVar 0) (vC (.int 0))) (vC (.str [114, 101, 112, 101, 97, 116]))))
    (sSeq (sIf (bOr (bNot (vTest (vCall isiP (aCons (vVar 1) (aCons (vC (.ty 3)) aNil))))) (bNot (vTest (op3 leM leM (op2 ixM (vVar 0) (vC (.int 2))) (vCall lenV (aCons (vVar 1) aNil)) (op2 ixM (vVar 0) (vC (.int 3)))))))
    (sRet (vC (.bl false)))
    sNext)
    (sRet (vL allP (lcM (vSrc (vVar 1)) [2] (.nm 2) bTrue (vCall (r I_is_value) (aCons (op2 ixM (vVar 0) (vC (.int 1))) (aCons (vVar 2) aNil)))))))
    sNext)
    (sRet (vAnd (vCall (r I_only) (aCons (vVar 1) (aCons (vIf (vTest (op2 eqM (op2 ixM (vVar 0) (vC (.int 0))) (vC (.str [100, 105, 103, 105, 116, 115])))) (vC (.str [48, 49, 50, 51, 52, 53, 54, 55, 56, 57])) (vC (.str [97, 98, 99, 100, 101, 102]))) aNil))) (op3 leM leM (op2 ixM (vVar 0) (vC (.int 1))) (vCall lenV (aCons (vVar 1) aNil)) (op2 ixM (vVar 0) (vC (.int 2))))))))))

def m_is_listed (r : Nat → List D → MH → R D) : List D → MH → R D := fnM 2 4
  (sSeq (sIf (bOr (bNot (vTest (vCall isiP (aCons (vVar 1) (aCons (vC (.ty 3)) aNil))))) (vTest (op2 neM (vCall lenV (aCons (vVar 1) aNil)) (vCall lenV (aCons (vVar 0) aNil)))))
    (sRet (vC (.bl false)))
    sNext)
    (sRet (vL allP (lcM (aSrc zipT (aCons (vVar 0) (aCons (vVar 1) aNil))) [2, 3] (.tp [2, 3]) bTrue (vCall (r I_is_value) (aCons (vVar 2) (aCons (vVar 3) aNil)))))))

def m_is_record (r : Nat → List D → MH → R D) : List D → MH → R D := fnM 2 2
  (sSeq (sExpr (vCall (r I_check_format) (aCons (vVar 0) aNil)))
    (sRet (vCall (r I_is_listed) (aCons (vVar 0) (aCons (vVar 1) aNil)))))

def m_check_record (r : Nat → List D → MH → R D) : List D → MH → R D := fnM 2 2
  (sIf (bNot (vTest (vCall (r I_is_listed) (aCons (vVar 0) (aCons (vVar 1) aNil)))))
    sErr
    sNext)

def m_part_text (r : Nat → List D → MH → R D) : List D → MH → R D := fnM 1 2
  (sSeq (sIf (vTest (vCall isiP (aCons (vVar 0) (aCons (vC (.ty 3)) aNil))))
    (sRet (vJoinL (vC (.str [])) (lcM (vSrc (vVar 0)) [1] (.nm 1) bTrue (vCall (r I_part_text) (aCons (vVar 1) aNil)))))
    sNext)
    (sRet (vCall strP (aCons (vVar 0) aNil))))

def m_text_of (r : Nat → List D → MH → R D) : List D → MH → R D := fnM 2 2
  (sSeq (sExpr (vCall (r I_check_format) (aCons (vVar 0) aNil)))
    (sSeq (sExpr (vCall (r I_check_record) (aCons (vVar 0) (aCons (vVar 1) aNil))))
    (sRet (vCall (r I_part_text) (aCons (vVar 1) aNil)))))

def m_bounds_of (r : Nat → List D → MH → R D) : List D → MH → R D := fnM 1 4
  (sSeq (sIf (vTest (op2 eqM (op2 ixM (vVar 0) (vC (.int 0))) (vC (.str [119, 111, 114, 100]))))
    (sRet (vTup (aCons (vCall lenV (aCons (op2 ixM (vVar 0) (vC (.int 1))) aNil)) (aCons (vCall lenV (aCons (op2 ixM (vVar 0) (vC (.int 1))) aNil)) aNil))))
    sNext)
    (sSeq (sIf (vTest (op2 eqM (op2 ixM (vVar 0) (vC (.int 0))) (vC (.str [99, 104, 111, 105, 99, 101]))))
    (sRet (vTup (aCons (vL minP (lcM (vSrc (op2 ixM (vVar 0) (vC (.int 1)))) [3] (.nm 3) bTrue (vCall lenV (aCons (vVar 3) aNil)))) (aCons (vL maxP (lcM (vSrc (op2 ixM (vVar 0) (vC (.int 1)))) [3] (.nm 3) bTrue (vCall lenV (aCons (vVar 3) aNil)))) aNil))))
    sNext)
    (sSeq (sIf (vTest (op2 eqM (op2 ixM (vVar 0) (vC (.int 0))) (vC (.str [110, 117, 109, 98, 101, 114]))))
    (sRet (vTup (aCons (vC (.int 1)) (aCons (op2 ixM (vVar 0) (vC (.int 1))) aNil))))
    sNext)
    (sSeq (sIf (vTest (op2 eqM (op2 ixM (vVar 0) (vC (.int 0))) (vC (.str [114, 101, 112, 101, 97, 116]))))
    (sSeq (sUnp (.tp [1, 2]) (vCall (r I_bounds_of) (aCons (op2 ixM (vVar 0) (vC (.int 1))) aNil)))
    (sRet (vTup (aCons (op2 mulM (vVar 1) (op2 ixM (vVar 0) (vC (.int 2)))) (aCons (op2 mulM (vVar 2) (op2 ixM (vVar 0) (vC (.int 3)))) aNil)))))
    sNext)
    (sRet (vTup (aCons (op2 ixM (vVar 0) (vC (.int 1))) (aCons (op2 ixM (vVar 0) (vC (.int 2))) aNil))))))))

def m_shortest_length (r : Nat → List D → MH → R D) : List D → MH → R D := fnM 1 2
  (sSeq (sExpr (vCall (r I_check_format) (aCons (vVar 0) aNil)))
    (sRet (vL sumP (lcM (vSrc (vVar 0)) [1] (.nm 1) bTrue (op2 ixM (vCall (r I_bounds_of) (aCons (vVar 1) aNil)) (vC (.int 0)))))))

def m_longest_length (r : Nat → List D → MH → R D) : List D → MH → R D := fnM 1 2
  (sSeq (sExpr (vCall (r I_check_format) (aCons (vVar 0) aNil)))
    (sRet (vL sumP (lcM (vSrc (vVar 0)) [1] (.nm 1) bTrue (op2 ixM (vCall (r I_bounds_of) (aCons (vVar 1) aNil)) (vC (.int 1)))))))

def m__law_town (r : Nat → List D → MH → R D) : List D → MH → R D := fnM 1 1
  (sRet (vAlloc (catLL (lLst (aCons (vC (.int 0)) aNil)) (lCall listP (aCons (vVar 0) aNil)))))

def m__law_draw (r : Nat → List D → MH → R D) : List D → MH → R D := fnM 3 6
  (sSeq (sSub (vVar 1) (vC (.int 0)) (op2 addM (op2 ixM (vVar 1) (vC (.int 0))) (vC (.int 1))))
    (sSeq (sIf (vTest (vNil false (vVar 0)))
    (sRet (op2 modM (op2 fdivM (op2 mulM (op2 mulM (op2 ixM (vVar 1) (vC (.int 0))) (op2 ixM (vVar 1) (vC (.int 0)))) (vC (.int 7))) (vC (.int 3))) (vVar 2)))
    sNext)
    (sSeq (sSet 3 (op2 modM (op2 ixM (vVar 1) (vC (.int 0))) (vCall lenV (aCons (vVar 0) aNil))))
    (sSeq (sSet 4 (op2 ixM (vVar 1) (op2 addM (vC (.int 1)) (vVar 3))))
    (sSeq (sIf (bAnd (vTest (op2 geM (op2 ixM (vVar 0) (vVar 3)) (op2 powM (vC (.int 10)) (vC (.int 18))))) (vTest (op2 gtM (vVar 4) (vC (.int 0)))))
    (sSeq (sSub (vVar 1) (op2 addM (vC (.int 1)) (vVar 3)) (op2 fdivM (vVar 4) (vVar 2)))
    (sRet (op2 modM (vVar 4) (vVar 2))))
    sNext)
    (sSeq (sSet 5 (op2 modM (op2 addM (op2 ixM (vVar 0) (vVar 3)) (op2 mulM (vC (.int 104729)) (op2 ixM (vVar 1) (vC (.int 0))))) (vC (.int 4294967291))))
    (sSeq (sSet 5 (op2 modM (op2 powM (vVar 5) (vC (.int 5))) (vC (.int 4294967279))))
    (sRet (op2 modM (op2 fdivM (op2 modM (op2 addM (op2 mulM (op2 fdivM (vVar 5) (vC (.int 64))) (vC (.int 69621))) (vVar 5)) (vC (.int 4294967231))) (vC (.int 8))) (vVar 2))))))))))

def m__law_pick (r : Nat → List D → MH → R D) : List D → MH → R D := fnM 3 3
  (sRet (op2 ixM (vVar 2) (vCall (r I__law_draw) (aCons (vVar 0) (aCons (vVar 1) (aCons (vCall lenV (aCons (vVar 2) aNil)) aNil))))))

def m__law_signs (r : Nat → List D → MH → R D) : List D → MH → R D := fnM 4 5
  (sRet (vJoinL (vC (.str [])) (lcM (aSrc rng1 (aCons (vVar 3) aNil)) [4] (.nm 4) bTrue (vCall (r I__law_pick) (aCons (vVar 0) (aCons (vVar 1) (aCons (vAlloc (lCall listP (aCons (vVar 2) aNil))) aNil)))))))

def m__law_simple (r : Nat → List D → MH → R D) : List D → MH → R D := fnM 3 8
  (sSeq (sSet 3 (vCall (r I__law_draw) (aCons (vVar 0) (aCons (vVar 1) (aCons (vC (.int 6)) aNil)))))
    (sSeq (sIf (vTest (op2 eqM (vVar 3) (vC (.int 0))))
    (sRet (vTup (aCons (vC (.str [119, 111, 114, 100])) (aCons (vCall (r I__law_signs) (aCons (vVar 0) (aCons (vVar 1) (aCons (vC (.str [45, 48, 97])) (aCons (op2 addM (vC (.int 1)) (vCall (r I__law_draw) (aCons (vVar 0) (aCons (vVar 1) (aCons (vCall min2P (aCons (vC (.int 2)) (aCons (vVar 2) aNil))) aNil))))) aNil))))) aNil))))
    sNext)
    (sSeq (sIf (vTest (op2 ltM (vVar 3) (vC (.int 3))))
    (sSeq (sSet 4 (vCall (r I__law_draw) (aCons (vVar 0) (aCons (vVar 1) (aCons (op2 addM (vVar 2) (vC (.int 1))) aNil)))))
    (sRet (vTup (aCons (op2 ixM (vTup (aCons (vC (.str [100, 105, 103, 105, 116, 115])) (aCons (vC (.str [108, 101, 116, 116, 101, 114, 115])) aNil))) (op2 subM (vVar 3) (vC (.int 1)))) (aCons (vVar 4) (aCons (op2 addM (vVar 4) (vCall (r I__law_draw) (aCons (vVar 0) (aCons (vVar 1) (aCons (op2 subM (op2 addM (vVar 2) (vC (.int 1))) (vVar 4)) aNil))))) aNil))))))
    sNext)
    (sSeq (sIf (vTest (op2 eqM (vVar 3) (vC (.int 3))))
    (sRet (vTup (aCons (vC (.str [110, 117, 109, 98, 101, 114])) (aCons (op2 addM (vC (.int 1)) (vCall (r I__law_draw) (aCons (vVar 0) (aCons (vVar 1) (aCons (vVar 2) aNil))))) aNil))))
    sNext)
    (sSeq (sSet 5 (vAlloc (lLst aNil)))
    (sSeq (sFor (aSrc rng1 (aCons (op2 addM (vC (.int 1)) (vCall (r I__law_draw) (aCons (vVar 0) (aCons (vVar 1) (aCons (vC (.int 3)) aNil))))) aNil)) (.nm 6)
    (sSeq (sSet 7 (vCall (r I__law_pick) (aCons (vVar 0) (aCons (vVar 1) (aCons (vAlloc (lLst (aCons (vC (.str [97, 98])) (aCons (vC (.str [48, 49])) (aCons (vC (.str [45, 46])) (aCons (vC (.str [97, 48])) aNil)))))) aNil)))))
    (sExpr (vAppend (vVar 5) (vCall (r I__law_signs) (aCons (vVar 0) (aCons (vVar 1) (aCons (vVar 7) (aCons (op2 addM (vC (.int 1)) (vCall (r I__law_draw) (aCons (vVar 0) (aCons (vVar 1) (aCons (vVar 2) aNil))))) aNil)))))))))
    (sRet (vTup (aCons (vC (.str [99, 104, 111, 105, 99, 101])) (aCons (vL tupP (lSortSetV (vVar 5))) aNil))))))))))

def m__law_field (r : Nat → List D → MH → R D) : List D → MH → R D := fnM 3 5
  (sSeq (sSet 3 (vCall (r I__law_simple) (aCons (vVar 0) (aCons (vVar 1) (aCons (vVar 2) aNil)))))
    (sSeq (sIf (vTest (op2 gtM (vCall (r I__law_draw) (aCons (vVar 0) (aCons (vVar 1) (aCons (vC (.int 4)) aNil)))) (vC (.int 0))))
    (sRet (vVar 3))
    sNext)
    (sSeq (sSet 4 (vCall (r I__law_draw) (aCons (vVar 0) (aCons (vVar 1) (aCons (vC (.int 3)) aNil)))))
    (sRet (vTup (aCons (vC (.str [114, 101, 112, 101, 97, 116])) (aCons (vVar 3) (aCons (vVar 4) (aCons (vCall max2P (aCons (vC (.int 1)) (aCons (op2 addM (vVar 4) (vCall (r I__law_draw) (aCons (vVar 0) (aCons (vVar 1) (aCons (vC (.int 2)) aNil))))) aNil))) aNil)))))))))

def m__law_form (r : Nat → List D → MH → R D) : List D → MH → R D := fnM 4 5
  (sRet (vL tupP (lcM (aSrc rng1 (aCons (op2 addM (vC (.int 1)) (vCall (r I__law_draw) (aCons (vVar 0) (aCons (vVar 1) (aCons (vVar 2) aNil))))) aNil)) [4] (.nm 4) bTrue (vCall (r I__law_field) (aCons (vVar 0) (aCons (vVar 1) (aCons (vVar 3) aNil)))))))

def m__law_value (r : Nat → List D → MH → R D) : List D → MH → R D := fnM 3 5
  (sSeq (sIf (vTest (op2 eqM (op2 ixM (vVar 2) (vC (.int 0))) (vC (.str [119, 111, 114, 100]))))
    (sRet (op2 ixM (vVar 2) (vC (.int 1))))
    sNext)
    (sSeq (sIf (vTest (op2 eqM (op2 ixM (vVar 2) (vC (.int 0))) (vC (.str [99, 104, 111, 105, 99, 101]))))
    (sRet (vCall (r I__law_pick) (aCons (vVar 0) (aCons (vVar 1) (aCons (op2 ixM (vVar 2) (vC (.int 1))) aNil)))))
    sNext)
    (sSeq (sIf (vTest (op2 eqM (op2 ixM (vVar 2) (vC (.int 0))) (vC (.str [110, 117, 109, 98, 101, 114]))))
    (sRet (vCall (r I__law_draw) (aCons (vVar 0) (aCons (vVar 1) (aCons (op2 ixM (vAlloc (lLst (aCons (vC (.int 10)) (aCons (vC (.int 100)) (aCons (vC (.int 1000)) (aCons (vC (.int 10000)) aNil)))))) (vCall (r I__law_draw) (aCons (vVar 0) (aCons (vVar 1) (aCons (op2 ixM (vVar 2) (vC (.int 1))) aNil))))) aNil)))))
    sNext)
    (sSeq (sIf (vTest (op2 eqM (op2 ixM (vVar 2) (vC (.int 0))) (vC (.str [114, 101, 112, 101, 97, 116]))))
    (sSeq (sSet 3 (op2 addM (op2 ixM (vVar 2) (vC (.int 2))) (vCall (r I__law_draw) (aCons (vVar 0) (aCons (vVar 1) (aCons (op2 addM (op2 subM (op2 ixM (vVar 2) (vC (.int 3))) (op2 ixM (vVar 2) (vC (.int 2)))) (vC (.int 1))) aNil))))))
    (sRet (vL tupP (lcM (aSrc rng1 (aCons (vVar 3) aNil)) [4] (.nm 4) bTrue (vCall (r I__law_value) (aCons (vVar 0) (aCons (vVar 1) (aCons (op2 ixM (vVar 2) (vC (.int 1))) aNil))))))))
    sNext)
    (sSeq (sSet 3 (op2 addM (op2 ixM (vVar 2) (vC (.int 1))) (vCall (r I__law_draw) (aCons (vVar 0) (aCons (vVar 1) (aCons (op2 addM (op2 subM (op2 ixM (vVar 2) (vC (.int 2))) (op2 ixM (vVar 2) (vC (.int 1)))) (vC (.int 1))) aNil))))))
    (sRet (vCall (r I__law_signs) (aCons (vVar 0) (aCons (vVar 1) (aCons (vIf (vTest (op2 eqM (op2 ixM (vVar 2) (vC (.int 0))) (vC (.str [100, 105, 103, 105, 116, 115])))) (vC (.str [48, 49, 50, 57])) (vC (.str [97, 98, 102]))) (aCons (vVar 3) aNil)))))))))))

def m__law_record (r : Nat → List D → MH → R D) : List D → MH → R D := fnM 3 4
  (sRet (vL tupP (lcM (vSrc (vVar 2)) [3] (.nm 3) bTrue (vCall (r I__law_value) (aCons (vVar 0) (aCons (vVar 1) (aCons (vVar 3) aNil)))))))

def m__law_text (r : Nat → List D → MH → R D) : List D → MH → R D := fnM 1 2
  (sSeq (sIf (vTest (vCall isiP (aCons (vVar 0) (aCons (vC (.ty 3)) aNil))))
    (sRet (vJoinL (vC (.str [])) (lcM (vSrc (vVar 0)) [1] (.nm 1) bTrue (vCall (r I__law_text) (aCons (vVar 1) aNil)))))
    sNext)
    (sRet (vCall strP (aCons (vVar 0) aNil))))

def m__law_parts (r : Nat → List D → MH → R D) : List D → MH → R D := fnM 2 5
  (sSeq (sSet 2 (vAlloc (lLst aNil)))
    (sSeq (sFor (aSrc rng1 (aCons (op2 addM (vCall min2P (aCons (vC (.int 4)) (aCons (vCall lenV (aCons (vVar 1) aNil)) aNil))) (vC (.int 1))) aNil)) (.nm 3)
    (sSeq (sSet 4 (vSl (vVar 1) none (some (vVar 3))))
    (sSeq (sIf (bOr (bAnd (vTest (op2 eqM (op2 ixM (vVar 0) (vC (.int 0))) (vC (.str [119, 111, 114, 100])))) (vTest (op2 eqM (vVar 4) (op2 ixM (vVar 0) (vC (.int 1)))))) (bAnd (vTest (op2 eqM (op2 ixM (vVar 0) (vC (.int 0))) (vC (.str [99, 104, 111, 105, 99, 101])))) (vTest (op2 inM (vVar 4) (op2 ixM (vVar 0) (vC (.int 1)))))))
    (sExpr (vAppend (vVar 2) (vTup (aCons (vVar 4) (aCons (vVar 3) aNil)))))
    sNext)
    (sSeq (sIf (bAnd (vTest (op2 eqM (op2 ixM (vVar 0) (vC (.int 0))) (vC (.str [100, 105, 103, 105, 116, 115])))) (bAnd (vTest (op3 leM leM (op2 ixM (vVar 0) (vC (.int 1))) (vVar 3) (op2 ixM (vVar 0) (vC (.int 2))))) (vTest (vCall (r I__law_only) (aCons (vVar 4) (aCons (vC (.str [48, 49, 50, 51, 52, 53, 54, 55, 56, 57])) aNil))))))
    (sExpr (vAppend (vVar 2) (vTup (aCons (vVar 4) (aCons (vVar 3) aNil)))))
    sNext)
    (sSeq (sIf (bAnd (vTest (op2 eqM (op2 ixM (vVar 0) (vC (.int 0))) (vC (.str [108, 101, 116, 116, 101, 114, 115])))) (bAnd (vTest (op3 leM leM (op2 ixM (vVar 0) (vC (.int 1))) (vVar 3) (op2 ixM (vVar 0) (vC (.int 2))))) (vTest (vCall (r I__law_only) (aCons (vVar 4) (aCons (vC (.str [97, 98, 99, 100, 101, 102])) aNil))))))
    (sExpr (vAppend (vVar 2) (vTup (aCons (vVar 4) (aCons (vVar 3) aNil)))))
    sNext)
    (sIf (bAnd (vTest (op2 eqM (op2 ixM (vVar 0) (vC (.int 0))) (vC (.str [110, 117, 109, 98, 101, 114])))) (bAnd (vTest (op3 leM leM (vC (.int 1)) (vVar 3) (op2 ixM (vVar 0) (vC (.int 1))))) (vTest (vCall (r I__law_only) (aCons (vVar 4) (aCons (vC (.str [48, 49, 50, 51, 52, 53, 54, 55, 56, 57])) aNil))))))
    (sSet 2 (vAlloc (catOL (vVar 2) (repL (lLst (aCons (vTup (aCons (vCall intP (aCons (vVar 4) aNil)) (aCons (vVar 3) aNil))) aNil)) (vCall intP (aCons (op2 eqM (vCall strP (aCons (vCall intP (aCons (vVar 4) aNil)) aNil)) (vVar 4)) aNil))))))
    sNext))))))
    (sRet (vVar 2))))

def m__law_only (r : Nat → List D → MH → R D) : List D → MH → R D := fnM 2 3
  (sRet (lNil false (lcM (vSrc (vVar 0)) [2] (.nm 2) (vTest (op2 notInM (vVar 2) (vVar 1))) (vVar 2))))

def m__law_is_value (r : Nat → List D → MH → R D) : List D → MH → R D := fnM 2 4
  (sSeq (sIf (vTest (op2 eqM (op2 ixM (vVar 0) (vC (.int 0))) (vC (.str [114, 101, 112, 101, 97, 116]))))
    (sSeq (sIf (bOr (bNot (vTest (vCall isiP (aCons (vVar 1) (aCons (vC (.ty 3)) aNil))))) (bNot (vTest (op3 leM leM (op2 ixM (vVar 0) (vC (.int 2))) (vCall lenV (aCons (vVar 1) aNil)) (op2 ixM (vVar 0) (vC (.int 3)))))))
    (sRet (vC (.bl false)))
    sNext)
    (sRet (lNil false (lcM (vSrc (vVar 1)) [3] (.nm 3) (bNot (vTest (vCall (r I__law_is_value) (aCons (op2 ixM (vVar 0) (vC (.int 1))) (aCons (vVar 3) aNil))))) (vVar 3)))))
    sNext)
    (sSeq (sIf (vTest (op2 eqM (op2 ixM (vVar 0) (vC (.int 0))) (vC (.str [110, 117, 109, 98, 101, 114]))))
    (sSeq (sSet 2 (op2 ixM (vTup (aCons (vC (.int 10)) (aCons (vC (.int 100)) (aCons (vC (.int 1000)) (aCons (vC (.int 10000)) aNil))))) (op2 subM (op2 ixM (vVar 0) (vC (.int 1))) (vC (.int 1)))))
    (sRet (vAnd (vCall isiP (aCons (vVar 1) (aCons (vC (.ty 0)) aNil))) (vAnd (vNot (vCall isiP (aCons (vVar 1) (aCons (vC (.ty 1)) aNil)))) (op3 leM ltM (vC (.int 0)) (vVar 1) (vVar 2))))))
    sNext)
    (sSeq (sIf (bNot (vTest (vCall isiP (aCons (vVar 1) (aCons (vC (.ty 2)) aNil)))))
    (sRet (vC (.bl false)))
    sNext)
    (sRet (op2 inM (vTup (aCons (vVar 1) (aCons (vCall lenV (aCons (vVar 1) aNil)) aNil))) (vCall (r I__law_parts) (aCons (vVar 0) (aCons (vVar 1) aNil))))))))

def m__law_lengths (r : Nat → List D → MH → R D) : List D → MH → R D := fnM 1 4
  (sSeq (sIf (vTest (op2 eqM (op2 ixM (vVar 0) (vC (.int 0))) (vC (.str [114, 101, 112, 101, 97, 116]))))
    (sSeq (sUnp (.tp [1, 2]) (vCall (r I__law_lengths) (aCons (op2 ixM (vVar 0) (vC (.int 1))) aNil)))
    (sRet (vTup (aCons (op2 mulM (vVar 1) (op2 ixM (vVar 0) (vC (.int 2)))) (aCons (op2 mulM (vVar 2) (op2 ixM (vVar 0) (vC (.int 3)))) aNil)))))
    sNext)
    (sSeq (sIf (vTest (op2 eqM (op2 ixM (vVar 0) (vC (.int 0))) (vC (.str [119, 111, 114, 100]))))
    (sRet (vTup (aCons (vCall lenV (aCons (op2 ixM (vVar 0) (vC (.int 1))) aNil)) (aCons (vCall lenV (aCons (op2 ixM (vVar 0) (vC (.int 1))) aNil)) aNil))))
    sNext)
    (sSeq (sIf (vTest (op2 eqM (op2 ixM (vVar 0) (vC (.int 0))) (vC (.str [99, 104, 111, 105, 99, 101]))))
    (sRet (vTup (aCons (vL minP (lcM (vSrc (op2 ixM (vVar 0) (vC (.int 1)))) [3] (.nm 3) bTrue (vCall lenV (aCons (vVar 3) aNil)))) (aCons (vL maxP (lcM (vSrc (op2 ixM (vVar 0) (vC (.int 1)))) [3] (.nm 3) bTrue (vCall lenV (aCons (vVar 3) aNil)))) aNil))))
    sNext)
    (sRet (vIf (vTest (op2 eqM (op2 ixM (vVar 0) (vC (.int 0))) (vC (.str [110, 117, 109, 98, 101, 114])))) (vTup (aCons (vC (.int 1)) (aCons (op2 ixM (vVar 0) (vC (.int 1))) aNil))) (vTup (aCons (op2 ixM (vVar 0) (vC (.int 1))) (aCons (op2 ixM (vVar 0) (vC (.int 2))) aNil))))))))

def m_law (r : Nat → List D → MH → R D) : List D → MH → R D := fnM 1 15
  (sSeq (sSet 1 (vCall (r I__law_town) (aCons (vVar 0) aNil)))
    (sSeq (sSet 2 (vCall (r I__law_form) (aCons (vVar 0) (aCons (vVar 1) (aCons (vC (.int 6)) (aCons (vC (.int 4)) aNil))))))
    (sSeq (sSet 3 (vCall (r I__law_record) (aCons (vVar 0) (aCons (vVar 1) (aCons (vVar 2) aNil)))))
    (sSeq (sSet 4 (vCall (r I__law_text) (aCons (vVar 3) aNil)))
    (sSeq (sIf (bOr (vTest (op2 isNotM (vCall (r I_is_record) (aCons (vVar 2) (aCons (vVar 3) aNil))) (vC (.bl true)))) (vTest (op2 neM (vCall (r I_text_of) (aCons (vVar 2) (aCons (vVar 3) aNil))) (vVar 4))))
    (sRet (vC (.bl false)))
    sNext)
    (sSeq (sSet 5 (vL sumP (lcM (vSrc (vVar 2)) [13] (.nm 13) bTrue (op2 ixM (vCall (r I__law_lengths) (aCons (vVar 13) aNil)) (vC (.int 0))))))
    (sSeq (sSet 6 (vL sumP (lcM (vSrc (vVar 2)) [13] (.nm 13) bTrue (op2 ixM (vCall (r I__law_lengths) (aCons (vVar 13) aNil)) (vC (.int 1))))))
    (sSeq (sIf (bOr (vTest (op2 neM (vCall (r I_shortest_length) (aCons (vVar 2) aNil)) (vVar 5))) (bOr (vTest (op2 neM (vCall (r I_longest_length) (aCons (vVar 2) aNil)) (vVar 6))) (bNot (vTest (op3 leM leM (vVar 5) (vCall lenV (aCons (vVar 4) aNil)) (vVar 6))))))
    (sRet (vC (.bl false)))
    sNext)
    (sSeq (sSet 7 (vAlloc (lLst (aCons (vC .non) (aCons (vC (.int 5)) (aCons (vC (.int 0)) (aCons (vC (.int (-1))) (aCons (vC (.int 10000)) (aCons (vC (.bl true)) (aCons (vC (.str [])) (aCons (vC (.str [97])) (aCons (vC (.str [45])) (aCons (vC (.str [48, 48])) (aCons (vC (.str [97, 97, 97, 97, 97])) (aCons (vC (.str [53])) (aCons (vTup aNil) (aCons (vTup (aCons (vC (.str [97])) aNil)) (aCons (vTup (aCons (vC (.str [])) (aCons (vC (.str [])) aNil))) (aCons (vTup (aCons (vC (.int 5)) aNil)) (aCons (vAlloc (lLst (aCons (vC (.int 5)) aNil))) aNil))))))))))))))))))))
    (sSeq (sSet 7 (vAlloc (catOL (vVar 7) (lLst (aCons (op2 mulM (vTup (aCons (vC (.str [97])) aNil)) (vC (.int 4))) (aCons (vC (.str [103])) aNil))))))
    (sSeq (sFor (aSrc rng1 (aCons (vC (.int 8)) aNil)) (.nm 8)
    (sSeq (sSet 9 (vCall (r I__law_draw) (aCons (vVar 0) (aCons (vVar 1) (aCons (vCall lenV (aCons (vVar 2) aNil)) aNil)))))
    (sSeq (sSet 10 (vCall (r I__law_pick) (aCons (vVar 0) (aCons (vVar 1) (aCons (vVar 7) aNil)))))
    (sSeq (sIf (vTest (op2 eqM (vCall (r I__law_draw) (aCons (vVar 0) (aCons (vVar 1) (aCons (vC (.int 3)) aNil)))) (vC (.int 0))))
    (sSet 10 (vCall (r I__law_value) (aCons (vVar 0) (aCons (vVar 1) (aCons (vCall (r I__law_pick) (aCons (vVar 0) (aCons (vVar 1) (aCons (vVar 2) aNil)))) aNil)))))
    sNext)
    (sSeq (sSet 11 (op2 addM (op2 addM (vSl (vVar 3) none (some (vVar 9))) (vTup (aCons (vVar 10) aNil))) (vSl (vVar 3) (some (op2 addM (vVar 9) (vC (.int 1)))) none)))
    (sIf (vTest (op2 neM (vCall (r I_is_record) (aCons (vVar 2) (aCons (vVar 11) aNil))) (vCall (r I__law_is_value) (aCons (op2 ixM (vVar 2) (vVar 9)) (aCons (vVar 10) aNil)))))
    (sRet (vC (.bl false)))
    sNext))))))
    (sSeq (sSet 12 (vAlloc (lLst (aCons (vC .non) (aCons (vC (.int 5)) (aCons (vTup aNil) (aCons (vAlloc (lCall listP (aCons (vVar 3) aNil))) (aCons (op2 addM (vVar 3) (vSl (vVar 3) none (some (vC (.int 1))))) (aCons (vSl (vVar 3) (some (vC (.int 1))) none) (aCons (vVar 4) aNil))))))))))
    (sRet (lNil false (lcM (vSrc (vVar 12)) [14] (.nm 14) (vTest (op2 isNotM (vCall (r I_is_record) (aCons (vVar 2) (aCons (vVar 14) aNil))) (vC (.bl false)))) (vVar 14))))))))))))))))
def tbl (r : Nat → List D → MH → R D) : Nat → List D → MH → R D
  | 0 => m_is_between r
  | 1 => m_is_text r
  | 2 => m_is_span r
  | 3 => m_is_simple r
  | 4 => m_is_field r
  | 5 => m_is_format r
  | 6 => m_check_format r
  | 7 => m_only r
  | 8 => m_is_value r
  | 9 => m_is_listed r
  | 10 => m_is_record r
  | 11 => m_check_record r
  | 12 => m_part_text r
  | 13 => m_text_of r
  | 14 => m_bounds_of r
  | 15 => m_shortest_length r
  | 16 => m_longest_length r
  | 17 => m__law_town r
  | 18 => m__law_draw r
  | 19 => m__law_pick r
  | 20 => m__law_signs r
  | 21 => m__law_simple r
  | 22 => m__law_field r
  | 23 => m__law_form r
  | 24 => m__law_value r
  | 25 => m__law_record r
  | 26 => m__law_text r
  | 27 => m__law_parts r
  | 28 => m__law_only r
  | 29 => m__law_is_value r
  | 30 => m__law_lengths r
  | 31 => m_law r
  | _ => fun _ _ => .err
def run : Nat → Nat → List D → MH → R D
  | 0 => fun _ _ _ => .err
  | k + 1 => tbl (run k)
theorem e_is_between {k : Nat} : run (k + 1) I_is_between = m_is_between (run k) := rfl
theorem e_is_text {k : Nat} : run (k + 1) I_is_text = m_is_text (run k) := rfl
theorem e_is_span {k : Nat} : run (k + 1) I_is_span = m_is_span (run k) := rfl
theorem e_is_simple {k : Nat} : run (k + 1) I_is_simple = m_is_simple (run k) := rfl
theorem e_is_field {k : Nat} : run (k + 1) I_is_field = m_is_field (run k) := rfl
theorem e_is_format {k : Nat} : run (k + 1) I_is_format = m_is_format (run k) := rfl
theorem e_check_format {k : Nat} : run (k + 1) I_check_format = m_check_format (run k) := rfl
theorem e_only {k : Nat} : run (k + 1) I_only = m_only (run k) := rfl
theorem e_is_value {k : Nat} : run (k + 1) I_is_value = m_is_value (run k) := rfl
theorem e_is_listed {k : Nat} : run (k + 1) I_is_listed = m_is_listed (run k) := rfl
theorem e_is_record {k : Nat} : run (k + 1) I_is_record = m_is_record (run k) := rfl
theorem e_check_record {k : Nat} : run (k + 1) I_check_record = m_check_record (run k) := rfl
theorem e_part_text {k : Nat} : run (k + 1) I_part_text = m_part_text (run k) := rfl
theorem e_text_of {k : Nat} : run (k + 1) I_text_of = m_text_of (run k) := rfl
theorem e_bounds_of {k : Nat} : run (k + 1) I_bounds_of = m_bounds_of (run k) := rfl
theorem e_shortest_length {k : Nat} : run (k + 1) I_shortest_length = m_shortest_length (run k) := rfl
theorem e_longest_length {k : Nat} : run (k + 1) I_longest_length = m_longest_length (run k) := rfl
theorem e__law_town {k : Nat} : run (k + 1) I__law_town = m__law_town (run k) := rfl
theorem e__law_draw {k : Nat} : run (k + 1) I__law_draw = m__law_draw (run k) := rfl
theorem e__law_pick {k : Nat} : run (k + 1) I__law_pick = m__law_pick (run k) := rfl
theorem e__law_signs {k : Nat} : run (k + 1) I__law_signs = m__law_signs (run k) := rfl
theorem e__law_simple {k : Nat} : run (k + 1) I__law_simple = m__law_simple (run k) := rfl
theorem e__law_field {k : Nat} : run (k + 1) I__law_field = m__law_field (run k) := rfl
theorem e__law_form {k : Nat} : run (k + 1) I__law_form = m__law_form (run k) := rfl
theorem e__law_value {k : Nat} : run (k + 1) I__law_value = m__law_value (run k) := rfl
theorem e__law_record {k : Nat} : run (k + 1) I__law_record = m__law_record (run k) := rfl
theorem e__law_text {k : Nat} : run (k + 1) I__law_text = m__law_text (run k) := rfl
theorem e__law_parts {k : Nat} : run (k + 1) I__law_parts = m__law_parts (run k) := rfl
theorem e__law_only {k : Nat} : run (k + 1) I__law_only = m__law_only (run k) := rfl
theorem e__law_is_value {k : Nat} : run (k + 1) I__law_is_value = m__law_is_value (run k) := rfl
theorem e__law_lengths {k : Nat} : run (k + 1) I__law_lengths = m__law_lengths (run k) := rfl
theorem e_law {k : Nat} : run (k + 1) I_law = m_law (run k) := rfl
end FT
end
section
set_option maxRecDepth 100000
namespace FT
open PySem L2
set_option autoImplicit false
/-! ### drawing -/
def Drw (ns : List Int) (t b : Nat) (lim : Int) (h : MH) (v : D) (h' : MH) : Prop := ∃ i : Int, v = .int i ∧ 0 ≤ i ∧ i < lim ∧ Twn ns t b h' ∧ Fr t h h'
theorem set_twn {h : MH} {t : Nat} {c : Nat} {cs : List Int} {v : D} (e : h[t]? = some (.lst (.int c :: cs.map .int))) : setM (.obj t) (.int 0) v h = some (h.set t (.lst (v :: cs.map .int))) := by
  simp [setM, e, ixN]
theorem set_twn1 {h : MH} {t j : Nat} {c : Int} {cs : List Int} {v : D} (e : h[t]? = some (.lst (.int c :: cs.map .int))) (hj : j < cs.length) : setM (.obj t) (.int (1 + (j : Int))) v h = some (h.set t (.lst (.int c :: (cs.map .int).set j v))) := by
  have : ixN (cs.length + 1) (1 + (j : Int)) = some (j + 1) := by
    have := ixN_nat (n := cs.length + 1) (j := j + 1) (by omega)
    rw [show (1 + (j : Int)) = ((j + 1 : Nat) : Int) by omega]
    exact this
  simp [setM, e, this]
theorem s_draw {k : Nat} {ns : List Int} {t b : Nat} {lim : Int} {h : MH} (T : Twn ns t b h) (hb : b < 2 ^ 60) (h0 : 0 < lim) (h1 : lim < 1073741824) :
    Ok (run (k + 1) I__law_draw [.rol (ns.map .int), .obj t, .int lim] h) (Drw ns t (b + 1) lim h) := by
  have tl := T.lt
  obtain ⟨c, cs, e, el, hc⟩ := T
  rw [e__law_draw]
  unfold m__law_draw
  have g0 : ∀ (h : MH) (c : Nat) (xs : List D), h[t]? = some (.lst (.int c :: xs)) → ixM (.obj t) (.int 0) h = .ok (.int c) h := fun h c xs e => by simp [ixM, e, atI_0]
  have t1 : (h.set t (.lst (.int ((c + 1 : Nat) : Int) :: cs.map .int)))[t]? = some (.lst (.int ((c + 1 : Nat) : Int) :: cs.map .int)) := by simp [tl]
  simp only [w_bind, w_noX, w_ok, w_C, w_op2, w_asB, w_op3, w_and, w_or, w_not, w_test, w_bAnd, w_bOr, w_bNot, w_if, w_lif, w_tup, w_lst, w_alloc, w_vL, w_call, w_aNil, w_aCons, w_lCall, w_append, w_nil, w_lnil, w_seq, w_next, w_ret, w_set, w_expr, w_sif, w_sub, w_unp, w_fn1, w_fn2, w_fn3, w_fn4, w_fn5, w_join, w_vSrc, w_aSrc, w_lSrc, w_catLL, w_catOL, w_repL, w_sortV, w_asI, w_slE0, w_slE1, w_sl, q_srcT, q_srcS, q_srcR, q_zipT, q_slT, w_lc, w_forS, Int.toNat_natCast, v_0, v_S, List.replicate_succ, List.replicate_zero, Nat.reduceSub, List.getElem?_cons_zero, List.getElem?_cons_succ, List.set_cons_zero, List.set_cons_succ, if_true, if_false, Bool.false_eq_true, Bool.not_true, Bool.not_false, q_add, q_addT, q_addS, q_sub, q_eq, q_eqS, q_eqB, q_ne, q_neS, q_neB, q_lt, q_ltS, q_le, q_gt, q_ge, q_in1, q_nin1, q_isN, q_isnN, q_isB, q_isnB, q_isiI0, q_isiI1, q_isiI2, q_isiI3, q_isiI4, q_isiI5, q_isiB0, q_isiB1, q_isiB2, q_isiB3, q_isiB4, q_isiB5, q_isiS0, q_isiS1, q_isiS2, q_isiS3, q_isiS4, q_isiS5, q_isiT0, q_isiT1, q_isiT2, q_isiT3, q_isiT4, q_isiT5, q_isiR0, q_isiR1, q_isiR2, q_isiR3, q_isiR4, q_isiR5, q_isiN0, q_isiN1, q_isiN2, q_isiN3, q_isiN4, q_isiN5, q_lenS, q_lenT, q_lenR, q_min2, q_max2, q_strS, q_tupP, ix_0, ix_1, ix_2, ix_3, g0 h c _ e, set_twn e]
  rw [show ((c : Int) + 1) = ((c + 1 : Nat) : Int) by omega]
  generalize hh : h.set t (.lst (.int ((c + 1 : Nat) : Int) :: cs.map .int)) = h2 at *
  have fr : Fr t h h2 := hh ▸ Fr.set
  have T2 : Twn ns t (b + 1) h2 := ⟨c + 1, cs, t1, el, by omega⟩
  have tl2 := T2.lt
  have G0 := g0 h2 _ _ t1
  have hcb : ((c + 1 : Nat) : Int) < 2 ^ 62 := by omega
  clear hh
  generalize hc' : ((c + 1 : Nat) : Int) = C at *
  have C0 : 0 ≤ C := by omega
  cases ns with
  | nil =>
    have m1 : mulOk C C = true := by simp only [mulOk]; simp; omega
    have m2 : mulOk (C * C) 7 = true := by simp [mulOk]
    simp only [List.map_nil, listItems, List.isEmpty_nil, w_bind, w_noX, w_ok, w_C, w_op2, w_asB, w_op3, w_and, w_or, w_not, w_test, w_bAnd, w_bOr, w_bNot, w_if, w_lif, w_tup, w_lst, w_alloc, w_vL, w_call, w_aNil, w_aCons, w_lCall, w_append, w_nil, w_lnil, w_seq, w_next, w_ret, w_set, w_expr, w_sif, w_sub, w_unp, w_fn1, w_fn2, w_fn3, w_fn4, w_fn5, w_join, w_vSrc, w_aSrc, w_lSrc, w_catLL, w_catOL, w_repL, w_sortV, w_asI, w_slE0, w_slE1, w_sl, q_srcT, q_srcS, q_srcR, q_zipT, q_slT, w_lc, w_forS, Int.toNat_natCast, v_0, v_S, List.replicate_succ, List.replicate_zero, Nat.reduceSub, List.getElem?_cons_zero, List.getElem?_cons_succ, List.set_cons_zero, List.set_cons_succ, if_true, if_false, Bool.false_eq_true, Bool.not_true, Bool.not_false, q_add, q_addT, q_addS, q_sub, q_eq, q_eqS, q_eqB, q_ne, q_neS, q_neB, q_lt, q_ltS, q_le, q_gt, q_ge, q_in1, q_nin1, q_isN, q_isnN, q_isB, q_isnB, q_isiI0, q_isiI1, q_isiI2, q_isiI3, q_isiI4, q_isiI5, q_isiB0, q_isiB1, q_isiB2, q_isiB3, q_isiB4, q_isiB5, q_isiS0, q_isiS1, q_isiS2, q_isiS3, q_isiS4, q_isiS5, q_isiT0, q_isiT1, q_isiT2, q_isiT3, q_isiT4, q_isiT5, q_isiR0, q_isiR1, q_isiR2, q_isiR3, q_isiR4, q_isiR5, q_isiN0, q_isiN1, q_isiN2, q_isiN3, q_isiN4, q_isiN5, q_lenS, q_lenT, q_lenR, q_min2, q_max2, q_strS, q_tupP, ix_0, ix_1, ix_2, ix_3, G0, q_mul m1, q_mul m2]
    rw [q_fdiv (by decide) (by decide), w_ok, q_mod h0, w_ok]
    exact ⟨_, rfl, Int.emod_nonneg _ (by omega), Int.emod_lt_of_pos _ h0, T2, fr⟩
  | cons n ns =>
    simp only [List.map_cons, listItems, List.isEmpty_cons, w_bind, w_noX, w_ok, w_C, w_op2, w_asB, w_op3, w_and, w_or, w_not, w_test, w_bAnd, w_bOr, w_bNot, w_if, w_lif, w_tup, w_lst, w_alloc, w_vL, w_call, w_aNil, w_aCons, w_lCall, w_append, w_nil, w_lnil, w_seq, w_next, w_ret, w_set, w_expr, w_sif, w_sub, w_unp, w_fn1, w_fn2, w_fn3, w_fn4, w_fn5, w_join, w_vSrc, w_aSrc, w_lSrc, w_catLL, w_catOL, w_repL, w_sortV, w_asI, w_slE0, w_slE1, w_sl, q_srcT, q_srcS, q_srcR, q_zipT, q_slT, w_lc, w_forS, Int.toNat_natCast, v_0, v_S, List.replicate_succ, List.replicate_zero, Nat.reduceSub, List.getElem?_cons_zero, List.getElem?_cons_succ, List.set_cons_zero, List.set_cons_succ, if_true, if_false, Bool.false_eq_true, Bool.not_true, Bool.not_false, q_add, q_addT, q_addS, q_sub, q_eq, q_eqS, q_eqB, q_ne, q_neS, q_neB, q_lt, q_ltS, q_le, q_gt, q_ge, q_in1, q_nin1, q_isN, q_isnN, q_isB, q_isnB, q_isiI0, q_isiI1, q_isiI2, q_isiI3, q_isiI4, q_isiI5, q_isiB0, q_isiB1, q_isiB2, q_isiB3, q_isiB4, q_isiB5, q_isiS0, q_isiS1, q_isiS2, q_isiS3, q_isiS4, q_isiS5, q_isiT0, q_isiT1, q_isiT2, q_isiT3, q_isiT4, q_isiT5, q_isiR0, q_isiR1, q_isiR2, q_isiR3, q_isiR4, q_isiR5, q_isiN0, q_isiN1, q_isiN2, q_isiN3, q_isiN4, q_isiN5, q_lenS, q_lenT, q_lenR, q_min2, q_max2, q_strS, q_tupP, ix_0, ix_1, ix_2, ix_3, G0, List.length_cons, List.length_map]
    have hp : (0 : Int) < ((ns.length + 1 : Nat) : Int) := by omega
    rw [q_mod hp, w_ok]
    have n0 : (0 : Int) ≤ C % ((ns.length + 1 : Nat) : Int) := Int.emod_nonneg _ (by omega)
    have n1 : C % ((ns.length + 1 : Nat) : Int) < ((ns.length + 1 : Nat) : Int) := Int.emod_lt_of_pos _ hp
    obtain ⟨j, hj⟩ : ∃ j : Nat, C % ((ns.length + 1 : Nat) : Int) = (j : Int) := ⟨_, (Int.toNat_of_nonneg n0).symm⟩
    rw [hj] at n0 n1 ⊢
    have jl : j < cs.length := by rw [el]; simp only [List.length_cons]; omega
    have gj : ixM (.obj t) (.int (1 + (j : Int))) h2 = .ok (.int cs[j]) h2 := by
      have : atI (D.int C :: cs.map .int) ((j + 1 : Nat) : Int) = some (.int cs[j]) := atI_nat (by simp [jl])
      rw [show (1 + (j : Int)) = ((j + 1 : Nat) : Int) by omega]
      unfold ixM
      simp only [t1, this]
    obtain ⟨q, gs⟩ : ∃ q, ixM (.rol (D.int n :: ns.map .int)) (.int (j : Int)) h2 = .ok (.int q) h2 := by
      have hj2 : j < (n :: ns).length := by rw [el] at jl; exact jl
      have : atI (D.int n :: ns.map .int) (j : Int) = some (.int (n :: ns)[j]) := atI_nat (by
        have := List.getElem?_map (f := D.int) (l := n :: ns) (i := j)
        simp only [List.map_cons] at this
        rw [this, List.getElem?_eq_getElem hj2]; rfl)
      exact ⟨(n :: ns)[j], by unfold ixM; simp only [this]⟩
    obtain ⟨Z, p1⟩ : ∃ Z : Int, ∀ h, powM (.int 10) (.int 18) h = .ok (.int Z) h := ⟨_, fun h => q_pow (by omega) (by omega) (by omega)⟩
    simp only [w_bind, w_noX, w_ok, w_C, w_op2, w_asB, w_op3, w_and, w_or, w_not, w_test, w_bAnd, w_bOr, w_bNot, w_if, w_lif, w_tup, w_lst, w_alloc, w_vL, w_call, w_aNil, w_aCons, w_lCall, w_append, w_nil, w_lnil, w_seq, w_next, w_ret, w_set, w_expr, w_sif, w_sub, w_unp, w_fn1, w_fn2, w_fn3, w_fn4, w_fn5, w_join, w_vSrc, w_aSrc, w_lSrc, w_catLL, w_catOL, w_repL, w_sortV, w_asI, w_slE0, w_slE1, w_sl, q_srcT, q_srcS, q_srcR, q_zipT, q_slT, w_lc, w_forS, Int.toNat_natCast, v_0, v_S, List.replicate_succ, List.replicate_zero, Nat.reduceSub, List.getElem?_cons_zero, List.getElem?_cons_succ, List.set_cons_zero, List.set_cons_succ, if_true, if_false, Bool.false_eq_true, Bool.not_true, Bool.not_false, q_add, q_addT, q_addS, q_sub, q_eq, q_eqS, q_eqB, q_ne, q_neS, q_neB, q_lt, q_ltS, q_le, q_gt, q_ge, q_in1, q_nin1, q_isN, q_isnN, q_isB, q_isnB, q_isiI0, q_isiI1, q_isiI2, q_isiI3, q_isiI4, q_isiI5, q_isiB0, q_isiB1, q_isiB2, q_isiB3, q_isiB4, q_isiB5, q_isiS0, q_isiS1, q_isiS2, q_isiS3, q_isiS4, q_isiS5, q_isiT0, q_isiT1, q_isiT2, q_isiT3, q_isiT4, q_isiT5, q_isiR0, q_isiR1, q_isiR2, q_isiR3, q_isiR4, q_isiR5, q_isiN0, q_isiN1, q_isiN2, q_isiN3, q_isiN4, q_isiN5, q_lenS, q_lenT, q_lenR, q_min2, q_max2, q_strS, q_tupP, ix_0, ix_1, ix_2, ix_3, gj, gs, p1]
    have fin : ∀ i : Int, 0 ≤ i → i < lim → Drw (n :: ns) t (b + 1) lim h (.int i) h2 := fun i a0 a1 => ⟨_, rfl, a0, a1, T2, fr⟩
    obtain ⟨F, p2⟩ : ∃ F : Int → Int, ∀ a h, powM (.int (a % 4294967291)) (.int 5) h = .ok (.int (F a)) h := ⟨_, fun a h => by
      have a0 : 0 ≤ a % 4294967291 := Int.emod_nonneg _ (by decide)
      have a1 : a % 4294967291 < 4294967291 := Int.emod_lt_of_pos _ (by decide)
      exact q_pow (by omega) (by omega) (by omega)⟩
    have m1 : mulOk 104729 C = true := by simp [mulOk]
    have m2 : ∀ a, mulOk a 69621 = true := fun a => by simp [mulOk]
    have d1 : ∀ a h, modM (.int a) (.int 4294967291) h = .ok (.int (a % 4294967291)) h := fun a h => q_mod (by decide)
    have d2 : ∀ a h, modM (.int a) (.int 4294967279) h = .ok (.int (a % 4294967279)) h := fun a h => q_mod (by decide)
    have d3 : ∀ a h, modM (.int a) (.int 4294967231) h = .ok (.int (a % 4294967231)) h := fun a h => q_mod (by decide)
    have f1 : ∀ a h, fdivM (.int a) (.int 64) h = .ok (.int (a / 64)) h := fun a h => q_fdiv (by decide) (by decide)
    have f2 : ∀ a h, fdivM (.int a) (.int 8) h = .ok (.int (a / 8)) h := fun a h => q_fdiv (by decide) (by decide)
    have f3 : ∀ a h, modM (.int a) (.int lim) h = .ok (.int (a % lim)) h := fun a h => q_mod h0
    have f4 : ∀ a h, fdivM (.int a) (.int lim) h = .ok (.int (a / lim)) h := fun a h => q_fdiv h0 h1
    have E0 : ∀ a : Int, 0 ≤ a % lim := fun a => Int.emod_nonneg _ (by omega)
    have E1 : ∀ a : Int, a % lim < lim := fun a => Int.emod_lt_of_pos _ h0
    by_cases q1 : Z ≤ q
    · by_cases q2 : 0 < cs[j]
      · simp only [q1, q2, decide_true, w_bind, w_noX, w_ok, w_C, w_op2, w_asB, w_op3, w_and, w_or, w_not, w_test, w_bAnd, w_bOr, w_bNot, w_if, w_lif, w_tup, w_lst, w_alloc, w_vL, w_call, w_aNil, w_aCons, w_lCall, w_append, w_nil, w_lnil, w_seq, w_next, w_ret, w_set, w_expr, w_sif, w_sub, w_unp, w_fn1, w_fn2, w_fn3, w_fn4, w_fn5, w_join, w_vSrc, w_aSrc, w_lSrc, w_catLL, w_catOL, w_repL, w_sortV, w_asI, w_slE0, w_slE1, w_sl, q_srcT, q_srcS, q_srcR, q_zipT, q_slT, w_lc, w_forS, Int.toNat_natCast, v_0, v_S, List.replicate_succ, List.replicate_zero, Nat.reduceSub, List.getElem?_cons_zero, List.getElem?_cons_succ, List.set_cons_zero, List.set_cons_succ, if_true, if_false, Bool.false_eq_true, Bool.not_true, Bool.not_false, q_add, q_addT, q_addS, q_sub, q_eq, q_eqS, q_eqB, q_ne, q_neS, q_neB, q_lt, q_ltS, q_le, q_gt, q_ge, q_in1, q_nin1, q_isN, q_isnN, q_isB, q_isnB, q_isiI0, q_isiI1, q_isiI2, q_isiI3, q_isiI4, q_isiI5, q_isiB0, q_isiB1, q_isiB2, q_isiB3, q_isiB4, q_isiB5, q_isiS0, q_isiS1, q_isiS2, q_isiS3, q_isiS4, q_isiS5, q_isiT0, q_isiT1, q_isiT2, q_isiT3, q_isiT4, q_isiT5, q_isiR0, q_isiR1, q_isiR2, q_isiR3, q_isiR4, q_isiR5, q_isiN0, q_isiN1, q_isiN2, q_isiN3, q_isiN4, q_isiN5, q_lenS, q_lenT, q_lenR, q_min2, q_max2, q_strS, q_tupP, ix_0, ix_1, ix_2, ix_3, f4, set_twn1 t1 jl, f3]
        refine ⟨_, rfl, E0 _, E1 _, ⟨c + 1, cs.set j (cs[j] / lim), ?_, by simpa using el, by omega⟩, fr.trans Fr.set⟩
        rw [List.getElem?_set_self tl2, hc']
        simp
      · simp only [q1, q2, decide_true, decide_false, w_bind, w_noX, w_ok, w_C, w_op2, w_asB, w_op3, w_and, w_or, w_not, w_test, w_bAnd, w_bOr, w_bNot, w_if, w_lif, w_tup, w_lst, w_alloc, w_vL, w_call, w_aNil, w_aCons, w_lCall, w_append, w_nil, w_lnil, w_seq, w_next, w_ret, w_set, w_expr, w_sif, w_sub, w_unp, w_fn1, w_fn2, w_fn3, w_fn4, w_fn5, w_join, w_vSrc, w_aSrc, w_lSrc, w_catLL, w_catOL, w_repL, w_sortV, w_asI, w_slE0, w_slE1, w_sl, q_srcT, q_srcS, q_srcR, q_zipT, q_slT, w_lc, w_forS, Int.toNat_natCast, v_0, v_S, List.replicate_succ, List.replicate_zero, Nat.reduceSub, List.getElem?_cons_zero, List.getElem?_cons_succ, List.set_cons_zero, List.set_cons_succ, if_true, if_false, Bool.false_eq_true, Bool.not_true, Bool.not_false, q_add, q_addT, q_addS, q_sub, q_eq, q_eqS, q_eqB, q_ne, q_neS, q_neB, q_lt, q_ltS, q_le, q_gt, q_ge, q_in1, q_nin1, q_isN, q_isnN, q_isB, q_isnB, q_isiI0, q_isiI1, q_isiI2, q_isiI3, q_isiI4, q_isiI5, q_isiB0, q_isiB1, q_isiB2, q_isiB3, q_isiB4, q_isiB5, q_isiS0, q_isiS1, q_isiS2, q_isiS3, q_isiS4, q_isiS5, q_isiT0, q_isiT1, q_isiT2, q_isiT3, q_isiT4, q_isiT5, q_isiR0, q_isiR1, q_isiR2, q_isiR3, q_isiR4, q_isiR5, q_isiN0, q_isiN1, q_isiN2, q_isiN3, q_isiN4, q_isiN5, q_lenS, q_lenT, q_lenR, q_min2, q_max2, q_strS, q_tupP, ix_0, ix_1, ix_2, ix_3, gs, G0, q_mul m1, d1, p2, d2, f1, q_mul (m2 _), d3, f2, f3]
        exact fin _ (E0 _) (E1 _)
    · simp only [q1, decide_false, w_bind, w_noX, w_ok, w_C, w_op2, w_asB, w_op3, w_and, w_or, w_not, w_test, w_bAnd, w_bOr, w_bNot, w_if, w_lif, w_tup, w_lst, w_alloc, w_vL, w_call, w_aNil, w_aCons, w_lCall, w_append, w_nil, w_lnil, w_seq, w_next, w_ret, w_set, w_expr, w_sif, w_sub, w_unp, w_fn1, w_fn2, w_fn3, w_fn4, w_fn5, w_join, w_vSrc, w_aSrc, w_lSrc, w_catLL, w_catOL, w_repL, w_sortV, w_asI, w_slE0, w_slE1, w_sl, q_srcT, q_srcS, q_srcR, q_zipT, q_slT, w_lc, w_forS, Int.toNat_natCast, v_0, v_S, List.replicate_succ, List.replicate_zero, Nat.reduceSub, List.getElem?_cons_zero, List.getElem?_cons_succ, List.set_cons_zero, List.set_cons_succ, if_true, if_false, Bool.false_eq_true, Bool.not_true, Bool.not_false, q_add, q_addT, q_addS, q_sub, q_eq, q_eqS, q_eqB, q_ne, q_neS, q_neB, q_lt, q_ltS, q_le, q_gt, q_ge, q_in1, q_nin1, q_isN, q_isnN, q_isB, q_isnB, q_isiI0, q_isiI1, q_isiI2, q_isiI3, q_isiI4, q_isiI5, q_isiB0, q_isiB1, q_isiB2, q_isiB3, q_isiB4, q_isiB5, q_isiS0, q_isiS1, q_isiS2, q_isiS3, q_isiS4, q_isiS5, q_isiT0, q_isiT1, q_isiT2, q_isiT3, q_isiT4, q_isiT5, q_isiR0, q_isiR1, q_isiR2, q_isiR3, q_isiR4, q_isiR5, q_isiN0, q_isiN1, q_isiN2, q_isiN3, q_isiN4, q_isiN5, q_lenS, q_lenT, q_lenR, q_min2, q_max2, q_strS, q_tupP, ix_0, ix_1, ix_2, ix_3, gs, G0, q_mul m1, d1, p2, d2, f1, q_mul (m2 _), d3, f2, f3]
      exact fin _ (E0 _) (E1 _)
end FT
end
section
set_option maxRecDepth 100000
namespace FT
open PySem L2
set_option autoImplicit false
/-! ### what is drawn -/
def Gv (ns : List Int) (t b : Nat) (h : MH) (P : D → Prop) (v : D) (h' : MH) : Prop := P v ∧ Twn ns t b h' ∧ Fr t h h'
section
variable {k : Nat} {ns : List Int} {t b : Nat} {h : MH}
theorem s_pickT {ds : List D} (T : Twn ns t b h) (hb : b < 2 ^ 59) (h0 : ds ≠ []) (h1 : ds.length < 1000000) : Ok (run (k + 2) I__law_pick [.rol (ns.map .int), .obj t, .tup ds] h) (Gv ns t (b + 1) h (· ∈ ds)) := by
  rw [e__law_pick]
  unfold m__law_pick
  simp only [w_bind, w_noX, w_ok, w_C, w_op2, w_asB, w_op3, w_and, w_or, w_not, w_test, w_bAnd, w_bOr, w_bNot, w_if, w_lif, w_tup, w_lst, w_alloc, w_vL, w_call, w_aNil, w_aCons, w_lCall, w_append, w_nil, w_lnil, w_seq, w_next, w_ret, w_set, w_expr, w_sif, w_sub, w_unp, w_fn1, w_fn2, w_fn3, w_fn4, w_fn5, w_join, w_vSrc, w_aSrc, w_lSrc, w_catLL, w_catOL, w_repL, w_sortV, w_asI, w_slE0, w_slE1, w_sl, q_srcT, q_srcS, q_srcR, q_zipT, q_slT, w_lc, w_forS, Int.toNat_natCast, v_0, v_S, List.replicate_succ, List.replicate_zero, Nat.reduceSub, List.getElem?_cons_zero, List.getElem?_cons_succ, List.set_cons_zero, List.set_cons_succ, if_true, if_false, Bool.false_eq_true, Bool.not_true, Bool.not_false, q_add, q_addT, q_addS, q_sub, q_eq, q_eqS, q_eqB, q_ne, q_neS, q_neB, q_lt, q_ltS, q_le, q_gt, q_ge, q_in1, q_nin1, q_isN, q_isnN, q_isB, q_isnB, q_isiI0, q_isiI1, q_isiI2, q_isiI3, q_isiI4, q_isiI5, q_isiB0, q_isiB1, q_isiB2, q_isiB3, q_isiB4, q_isiB5, q_isiS0, q_isiS1, q_isiS2, q_isiS3, q_isiS4, q_isiS5, q_isiT0, q_isiT1, q_isiT2, q_isiT3, q_isiT4, q_isiT5, q_isiR0, q_isiR1, q_isiR2, q_isiR3, q_isiR4, q_isiR5, q_isiN0, q_isiN1, q_isiN2, q_isiN3, q_isiN4, q_isiN5, q_lenS, q_lenT, q_lenR, q_min2, q_max2, q_strS, q_tupP, ix_0, ix_1, ix_2, ix_3]
  have p0 : 0 < ds.length := List.length_pos_iff.mpr h0
  refine (s_draw T (by omega) (by omega) (by omega)).imp fun v h' p => ?_
  obtain ⟨i, rfl, i0, i1, T', F⟩ := p
  obtain ⟨d, hd, _, e⟩ := ix_tup (h := h') i0 i1
  rw [e, w_ok]
  exact ⟨hd, T', F⟩
theorem s_pickL {ds : List D} {n : Nat} (T : Twn ns t b h) (hb : b < 2 ^ 59) (hn : h[n]? = some (.lst ds)) (nt : n ≠ t) (h0 : ds ≠ []) (h1 : ds.length < 1000000) : Ok (run (k + 2) I__law_pick [.rol (ns.map .int), .obj t, .obj n] h) (Gv ns t (b + 1) h (· ∈ ds)) := by
  rw [e__law_pick]
  unfold m__law_pick
  have p0 : 0 < ds.length := List.length_pos_iff.mpr h0
  have l : lenV [.obj n] h = .ok (.int ds.length) h := by simp [lenV, itemsM, hn]
  simp only [w_bind, w_noX, w_ok, w_C, w_op2, w_asB, w_op3, w_and, w_or, w_not, w_test, w_bAnd, w_bOr, w_bNot, w_if, w_lif, w_tup, w_lst, w_alloc, w_vL, w_call, w_aNil, w_aCons, w_lCall, w_append, w_nil, w_lnil, w_seq, w_next, w_ret, w_set, w_expr, w_sif, w_sub, w_unp, w_fn1, w_fn2, w_fn3, w_fn4, w_fn5, w_join, w_vSrc, w_aSrc, w_lSrc, w_catLL, w_catOL, w_repL, w_sortV, w_asI, w_slE0, w_slE1, w_sl, q_srcT, q_srcS, q_srcR, q_zipT, q_slT, w_lc, w_forS, Int.toNat_natCast, v_0, v_S, List.replicate_succ, List.replicate_zero, Nat.reduceSub, List.getElem?_cons_zero, List.getElem?_cons_succ, List.set_cons_zero, List.set_cons_succ, if_true, if_false, Bool.false_eq_true, Bool.not_true, Bool.not_false, q_add, q_addT, q_addS, q_sub, q_eq, q_eqS, q_eqB, q_ne, q_neS, q_neB, q_lt, q_ltS, q_le, q_gt, q_ge, q_in1, q_nin1, q_isN, q_isnN, q_isB, q_isnB, q_isiI0, q_isiI1, q_isiI2, q_isiI3, q_isiI4, q_isiI5, q_isiB0, q_isiB1, q_isiB2, q_isiB3, q_isiB4, q_isiB5, q_isiS0, q_isiS1, q_isiS2, q_isiS3, q_isiS4, q_isiS5, q_isiT0, q_isiT1, q_isiT2, q_isiT3, q_isiT4, q_isiT5, q_isiR0, q_isiR1, q_isiR2, q_isiR3, q_isiR4, q_isiR5, q_isiN0, q_isiN1, q_isiN2, q_isiN3, q_isiN4, q_isiN5, q_lenS, q_lenT, q_lenR, q_min2, q_max2, q_strS, q_tupP, ix_0, ix_1, ix_2, ix_3, l]
  refine (s_draw T (by omega) (by omega) (by omega)).imp fun v h' p => ?_
  obtain ⟨i, rfl, i0, i1, T', F⟩ := p
  obtain ⟨d, hd, _, e⟩ := ix_obj (F.get hn nt) i0 i1
  rw [e, w_ok]
  exact ⟨hd, T', F⟩
def Signs (cs : Sg) (m : Nat) (v : D) : Prop := ∃ s : Sg, v = .str s ∧ s.length = m ∧ ∀ c ∈ s, c ∈ cs
theorem s_signs {cs : Sg} {m : Nat} (T : Twn ns t b h) (hb : b < 2 ^ 58) (h0 : cs ≠ []) (h1 : cs.length < 1000000) (hm : m ≤ 1000) : Ok (run (k + 3) I__law_signs [.rol (ns.map .int), .obj t, .str cs, .int m] h) (Gv ns t (b + m) h (Signs cs m)) := by
  rw [e__law_signs]
  unfold m__law_signs
  simp only [w_bind, w_noX, w_ok, w_C, w_op2, w_asB, w_op3, w_and, w_or, w_not, w_test, w_bAnd, w_bOr, w_bNot, w_if, w_lif, w_tup, w_lst, w_alloc, w_vL, w_call, w_aNil, w_aCons, w_lCall, w_append, w_nil, w_lnil, w_seq, w_next, w_ret, w_set, w_expr, w_sif, w_sub, w_unp, w_fn1, w_fn2, w_fn3, w_fn4, w_fn5, w_join, w_vSrc, w_aSrc, w_lSrc, w_catLL, w_catOL, w_repL, w_sortV, w_asI, w_slE0, w_slE1, w_sl, q_srcT, q_srcS, q_srcR, q_zipT, q_slT, w_lc, w_forS, Int.toNat_natCast, v_0, v_S, List.replicate_succ, List.replicate_zero, Nat.reduceSub, List.getElem?_cons_zero, List.getElem?_cons_succ, List.set_cons_zero, List.set_cons_succ, if_true, if_false, Bool.false_eq_true, Bool.not_true, Bool.not_false, q_add, q_addT, q_addS, q_sub, q_eq, q_eqS, q_eqB, q_ne, q_neS, q_neB, q_lt, q_ltS, q_le, q_gt, q_ge, q_in1, q_nin1, q_isN, q_isnN, q_isB, q_isnB, q_isiI0, q_isiI1, q_isiI2, q_isiI3, q_isiI4, q_isiI5, q_isiB0, q_isiB1, q_isiB2, q_isiB3, q_isiB4, q_isiB5, q_isiS0, q_isiS1, q_isiS2, q_isiS3, q_isiS4, q_isiS5, q_isiT0, q_isiT1, q_isiT2, q_isiT3, q_isiT4, q_isiT5, q_isiR0, q_isiR1, q_isiR2, q_isiR3, q_isiR4, q_isiR5, q_isiN0, q_isiN1, q_isiN2, q_isiN3, q_isiN4, q_isiN5, q_lenS, q_lenT, q_lenR, q_min2, q_max2, q_strS, q_tupP, ix_0, ix_1, ix_2, ix_3, q_rng1 (show (-1000 : Int) ≤ (m : Int) by omega) (show (m : Int) ≤ 1000000 by omega)]
  rw [w_lcI (by rw [upTo_len]; simp only [LIM]; omega)]
  refine lc_rng (fun j acc h' => Twn ns t (b + j) h' ∧ Fr t h h' ∧ ∃ s : List Sg, acc = s.map .str ∧ s.length = j ∧ ∀ x ∈ s, ∃ c ∈ cs, x = [c]) ⟨T, Fr.refl, [], rfl, rfl, fun x hx => by simp at hx⟩ ?_ ?_
  · rintro j acc h' hj ⟨T', F, s, rfl, e1, e2⟩
    have ls : listP [.str cs] h' = .ok (cs.map fun c => .str [c]) h' := if_pos (by simp only [LIM]; omega)
    simp only [wipeE, w_bind, w_noX, w_ok, w_C, w_op2, w_asB, w_op3, w_and, w_or, w_not, w_test, w_bAnd, w_bOr, w_bNot, w_if, w_lif, w_tup, w_lst, w_alloc, w_vL, w_call, w_aNil, w_aCons, w_lCall, w_append, w_nil, w_lnil, w_seq, w_next, w_ret, w_set, w_expr, w_sif, w_sub, w_unp, w_fn1, w_fn2, w_fn3, w_fn4, w_fn5, w_join, w_vSrc, w_aSrc, w_lSrc, w_catLL, w_catOL, w_repL, w_sortV, w_asI, w_slE0, w_slE1, w_sl, q_srcT, q_srcS, q_srcR, q_zipT, q_slT, w_lc, w_forS, Int.toNat_natCast, v_0, v_S, List.replicate_succ, List.replicate_zero, Nat.reduceSub, List.getElem?_cons_zero, List.getElem?_cons_succ, List.set_cons_zero, List.set_cons_succ, if_true, if_false, Bool.false_eq_true, Bool.not_true, Bool.not_false, q_add, q_addT, q_addS, q_sub, q_eq, q_eqS, q_eqB, q_ne, q_neS, q_neB, q_lt, q_ltS, q_le, q_gt, q_ge, q_in1, q_nin1, q_isN, q_isnN, q_isB, q_isnB, q_isiI0, q_isiI1, q_isiI2, q_isiI3, q_isiI4, q_isiI5, q_isiB0, q_isiB1, q_isiB2, q_isiB3, q_isiB4, q_isiB5, q_isiS0, q_isiS1, q_isiS2, q_isiS3, q_isiS4, q_isiS5, q_isiT0, q_isiT1, q_isiT2, q_isiT3, q_isiT4, q_isiT5, q_isiR0, q_isiR1, q_isiR2, q_isiR3, q_isiR4, q_isiR5, q_isiN0, q_isiN1, q_isiN2, q_isiN3, q_isiN4, q_isiN5, q_lenS, q_lenT, q_lenR, q_min2, q_max2, q_strS, q_tupP, ix_0, ix_1, ix_2, ix_3, ls]
    have tl := T'.lt
    refine (s_pickL (ds := cs.map fun c => .str [c]) T'.app (by omega) getElem?_app (by omega) (by simpa using h0) (by simpa using h1)).imp fun v h2 p => ?_
    obtain ⟨p1, p2, p3⟩ := p
    obtain ⟨c, hc, rfl⟩ := List.mem_map.mp p1
    refine ⟨by rw [show b + (j + 1) = b + j + 1 by omega]; exact p2, F.trans (Fr.app.trans p3), s ++ [[c]], by simp, by simp [e1], fun x hx => ?_⟩
    rcases List.mem_append.mp hx with hx | hx
    · exact e2 x hx
    · simp at hx
      exact ⟨c, hc, hx⟩
  · rintro acc h' ⟨T', F, s, rfl, e1, e2⟩
    have hl : ∀ l : List Sg, (∀ x ∈ l, ∃ c ∈ cs, x = [c]) → (l.map List.length).sum = l.length ∧ ∀ c ∈ l.flatten, c ∈ cs := by
      intro l
      induction l with
      | nil => intro _; exact ⟨rfl, fun c hc => by simp at hc⟩
      | cons x l ih =>
        intro hx
        obtain ⟨c, hc, rfl⟩ := hx x (List.mem_cons_self ..)
        have := ih fun y hy => hx y (List.mem_cons_of_mem _ hy)
        refine ⟨by simp [this.1]; omega, fun d hd => ?_⟩
        simp at hd
        rcases hd with rfl | ⟨y, hy, hd⟩
        · exact hc
        · exact this.2 d (by simp; exact ⟨y, hy, hd⟩)
    have := hl s e2
    rw [join_strs (by rw [this.1]; simp only [LIM]; omega), w_ok]
    exact ⟨⟨_, rfl, by rw [flat_len, this.1, e1], this.2⟩, T', F⟩
theorem insU_len (x : Sg) : ∀ l : List Sg, (insU x l).length ≤ l.length + 1 ∧ 1 ≤ (insU x l).length
  | [] => by simp [insU]
  | y :: r => by
    have := insU_len x r
    unfold insU
    split
    · simp
    · split <;> simp; omega
theorem sortU_len : ∀ l : List Sg, (sortU l).length ≤ l.length ∧ (l ≠ [] → 1 ≤ (sortU l).length)
  | [] => by simp [sortU]
  | x :: r => by
    have a := sortU_len r
    have b := insU_len x (sortU r)
    simp only [sortU, List.length_cons]
    exact ⟨by omega, fun _ => b.2⟩
theorem sign_ok : ∀ c ∈ [45, 48, 97], c ∈ cSigns := by decide
def IsSF (v : D) : Prop := ∃ f : SF, v = f.d ∧ f.Ok
theorem s_simple {m : Nat} (T : Twn ns t b h) (hb : b < 2 ^ 57) (h0 : 1 ≤ m) (h1 : m ≤ 4) : Ok (run (k + 4) I__law_simple [.rol (ns.map .int), .obj t, .int m] h) (Gv ns t (b + 100) h IsSF) := by
  rw [e__law_simple]
  unfold m__law_simple
  simp only [w_bind, w_noX, w_ok, w_C, w_op2, w_asB, w_op3, w_and, w_or, w_not, w_test, w_bAnd, w_bOr, w_bNot, w_if, w_lif, w_tup, w_lst, w_alloc, w_vL, w_call, w_aNil, w_aCons, w_lCall, w_append, w_nil, w_lnil, w_seq, w_next, w_ret, w_set, w_expr, w_sif, w_sub, w_unp, w_fn1, w_fn2, w_fn3, w_fn4, w_fn5, w_join, w_vSrc, w_aSrc, w_lSrc, w_catLL, w_catOL, w_repL, w_sortV, w_asI, w_slE0, w_slE1, w_sl, q_srcT, q_srcS, q_srcR, q_zipT, q_slT, w_lc, w_forS, Int.toNat_natCast, v_0, v_S, List.replicate_succ, List.replicate_zero, Nat.reduceSub, List.getElem?_cons_zero, List.getElem?_cons_succ, List.set_cons_zero, List.set_cons_succ, if_true, if_false, Bool.false_eq_true, Bool.not_true, Bool.not_false, q_add, q_addT, q_addS, q_sub, q_eq, q_eqS, q_eqB, q_ne, q_neS, q_neB, q_lt, q_ltS, q_le, q_gt, q_ge, q_in1, q_nin1, q_isN, q_isnN, q_isB, q_isnB, q_isiI0, q_isiI1, q_isiI2, q_isiI3, q_isiI4, q_isiI5, q_isiB0, q_isiB1, q_isiB2, q_isiB3, q_isiB4, q_isiB5, q_isiS0, q_isiS1, q_isiS2, q_isiS3, q_isiS4, q_isiS5, q_isiT0, q_isiT1, q_isiT2, q_isiT3, q_isiT4, q_isiT5, q_isiR0, q_isiR1, q_isiR2, q_isiR3, q_isiR4, q_isiR5, q_isiN0, q_isiN1, q_isiN2, q_isiN3, q_isiN4, q_isiN5, q_lenS, q_lenT, q_lenR, q_min2, q_max2, q_strS, q_tupP, ix_0, ix_1, ix_2, ix_3]
  refine (s_draw T (by omega) (by omega) (by omega)).imp fun v h1 p => ?_
  obtain ⟨way, rfl, w0, w1, T1, F1⟩ := p
  simp only [w_bind, w_noX, w_ok, w_C, w_op2, w_asB, w_op3, w_and, w_or, w_not, w_test, w_bAnd, w_bOr, w_bNot, w_if, w_lif, w_tup, w_lst, w_alloc, w_vL, w_call, w_aNil, w_aCons, w_lCall, w_append, w_nil, w_lnil, w_seq, w_next, w_ret, w_set, w_expr, w_sif, w_sub, w_unp, w_fn1, w_fn2, w_fn3, w_fn4, w_fn5, w_join, w_vSrc, w_aSrc, w_lSrc, w_catLL, w_catOL, w_repL, w_sortV, w_asI, w_slE0, w_slE1, w_sl, q_srcT, q_srcS, q_srcR, q_zipT, q_slT, w_lc, w_forS, Int.toNat_natCast, v_0, v_S, List.replicate_succ, List.replicate_zero, Nat.reduceSub, List.getElem?_cons_zero, List.getElem?_cons_succ, List.set_cons_zero, List.set_cons_succ, if_true, if_false, Bool.false_eq_true, Bool.not_true, Bool.not_false, q_add, q_addT, q_addS, q_sub, q_eq, q_eqS, q_eqB, q_ne, q_neS, q_neB, q_lt, q_ltS, q_le, q_gt, q_ge, q_in1, q_nin1, q_isN, q_isnN, q_isB, q_isnB, q_isiI0, q_isiI1, q_isiI2, q_isiI3, q_isiI4, q_isiI5, q_isiB0, q_isiB1, q_isiB2, q_isiB3, q_isiB4, q_isiB5, q_isiS0, q_isiS1, q_isiS2, q_isiS3, q_isiS4, q_isiS5, q_isiT0, q_isiT1, q_isiT2, q_isiT3, q_isiT4, q_isiT5, q_isiR0, q_isiR1, q_isiR2, q_isiR3, q_isiR4, q_isiR5, q_isiN0, q_isiN1, q_isiN2, q_isiN3, q_isiN4, q_isiN5, q_lenS, q_lenT, q_lenR, q_min2, q_max2, q_strS, q_tupP, ix_0, ix_1, ix_2, ix_3]
  by_cases c0 : way = 0
  · simp only [c0, decide_true, w_bind, w_noX, w_ok, w_C, w_op2, w_asB, w_op3, w_and, w_or, w_not, w_test, w_bAnd, w_bOr, w_bNot, w_if, w_lif, w_tup, w_lst, w_alloc, w_vL, w_call, w_aNil, w_aCons, w_lCall, w_append, w_nil, w_lnil, w_seq, w_next, w_ret, w_set, w_expr, w_sif, w_sub, w_unp, w_fn1, w_fn2, w_fn3, w_fn4, w_fn5, w_join, w_vSrc, w_aSrc, w_lSrc, w_catLL, w_catOL, w_repL, w_sortV, w_asI, w_slE0, w_slE1, w_sl, q_srcT, q_srcS, q_srcR, q_zipT, q_slT, w_lc, w_forS, Int.toNat_natCast, v_0, v_S, List.replicate_succ, List.replicate_zero, Nat.reduceSub, List.getElem?_cons_zero, List.getElem?_cons_succ, List.set_cons_zero, List.set_cons_succ, if_true, if_false, Bool.false_eq_true, Bool.not_true, Bool.not_false, q_add, q_addT, q_addS, q_sub, q_eq, q_eqS, q_eqB, q_ne, q_neS, q_neB, q_lt, q_ltS, q_le, q_gt, q_ge, q_in1, q_nin1, q_isN, q_isnN, q_isB, q_isnB, q_isiI0, q_isiI1, q_isiI2, q_isiI3, q_isiI4, q_isiI5, q_isiB0, q_isiB1, q_isiB2, q_isiB3, q_isiB4, q_isiB5, q_isiS0, q_isiS1, q_isiS2, q_isiS3, q_isiS4, q_isiS5, q_isiT0, q_isiT1, q_isiT2, q_isiT3, q_isiT4, q_isiT5, q_isiR0, q_isiR1, q_isiR2, q_isiR3, q_isiR4, q_isiR5, q_isiN0, q_isiN1, q_isiN2, q_isiN3, q_isiN4, q_isiN5, q_lenS, q_lenT, q_lenR, q_min2, q_max2, q_strS, q_tupP, ix_0, ix_1, ix_2, ix_3]
    have hm : 0 < (if (m : Int) < 2 then (m : Int) else 2) ∧ (if (m : Int) < 2 then (m : Int) else 2) ≤ 2 := by split <;> omega
    refine (s_draw T1 (by omega) hm.1 (by omega)).imp fun v h2 p => ?_
    obtain ⟨i, rfl, i0, i1, T2, F2⟩ := p
    simp only [w_bind, w_noX, w_ok, w_C, w_op2, w_asB, w_op3, w_and, w_or, w_not, w_test, w_bAnd, w_bOr, w_bNot, w_if, w_lif, w_tup, w_lst, w_alloc, w_vL, w_call, w_aNil, w_aCons, w_lCall, w_append, w_nil, w_lnil, w_seq, w_next, w_ret, w_set, w_expr, w_sif, w_sub, w_unp, w_fn1, w_fn2, w_fn3, w_fn4, w_fn5, w_join, w_vSrc, w_aSrc, w_lSrc, w_catLL, w_catOL, w_repL, w_sortV, w_asI, w_slE0, w_slE1, w_sl, q_srcT, q_srcS, q_srcR, q_zipT, q_slT, w_lc, w_forS, Int.toNat_natCast, v_0, v_S, List.replicate_succ, List.replicate_zero, Nat.reduceSub, List.getElem?_cons_zero, List.getElem?_cons_succ, List.set_cons_zero, List.set_cons_succ, if_true, if_false, Bool.false_eq_true, Bool.not_true, Bool.not_false, q_add, q_addT, q_addS, q_sub, q_eq, q_eqS, q_eqB, q_ne, q_neS, q_neB, q_lt, q_ltS, q_le, q_gt, q_ge, q_in1, q_nin1, q_isN, q_isnN, q_isB, q_isnB, q_isiI0, q_isiI1, q_isiI2, q_isiI3, q_isiI4, q_isiI5, q_isiB0, q_isiB1, q_isiB2, q_isiB3, q_isiB4, q_isiB5, q_isiS0, q_isiS1, q_isiS2, q_isiS3, q_isiS4, q_isiS5, q_isiT0, q_isiT1, q_isiT2, q_isiT3, q_isiT4, q_isiT5, q_isiR0, q_isiR1, q_isiR2, q_isiR3, q_isiR4, q_isiR5, q_isiN0, q_isiN1, q_isiN2, q_isiN3, q_isiN4, q_isiN5, q_lenS, q_lenT, q_lenR, q_min2, q_max2, q_strS, q_tupP, ix_0, ix_1, ix_2, ix_3]
    obtain ⟨j, hj⟩ : ∃ j : Nat, (1 + i) = (j : Int) := ⟨(1 + i).toNat, by omega⟩
    rw [hj]
    have a1 : b + 1 + 1 < 2 ^ 58 := by omega
    have a2 : j ≤ 1000 := by omega
    have a3 : ([45, 48, 97] : Sg) ≠ [] := by simp
    have a4 : ([45, 48, 97] : Sg).length < 1000000 := by simp
    have sg := s_signs (k := k) (cs := [45, 48, 97]) (m := j) T2 a1 a3 a4 a2
    refine sg.imp fun v h3 p => ?_
    obtain ⟨⟨s, rfl, s1, s2⟩, T3, F3⟩ := p
    simp only [w_bind, w_noX, w_ok, w_C, w_op2, w_asB, w_op3, w_and, w_or, w_not, w_test, w_bAnd, w_bOr, w_bNot, w_if, w_lif, w_tup, w_lst, w_alloc, w_vL, w_call, w_aNil, w_aCons, w_lCall, w_append, w_nil, w_lnil, w_seq, w_next, w_ret, w_set, w_expr, w_sif, w_sub, w_unp, w_fn1, w_fn2, w_fn3, w_fn4, w_fn5, w_join, w_vSrc, w_aSrc, w_lSrc, w_catLL, w_catOL, w_repL, w_sortV, w_asI, w_slE0, w_slE1, w_sl, q_srcT, q_srcS, q_srcR, q_zipT, q_slT, w_lc, w_forS, Int.toNat_natCast, v_0, v_S, List.replicate_succ, List.replicate_zero, Nat.reduceSub, List.getElem?_cons_zero, List.getElem?_cons_succ, List.set_cons_zero, List.set_cons_succ, if_true, if_false, Bool.false_eq_true, Bool.not_true, Bool.not_false, q_add, q_addT, q_addS, q_sub, q_eq, q_eqS, q_eqB, q_ne, q_neS, q_neB, q_lt, q_ltS, q_le, q_gt, q_ge, q_in1, q_nin1, q_isN, q_isnN, q_isB, q_isnB, q_isiI0, q_isiI1, q_isiI2, q_isiI3, q_isiI4, q_isiI5, q_isiB0, q_isiB1, q_isiB2, q_isiB3, q_isiB4, q_isiB5, q_isiS0, q_isiS1, q_isiS2, q_isiS3, q_isiS4, q_isiS5, q_isiT0, q_isiT1, q_isiT2, q_isiT3, q_isiT4, q_isiT5, q_isiR0, q_isiR1, q_isiR2, q_isiR3, q_isiR4, q_isiR5, q_isiN0, q_isiN1, q_isiN2, q_isiN3, q_isiN4, q_isiN5, q_lenS, q_lenT, q_lenR, q_min2, q_max2, q_strS, q_tupP, ix_0, ix_1, ix_2, ix_3, List.length_cons, List.length_nil, lim_0, lim_1, lim_2, lim_3, lim_4, lim_5, lim_6, lim_7, lim_8, lim_9, lim_10, lim_11, lim_12, lim_13, lim_14, lim_15, lim_16, lim_17, lim_18, lim_19, lim_20, lim_21, lim_22, lim_23, Nat.reduceAdd, Nat.reduceLeDiff]
    refine ⟨⟨.word s, rfl, ?_, ?_, ?_⟩, T3.mono (by omega), F1.trans (F2.trans F3)⟩
    · omega
    · omega
    · intro c hc
      exact sign_ok c (s2 c hc)
  simp only [c0, decide_false, w_bind, w_noX, w_ok, w_C, w_op2, w_asB, w_op3, w_and, w_or, w_not, w_test, w_bAnd, w_bOr, w_bNot, w_if, w_lif, w_tup, w_lst, w_alloc, w_vL, w_call, w_aNil, w_aCons, w_lCall, w_append, w_nil, w_lnil, w_seq, w_next, w_ret, w_set, w_expr, w_sif, w_sub, w_unp, w_fn1, w_fn2, w_fn3, w_fn4, w_fn5, w_join, w_vSrc, w_aSrc, w_lSrc, w_catLL, w_catOL, w_repL, w_sortV, w_asI, w_slE0, w_slE1, w_sl, q_srcT, q_srcS, q_srcR, q_zipT, q_slT, w_lc, w_forS, Int.toNat_natCast, v_0, v_S, List.replicate_succ, List.replicate_zero, Nat.reduceSub, List.getElem?_cons_zero, List.getElem?_cons_succ, List.set_cons_zero, List.set_cons_succ, if_true, if_false, Bool.false_eq_true, Bool.not_true, Bool.not_false, q_add, q_addT, q_addS, q_sub, q_eq, q_eqS, q_eqB, q_ne, q_neS, q_neB, q_lt, q_ltS, q_le, q_gt, q_ge, q_in1, q_nin1, q_isN, q_isnN, q_isB, q_isnB, q_isiI0, q_isiI1, q_isiI2, q_isiI3, q_isiI4, q_isiI5, q_isiB0, q_isiB1, q_isiB2, q_isiB3, q_isiB4, q_isiB5, q_isiS0, q_isiS1, q_isiS2, q_isiS3, q_isiS4, q_isiS5, q_isiT0, q_isiT1, q_isiT2, q_isiT3, q_isiT4, q_isiT5, q_isiR0, q_isiR1, q_isiR2, q_isiR3, q_isiR4, q_isiR5, q_isiN0, q_isiN1, q_isiN2, q_isiN3, q_isiN4, q_isiN5, q_lenS, q_lenT, q_lenR, q_min2, q_max2, q_strS, q_tupP, ix_0, ix_1, ix_2, ix_3]
  by_cases c1 : way < 3
  · simp only [c1, decide_true, w_bind, w_noX, w_ok, w_C, w_op2, w_asB, w_op3, w_and, w_or, w_not, w_test, w_bAnd, w_bOr, w_bNot, w_if, w_lif, w_tup, w_lst, w_alloc, w_vL, w_call, w_aNil, w_aCons, w_lCall, w_append, w_nil, w_lnil, w_seq, w_next, w_ret, w_set, w_expr, w_sif, w_sub, w_unp, w_fn1, w_fn2, w_fn3, w_fn4, w_fn5, w_join, w_vSrc, w_aSrc, w_lSrc, w_catLL, w_catOL, w_repL, w_sortV, w_asI, w_slE0, w_slE1, w_sl, q_srcT, q_srcS, q_srcR, q_zipT, q_slT, w_lc, w_forS, Int.toNat_natCast, v_0, v_S, List.replicate_succ, List.replicate_zero, Nat.reduceSub, List.getElem?_cons_zero, List.getElem?_cons_succ, List.set_cons_zero, List.set_cons_succ, if_true, if_false, Bool.false_eq_true, Bool.not_true, Bool.not_false, q_add, q_addT, q_addS, q_sub, q_eq, q_eqS, q_eqB, q_ne, q_neS, q_neB, q_lt, q_ltS, q_le, q_gt, q_ge, q_in1, q_nin1, q_isN, q_isnN, q_isB, q_isnB, q_isiI0, q_isiI1, q_isiI2, q_isiI3, q_isiI4, q_isiI5, q_isiB0, q_isiB1, q_isiB2, q_isiB3, q_isiB4, q_isiB5, q_isiS0, q_isiS1, q_isiS2, q_isiS3, q_isiS4, q_isiS5, q_isiT0, q_isiT1, q_isiT2, q_isiT3, q_isiT4, q_isiT5, q_isiR0, q_isiR1, q_isiR2, q_isiR3, q_isiR4, q_isiR5, q_isiN0, q_isiN1, q_isiN2, q_isiN3, q_isiN4, q_isiN5, q_lenS, q_lenT, q_lenR, q_min2, q_max2, q_strS, q_tupP, ix_0, ix_1, ix_2, ix_3]
    refine (s_draw T1 (by omega) (by omega) (by omega)).imp fun v h2 p => ?_
    obtain ⟨i, rfl, i0, i1, T2, F2⟩ := p
    have hw : ∃ d : D, ixM (.tup [.str kDigits, .str kLetters]) (.int (way - 1)) h2 = .ok d h2 ∧ (d = .str kDigits ∨ d = .str kLetters) := by
      obtain ⟨d, hd, _, e⟩ := ix_tup (ds := [.str kDigits, .str kLetters]) (i := way - 1) (h := h2) (by omega) (by simp; omega)
      exact ⟨d, e, by simpa using hd⟩
    obtain ⟨d, hw, hd⟩ := hw
    simp only [w_bind, w_noX, w_ok, w_C, w_op2, w_asB, w_op3, w_and, w_or, w_not, w_test, w_bAnd, w_bOr, w_bNot, w_if, w_lif, w_tup, w_lst, w_alloc, w_vL, w_call, w_aNil, w_aCons, w_lCall, w_append, w_nil, w_lnil, w_seq, w_next, w_ret, w_set, w_expr, w_sif, w_sub, w_unp, w_fn1, w_fn2, w_fn3, w_fn4, w_fn5, w_join, w_vSrc, w_aSrc, w_lSrc, w_catLL, w_catOL, w_repL, w_sortV, w_asI, w_slE0, w_slE1, w_sl, q_srcT, q_srcS, q_srcR, q_zipT, q_slT, w_lc, w_forS, Int.toNat_natCast, v_0, v_S, List.replicate_succ, List.replicate_zero, Nat.reduceSub, List.getElem?_cons_zero, List.getElem?_cons_succ, List.set_cons_zero, List.set_cons_succ, if_true, if_false, Bool.false_eq_true, Bool.not_true, Bool.not_false, q_add, q_addT, q_addS, q_sub, q_eq, q_eqS, q_eqB, q_ne, q_neS, q_neB, q_lt, q_ltS, q_le, q_gt, q_ge, q_in1, q_nin1, q_isN, q_isnN, q_isB, q_isnB, q_isiI0, q_isiI1, q_isiI2, q_isiI3, q_isiI4, q_isiI5, q_isiB0, q_isiB1, q_isiB2, q_isiB3, q_isiB4, q_isiB5, q_isiS0, q_isiS1, q_isiS2, q_isiS3, q_isiS4, q_isiS5, q_isiT0, q_isiT1, q_isiT2, q_isiT3, q_isiT4, q_isiT5, q_isiR0, q_isiR1, q_isiR2, q_isiR3, q_isiR4, q_isiR5, q_isiN0, q_isiN1, q_isiN2, q_isiN3, q_isiN4, q_isiN5, q_lenS, q_lenT, q_lenR, q_min2, q_max2, q_strS, q_tupP, ix_0, ix_1, ix_2, ix_3, List.length_cons, List.length_nil, lim_0, lim_1, lim_2, lim_3, lim_4, lim_5, lim_6, lim_7, lim_8, lim_9, lim_10, lim_11, lim_12, lim_13, lim_14, lim_15, lim_16, lim_17, lim_18, lim_19, lim_20, lim_21, lim_22, lim_23, Nat.reduceAdd, Nat.reduceLeDiff, hw]
    refine (s_draw T2 (by omega) (by omega) (by omega)).imp fun v h3 p => ?_
    obtain ⟨i', rfl, j0, j1, T3, F3⟩ := p
    simp only [w_bind, w_noX, w_ok, w_C, w_op2, w_asB, w_op3, w_and, w_or, w_not, w_test, w_bAnd, w_bOr, w_bNot, w_if, w_lif, w_tup, w_lst, w_alloc, w_vL, w_call, w_aNil, w_aCons, w_lCall, w_append, w_nil, w_lnil, w_seq, w_next, w_ret, w_set, w_expr, w_sif, w_sub, w_unp, w_fn1, w_fn2, w_fn3, w_fn4, w_fn5, w_join, w_vSrc, w_aSrc, w_lSrc, w_catLL, w_catOL, w_repL, w_sortV, w_asI, w_slE0, w_slE1, w_sl, q_srcT, q_srcS, q_srcR, q_zipT, q_slT, w_lc, w_forS, Int.toNat_natCast, v_0, v_S, List.replicate_succ, List.replicate_zero, Nat.reduceSub, List.getElem?_cons_zero, List.getElem?_cons_succ, List.set_cons_zero, List.set_cons_succ, if_true, if_false, Bool.false_eq_true, Bool.not_true, Bool.not_false, q_add, q_addT, q_addS, q_sub, q_eq, q_eqS, q_eqB, q_ne, q_neS, q_neB, q_lt, q_ltS, q_le, q_gt, q_ge, q_in1, q_nin1, q_isN, q_isnN, q_isB, q_isnB, q_isiI0, q_isiI1, q_isiI2, q_isiI3, q_isiI4, q_isiI5, q_isiB0, q_isiB1, q_isiB2, q_isiB3, q_isiB4, q_isiB5, q_isiS0, q_isiS1, q_isiS2, q_isiS3, q_isiS4, q_isiS5, q_isiT0, q_isiT1, q_isiT2, q_isiT3, q_isiT4, q_isiT5, q_isiR0, q_isiR1, q_isiR2, q_isiR3, q_isiR4, q_isiR5, q_isiN0, q_isiN1, q_isiN2, q_isiN3, q_isiN4, q_isiN5, q_lenS, q_lenT, q_lenR, q_min2, q_max2, q_strS, q_tupP, ix_0, ix_1, ix_2, ix_3, List.length_cons, List.length_nil, lim_0, lim_1, lim_2, lim_3, lim_4, lim_5, lim_6, lim_7, lim_8, lim_9, lim_10, lim_11, lim_12, lim_13, lim_14, lim_15, lim_16, lim_17, lim_18, lim_19, lim_20, lim_21, lim_22, lim_23, Nat.reduceAdd, Nat.reduceLeDiff]
    obtain ⟨lo, rfl⟩ : ∃ j : Nat, i = (j : Int) := ⟨i.toNat, by omega⟩
    obtain ⟨hi, ehi⟩ : ∃ j : Nat, (lo + i' : Int) = (j : Int) := ⟨(lo + i').toNat, by omega⟩
    rw [ehi]
    refine ⟨?_, T3.mono (by omega), F1.trans (F2.trans F3)⟩
    rcases hd with rfl | rfl
    · exact ⟨.digits lo hi, rfl, by omega, by omega⟩
    · exact ⟨.letters lo hi, rfl, by omega, by omega⟩
  simp only [c1, decide_false, w_bind, w_noX, w_ok, w_C, w_op2, w_asB, w_op3, w_and, w_or, w_not, w_test, w_bAnd, w_bOr, w_bNot, w_if, w_lif, w_tup, w_lst, w_alloc, w_vL, w_call, w_aNil, w_aCons, w_lCall, w_append, w_nil, w_lnil, w_seq, w_next, w_ret, w_set, w_expr, w_sif, w_sub, w_unp, w_fn1, w_fn2, w_fn3, w_fn4, w_fn5, w_join, w_vSrc, w_aSrc, w_lSrc, w_catLL, w_catOL, w_repL, w_sortV, w_asI, w_slE0, w_slE1, w_sl, q_srcT, q_srcS, q_srcR, q_zipT, q_slT, w_lc, w_forS, Int.toNat_natCast, v_0, v_S, List.replicate_succ, List.replicate_zero, Nat.reduceSub, List.getElem?_cons_zero, List.getElem?_cons_succ, List.set_cons_zero, List.set_cons_succ, if_true, if_false, Bool.false_eq_true, Bool.not_true, Bool.not_false, q_add, q_addT, q_addS, q_sub, q_eq, q_eqS, q_eqB, q_ne, q_neS, q_neB, q_lt, q_ltS, q_le, q_gt, q_ge, q_in1, q_nin1, q_isN, q_isnN, q_isB, q_isnB, q_isiI0, q_isiI1, q_isiI2, q_isiI3, q_isiI4, q_isiI5, q_isiB0, q_isiB1, q_isiB2, q_isiB3, q_isiB4, q_isiB5, q_isiS0, q_isiS1, q_isiS2, q_isiS3, q_isiS4, q_isiS5, q_isiT0, q_isiT1, q_isiT2, q_isiT3, q_isiT4, q_isiT5, q_isiR0, q_isiR1, q_isiR2, q_isiR3, q_isiR4, q_isiR5, q_isiN0, q_isiN1, q_isiN2, q_isiN3, q_isiN4, q_isiN5, q_lenS, q_lenT, q_lenR, q_min2, q_max2, q_strS, q_tupP, ix_0, ix_1, ix_2, ix_3]
  by_cases c2 : way = 3
  · simp only [c2, decide_true, w_bind, w_noX, w_ok, w_C, w_op2, w_asB, w_op3, w_and, w_or, w_not, w_test, w_bAnd, w_bOr, w_bNot, w_if, w_lif, w_tup, w_lst, w_alloc, w_vL, w_call, w_aNil, w_aCons, w_lCall, w_append, w_nil, w_lnil, w_seq, w_next, w_ret, w_set, w_expr, w_sif, w_sub, w_unp, w_fn1, w_fn2, w_fn3, w_fn4, w_fn5, w_join, w_vSrc, w_aSrc, w_lSrc, w_catLL, w_catOL, w_repL, w_sortV, w_asI, w_slE0, w_slE1, w_sl, q_srcT, q_srcS, q_srcR, q_zipT, q_slT, w_lc, w_forS, Int.toNat_natCast, v_0, v_S, List.replicate_succ, List.replicate_zero, Nat.reduceSub, List.getElem?_cons_zero, List.getElem?_cons_succ, List.set_cons_zero, List.set_cons_succ, if_true, if_false, Bool.false_eq_true, Bool.not_true, Bool.not_false, q_add, q_addT, q_addS, q_sub, q_eq, q_eqS, q_eqB, q_ne, q_neS, q_neB, q_lt, q_ltS, q_le, q_gt, q_ge, q_in1, q_nin1, q_isN, q_isnN, q_isB, q_isnB, q_isiI0, q_isiI1, q_isiI2, q_isiI3, q_isiI4, q_isiI5, q_isiB0, q_isiB1, q_isiB2, q_isiB3, q_isiB4, q_isiB5, q_isiS0, q_isiS1, q_isiS2, q_isiS3, q_isiS4, q_isiS5, q_isiT0, q_isiT1, q_isiT2, q_isiT3, q_isiT4, q_isiT5, q_isiR0, q_isiR1, q_isiR2, q_isiR3, q_isiR4, q_isiR5, q_isiN0, q_isiN1, q_isiN2, q_isiN3, q_isiN4, q_isiN5, q_lenS, q_lenT, q_lenR, q_min2, q_max2, q_strS, q_tupP, ix_0, ix_1, ix_2, ix_3]
    refine (s_draw T1 (by omega) (by omega) (by omega)).imp fun v h2 p => ?_
    obtain ⟨i, rfl, i0, i1, T2, F2⟩ := p
    simp only [w_bind, w_noX, w_ok, w_C, w_op2, w_asB, w_op3, w_and, w_or, w_not, w_test, w_bAnd, w_bOr, w_bNot, w_if, w_lif, w_tup, w_lst, w_alloc, w_vL, w_call, w_aNil, w_aCons, w_lCall, w_append, w_nil, w_lnil, w_seq, w_next, w_ret, w_set, w_expr, w_sif, w_sub, w_unp, w_fn1, w_fn2, w_fn3, w_fn4, w_fn5, w_join, w_vSrc, w_aSrc, w_lSrc, w_catLL, w_catOL, w_repL, w_sortV, w_asI, w_slE0, w_slE1, w_sl, q_srcT, q_srcS, q_srcR, q_zipT, q_slT, w_lc, w_forS, Int.toNat_natCast, v_0, v_S, List.replicate_succ, List.replicate_zero, Nat.reduceSub, List.getElem?_cons_zero, List.getElem?_cons_succ, List.set_cons_zero, List.set_cons_succ, if_true, if_false, Bool.false_eq_true, Bool.not_true, Bool.not_false, q_add, q_addT, q_addS, q_sub, q_eq, q_eqS, q_eqB, q_ne, q_neS, q_neB, q_lt, q_ltS, q_le, q_gt, q_ge, q_in1, q_nin1, q_isN, q_isnN, q_isB, q_isnB, q_isiI0, q_isiI1, q_isiI2, q_isiI3, q_isiI4, q_isiI5, q_isiB0, q_isiB1, q_isiB2, q_isiB3, q_isiB4, q_isiB5, q_isiS0, q_isiS1, q_isiS2, q_isiS3, q_isiS4, q_isiS5, q_isiT0, q_isiT1, q_isiT2, q_isiT3, q_isiT4, q_isiT5, q_isiR0, q_isiR1, q_isiR2, q_isiR3, q_isiR4, q_isiR5, q_isiN0, q_isiN1, q_isiN2, q_isiN3, q_isiN4, q_isiN5, q_lenS, q_lenT, q_lenR, q_min2, q_max2, q_strS, q_tupP, ix_0, ix_1, ix_2, ix_3, List.length_cons, List.length_nil, lim_0, lim_1, lim_2, lim_3, lim_4, lim_5, lim_6, lim_7, lim_8, lim_9, lim_10, lim_11, lim_12, lim_13, lim_14, lim_15, lim_16, lim_17, lim_18, lim_19, lim_20, lim_21, lim_22, lim_23, Nat.reduceAdd, Nat.reduceLeDiff]
    obtain ⟨n, en⟩ : ∃ j : Nat, (1 + i : Int) = (j : Int) := ⟨(1 + i).toNat, by omega⟩
    rw [en]
    exact ⟨⟨.number n, rfl, by omega, by omega⟩, T2.mono (by omega), F1.trans F2⟩
  simp only [c2, decide_false, w_bind, w_noX, w_ok, w_C, w_op2, w_asB, w_op3, w_and, w_or, w_not, w_test, w_bAnd, w_bOr, w_bNot, w_if, w_lif, w_tup, w_lst, w_alloc, w_vL, w_call, w_aNil, w_aCons, w_lCall, w_append, w_nil, w_lnil, w_seq, w_next, w_ret, w_set, w_expr, w_sif, w_sub, w_unp, w_fn1, w_fn2, w_fn3, w_fn4, w_fn5, w_join, w_vSrc, w_aSrc, w_lSrc, w_catLL, w_catOL, w_repL, w_sortV, w_asI, w_slE0, w_slE1, w_sl, q_srcT, q_srcS, q_srcR, q_zipT, q_slT, w_lc, w_forS, Int.toNat_natCast, v_0, v_S, List.replicate_succ, List.replicate_zero, Nat.reduceSub, List.getElem?_cons_zero, List.getElem?_cons_succ, List.set_cons_zero, List.set_cons_succ, if_true, if_false, Bool.false_eq_true, Bool.not_true, Bool.not_false, q_add, q_addT, q_addS, q_sub, q_eq, q_eqS, q_eqB, q_ne, q_neS, q_neB, q_lt, q_ltS, q_le, q_gt, q_ge, q_in1, q_nin1, q_isN, q_isnN, q_isB, q_isnB, q_isiI0, q_isiI1, q_isiI2, q_isiI3, q_isiI4, q_isiI5, q_isiB0, q_isiB1, q_isiB2, q_isiB3, q_isiB4, q_isiB5, q_isiS0, q_isiS1, q_isiS2, q_isiS3, q_isiS4, q_isiS5, q_isiT0, q_isiT1, q_isiT2, q_isiT3, q_isiT4, q_isiT5, q_isiR0, q_isiR1, q_isiR2, q_isiR3, q_isiR4, q_isiR5, q_isiN0, q_isiN1, q_isiN2, q_isiN3, q_isiN4, q_isiN5, q_lenS, q_lenT, q_lenR, q_min2, q_max2, q_strS, q_tupP, ix_0, ix_1, ix_2, ix_3, List.length_nil, Nat.zero_le]
  have tl1 := T1.lt
  refine (s_draw T1.app (by omega) (by omega) (by omega)).imp fun v h2 p => ?_
  obtain ⟨i, rfl, i0, i1, T2, F2⟩ := p
  have g2 : h2[h1.length]? = some (.lst []) := F2.get getElem?_app (by omega)
  simp only [w_bind, w_noX, w_ok, w_C, w_op2, w_asB, w_op3, w_and, w_or, w_not, w_test, w_bAnd, w_bOr, w_bNot, w_if, w_lif, w_tup, w_lst, w_alloc, w_vL, w_call, w_aNil, w_aCons, w_lCall, w_append, w_nil, w_lnil, w_seq, w_next, w_ret, w_set, w_expr, w_sif, w_sub, w_unp, w_fn1, w_fn2, w_fn3, w_fn4, w_fn5, w_join, w_vSrc, w_aSrc, w_lSrc, w_catLL, w_catOL, w_repL, w_sortV, w_asI, w_slE0, w_slE1, w_sl, q_srcT, q_srcS, q_srcR, q_zipT, q_slT, w_lc, w_forS, Int.toNat_natCast, v_0, v_S, List.replicate_succ, List.replicate_zero, Nat.reduceSub, List.getElem?_cons_zero, List.getElem?_cons_succ, List.set_cons_zero, List.set_cons_succ, if_true, if_false, Bool.false_eq_true, Bool.not_true, Bool.not_false, q_add, q_addT, q_addS, q_sub, q_eq, q_eqS, q_eqB, q_ne, q_neS, q_neB, q_lt, q_ltS, q_le, q_gt, q_ge, q_in1, q_nin1, q_isN, q_isnN, q_isB, q_isnB, q_isiI0, q_isiI1, q_isiI2, q_isiI3, q_isiI4, q_isiI5, q_isiB0, q_isiB1, q_isiB2, q_isiB3, q_isiB4, q_isiB5, q_isiS0, q_isiS1, q_isiS2, q_isiS3, q_isiS4, q_isiS5, q_isiT0, q_isiT1, q_isiT2, q_isiT3, q_isiT4, q_isiT5, q_isiR0, q_isiR1, q_isiR2, q_isiR3, q_isiR4, q_isiR5, q_isiN0, q_isiN1, q_isiN2, q_isiN3, q_isiN4, q_isiN5, q_lenS, q_lenT, q_lenR, q_min2, q_max2, q_strS, q_tupP, ix_0, ix_1, ix_2, ix_3, q_rng1 (show (-1000 : Int) ≤ 1 + i by omega) (show 1 + i ≤ 1000000 by omega)]
  obtain ⟨n, en⟩ : ∃ j : Nat, (1 + i : Int) = (j : Int) := ⟨(1 + i).toNat, by omega⟩
  rw [en, Int.toNat_natCast]
  have n1 : 1 ≤ n ∧ n ≤ 3 := by omega
  refine for_rng (fun j e h' => Twn ns t (b + 2 + 10 * j) h' ∧ Fr t h1 h' ∧ ∃ (x6 x7 : Option D) (ts : List Sg), e = [some (.rol (ns.map .int)), some (.obj t), some (.int m), some (.int way), none, some (.obj h1.length), x6, x7] ∧ h'[h1.length]? = some (.lst (ts.map .str)) ∧ ts.length = j ∧ ∀ s ∈ ts, TxOk s) ⟨by simpa using T2, Fr.app.trans F2, _, _, [], rfl, g2, rfl, fun s hs => by simp at hs⟩ ?_ ?_
  · rintro j e h3 hj ⟨T3, F3, x6, x7, ts, rfl, g3, e1, e2⟩
    simp only [w_bind, w_noX, w_ok, w_C, w_op2, w_asB, w_op3, w_and, w_or, w_not, w_test, w_bAnd, w_bOr, w_bNot, w_if, w_lif, w_tup, w_lst, w_alloc, w_vL, w_call, w_aNil, w_aCons, w_lCall, w_append, w_nil, w_lnil, w_seq, w_next, w_ret, w_set, w_expr, w_sif, w_sub, w_unp, w_fn1, w_fn2, w_fn3, w_fn4, w_fn5, w_join, w_vSrc, w_aSrc, w_lSrc, w_catLL, w_catOL, w_repL, w_sortV, w_asI, w_slE0, w_slE1, w_sl, q_srcT, q_srcS, q_srcR, q_zipT, q_slT, w_lc, w_forS, Int.toNat_natCast, v_0, v_S, List.replicate_succ, List.replicate_zero, Nat.reduceSub, List.getElem?_cons_zero, List.getElem?_cons_succ, List.set_cons_zero, List.set_cons_succ, if_true, if_false, Bool.false_eq_true, Bool.not_true, Bool.not_false, q_add, q_addT, q_addS, q_sub, q_eq, q_eqS, q_eqB, q_ne, q_neS, q_neB, q_lt, q_ltS, q_le, q_gt, q_ge, q_in1, q_nin1, q_isN, q_isnN, q_isB, q_isnB, q_isiI0, q_isiI1, q_isiI2, q_isiI3, q_isiI4, q_isiI5, q_isiB0, q_isiB1, q_isiB2, q_isiB3, q_isiB4, q_isiB5, q_isiS0, q_isiS1, q_isiS2, q_isiS3, q_isiS4, q_isiS5, q_isiT0, q_isiT1, q_isiT2, q_isiT3, q_isiT4, q_isiT5, q_isiR0, q_isiR1, q_isiR2, q_isiR3, q_isiR4, q_isiR5, q_isiN0, q_isiN1, q_isiN2, q_isiN3, q_isiN4, q_isiN5, q_lenS, q_lenT, q_lenR, q_min2, q_max2, q_strS, q_tupP, ix_0, ix_1, ix_2, ix_3, List.length_cons, List.length_nil, lim_0, lim_1, lim_2, lim_3, lim_4, lim_5, lim_6, lim_7, lim_8, lim_9, lim_10, lim_11, lim_12, lim_13, lim_14, lim_15, lim_16, lim_17, lim_18, lim_19, lim_20, lim_21, lim_22, lim_23, Nat.reduceAdd, Nat.reduceLeDiff]
    have tl3 := T3.lt
    refine (s_pickL (ds := [.str [97, 98], .str [48, 49], .str [45, 46], .str [97, 48]]) T3.app (by omega) getElem?_app (by omega) (by simp) (by simp)).imp fun v h4 p => ?_
    obtain ⟨p1, T4, F4⟩ := p
    have g4 : h4[h1.length]? = some (.lst (ts.map .str)) := F4.get (get_app g3) (by omega)
    obtain ⟨cs, rfl, cs0, cs1, cs2⟩ : ∃ cs : Sg, v = .str cs ∧ cs ≠ [] ∧ cs.length < 1000000 ∧ ∀ c ∈ cs, c ∈ cSigns := by
      simp at p1
      rcases p1 with rfl | rfl | rfl | rfl <;> exact ⟨_, rfl, by simp, by simp, by decide⟩
    have l4 : lstOf (.obj h1.length) h4 = some (ts.map .str) := by simp [lstOf, g4]
    simp only [w_bind, w_noX, w_ok, w_C, w_op2, w_asB, w_op3, w_and, w_or, w_not, w_test, w_bAnd, w_bOr, w_bNot, w_if, w_lif, w_tup, w_lst, w_alloc, w_vL, w_call, w_aNil, w_aCons, w_lCall, w_append, w_nil, w_lnil, w_seq, w_next, w_ret, w_set, w_expr, w_sif, w_sub, w_unp, w_fn1, w_fn2, w_fn3, w_fn4, w_fn5, w_join, w_vSrc, w_aSrc, w_lSrc, w_catLL, w_catOL, w_repL, w_sortV, w_asI, w_slE0, w_slE1, w_sl, q_srcT, q_srcS, q_srcR, q_zipT, q_slT, w_lc, w_forS, Int.toNat_natCast, v_0, v_S, List.replicate_succ, List.replicate_zero, Nat.reduceSub, List.getElem?_cons_zero, List.getElem?_cons_succ, List.set_cons_zero, List.set_cons_succ, if_true, if_false, Bool.false_eq_true, Bool.not_true, Bool.not_false, q_add, q_addT, q_addS, q_sub, q_eq, q_eqS, q_eqB, q_ne, q_neS, q_neB, q_lt, q_ltS, q_le, q_gt, q_ge, q_in1, q_nin1, q_isN, q_isnN, q_isB, q_isnB, q_isiI0, q_isiI1, q_isiI2, q_isiI3, q_isiI4, q_isiI5, q_isiB0, q_isiB1, q_isiB2, q_isiB3, q_isiB4, q_isiB5, q_isiS0, q_isiS1, q_isiS2, q_isiS3, q_isiS4, q_isiS5, q_isiT0, q_isiT1, q_isiT2, q_isiT3, q_isiT4, q_isiT5, q_isiR0, q_isiR1, q_isiR2, q_isiR3, q_isiR4, q_isiR5, q_isiN0, q_isiN1, q_isiN2, q_isiN3, q_isiN4, q_isiN5, q_lenS, q_lenT, q_lenR, q_min2, q_max2, q_strS, q_tupP, ix_0, ix_1, ix_2, ix_3, w_isLst, l4]
    refine (s_draw T4 (by omega) (by omega) (by omega)).imp fun v h5 p => ?_
    obtain ⟨q, rfl, q0, q1, T5, F5⟩ := p
    simp only [w_bind, w_noX, w_ok, w_C, w_op2, w_asB, w_op3, w_and, w_or, w_not, w_test, w_bAnd, w_bOr, w_bNot, w_if, w_lif, w_tup, w_lst, w_alloc, w_vL, w_call, w_aNil, w_aCons, w_lCall, w_append, w_nil, w_lnil, w_seq, w_next, w_ret, w_set, w_expr, w_sif, w_sub, w_unp, w_fn1, w_fn2, w_fn3, w_fn4, w_fn5, w_join, w_vSrc, w_aSrc, w_lSrc, w_catLL, w_catOL, w_repL, w_sortV, w_asI, w_slE0, w_slE1, w_sl, q_srcT, q_srcS, q_srcR, q_zipT, q_slT, w_lc, w_forS, Int.toNat_natCast, v_0, v_S, List.replicate_succ, List.replicate_zero, Nat.reduceSub, List.getElem?_cons_zero, List.getElem?_cons_succ, List.set_cons_zero, List.set_cons_succ, if_true, if_false, Bool.false_eq_true, Bool.not_true, Bool.not_false, q_add, q_addT, q_addS, q_sub, q_eq, q_eqS, q_eqB, q_ne, q_neS, q_neB, q_lt, q_ltS, q_le, q_gt, q_ge, q_in1, q_nin1, q_isN, q_isnN, q_isB, q_isnB, q_isiI0, q_isiI1, q_isiI2, q_isiI3, q_isiI4, q_isiI5, q_isiB0, q_isiB1, q_isiB2, q_isiB3, q_isiB4, q_isiB5, q_isiS0, q_isiS1, q_isiS2, q_isiS3, q_isiS4, q_isiS5, q_isiT0, q_isiT1, q_isiT2, q_isiT3, q_isiT4, q_isiT5, q_isiR0, q_isiR1, q_isiR2, q_isiR3, q_isiR4, q_isiR5, q_isiN0, q_isiN1, q_isiN2, q_isiN3, q_isiN4, q_isiN5, q_lenS, q_lenT, q_lenR, q_min2, q_max2, q_strS, q_tupP, ix_0, ix_1, ix_2, ix_3]
    obtain ⟨z, ez⟩ : ∃ j : Nat, (1 + q : Int) = (j : Int) := ⟨(1 + q).toNat, by omega⟩
    rw [ez]
    have sg := s_signs (k := k) (cs := cs) (m := z) T5 (by omega) cs0 cs1 (by omega)
    refine sg.imp fun v h6 p => ?_
    obtain ⟨⟨s, rfl, s1, s2⟩, T6, F6⟩ := p
    have g6 : h6[h1.length]? = some (.lst (ts.map .str)) := (F5.trans F6).get g4 (by omega)
    have pu : pushM (.obj h1.length) (.str s) h6 = .ok .non (h6.set h1.length (.lst (ts.map .str ++ [.str s]))) := by
      have : (ts.map D.str).length < LIM := by simp only [List.length_map, LIM]; omega
      simp only [pushM, g6]
      exact if_pos this
    have l6 : h1.length < h6.length := get_lt g6
    rw [pu, w_ok]
    refine ⟨(T6.set_ne (by omega)).mono (by omega), (F3.trans (Fr.app.trans (F4.trans (F5.trans F6)))).set_new (Nat.le_refl _), _, _, ts ++ [s], rfl, ?_, by simp [e1], fun x hx => ?_⟩
    · rw [List.getElem?_set_self l6]
      simp
    · rcases List.mem_append.mp hx with hx | hx
      · exact e2 x hx
      · simp at hx
        subst hx
        exact ⟨by omega, by omega, fun c hc => cs2 c (s2 c hc)⟩
  · rintro e h3 ⟨T3, F3, x6, x7, ts, rfl, g3, e1, e2⟩
    have l3 : lstOf (.obj h1.length) h3 = some (ts.map .str) := by simp [lstOf, g3]
    have so : sortSet (ts.map .str) h3 = .ok ((sortU ts).map .str) h3 := by
      have := strsOf_map (fun x : Sg => x) ts
      simp only [List.map_id_fun', id_eq] at this
      unfold sortSet
      rw [show (ts.map D.str) = ts.map (fun x => D.str x) from rfl, this]
      exact if_pos (by omega)
    simp only [w_bind, w_noX, w_ok, w_C, w_op2, w_asB, w_op3, w_and, w_or, w_not, w_test, w_bAnd, w_bOr, w_bNot, w_if, w_lif, w_tup, w_lst, w_alloc, w_vL, w_call, w_aNil, w_aCons, w_lCall, w_append, w_nil, w_lnil, w_seq, w_next, w_ret, w_set, w_expr, w_sif, w_sub, w_unp, w_fn1, w_fn2, w_fn3, w_fn4, w_fn5, w_join, w_vSrc, w_aSrc, w_lSrc, w_catLL, w_catOL, w_repL, w_sortV, w_asI, w_slE0, w_slE1, w_sl, q_srcT, q_srcS, q_srcR, q_zipT, q_slT, w_lc, w_forS, Int.toNat_natCast, v_0, v_S, List.replicate_succ, List.replicate_zero, Nat.reduceSub, List.getElem?_cons_zero, List.getElem?_cons_succ, List.set_cons_zero, List.set_cons_succ, if_true, if_false, Bool.false_eq_true, Bool.not_true, Bool.not_false, q_add, q_addT, q_addS, q_sub, q_eq, q_eqS, q_eqB, q_ne, q_neS, q_neB, q_lt, q_ltS, q_le, q_gt, q_ge, q_in1, q_nin1, q_isN, q_isnN, q_isB, q_isnB, q_isiI0, q_isiI1, q_isiI2, q_isiI3, q_isiI4, q_isiI5, q_isiB0, q_isiB1, q_isiB2, q_isiB3, q_isiB4, q_isiB5, q_isiS0, q_isiS1, q_isiS2, q_isiS3, q_isiS4, q_isiS5, q_isiT0, q_isiT1, q_isiT2, q_isiT3, q_isiT4, q_isiT5, q_isiR0, q_isiR1, q_isiR2, q_isiR3, q_isiR4, q_isiR5, q_isiN0, q_isiN1, q_isiN2, q_isiN3, q_isiN4, q_isiN5, q_lenS, q_lenT, q_lenR, q_min2, q_max2, q_strS, q_tupP, ix_0, ix_1, ix_2, ix_3, l3, so]
    rw [if_pos (by simp [LIM]), w_ok]
    have sl := sortU_len ts
    refine ⟨⟨.choice (sortU ts), rfl, sl.2 (by intro e; rw [e] at e1; simp at e1; omega), by omega, fun s hs => e2 s ((mem_sortU s ts).mp hs), sortU_lt ts⟩, T3.mono (by omega), F1.trans F3⟩
end
end FT
end
section
set_option maxRecDepth 100000
namespace FT
open PySem L2
set_option autoImplicit false
section
variable {k : Nat} {ns : List Int} {t b : Nat} {h : MH}
def IsFF (v : D) : Prop := ∃ f : FF, v = f.d ∧ f.Ok
theorem s_field {m : Nat} (T : Twn ns t b h) (hb : b < 2 ^ 56) (h0 : 1 ≤ m) (h1 : m ≤ 4) : Ok (run (k + 5) I__law_field [.rol (ns.map .int), .obj t, .int m] h) (Gv ns t (b + 110) h IsFF) := by
  rw [e__law_field]
  unfold m__law_field
  simp only [w_bind, w_noX, w_ok, w_C, w_op2, w_asB, w_op3, w_and, w_or, w_not, w_test, w_bAnd, w_bOr, w_bNot, w_if, w_lif, w_tup, w_lst, w_alloc, w_vL, w_call, w_aNil, w_aCons, w_lCall, w_append, w_nil, w_lnil, w_seq, w_next, w_ret, w_set, w_expr, w_sif, w_sub, w_unp, w_fn1, w_fn2, w_fn3, w_fn4, w_fn5, w_join, w_vSrc, w_aSrc, w_lSrc, w_catLL, w_catOL, w_repL, w_sortV, w_asI, w_slE0, w_slE1, w_sl, q_srcT, q_srcS, q_srcR, q_zipT, q_slT, w_lc, w_forS, Int.toNat_natCast, v_0, v_S, List.replicate_succ, List.replicate_zero, Nat.reduceSub, List.getElem?_cons_zero, List.getElem?_cons_succ, List.set_cons_zero, List.set_cons_succ, if_true, if_false, Bool.false_eq_true, Bool.not_true, Bool.not_false, q_add, q_addT, q_addS, q_sub, q_eq, q_eqS, q_eqB, q_ne, q_neS, q_neB, q_lt, q_ltS, q_le, q_gt, q_ge, q_in1, q_nin1, q_isN, q_isnN, q_isB, q_isnB, q_isiI0, q_isiI1, q_isiI2, q_isiI3, q_isiI4, q_isiI5, q_isiB0, q_isiB1, q_isiB2, q_isiB3, q_isiB4, q_isiB5, q_isiS0, q_isiS1, q_isiS2, q_isiS3, q_isiS4, q_isiS5, q_isiT0, q_isiT1, q_isiT2, q_isiT3, q_isiT4, q_isiT5, q_isiR0, q_isiR1, q_isiR2, q_isiR3, q_isiR4, q_isiR5, q_isiN0, q_isiN1, q_isiN2, q_isiN3, q_isiN4, q_isiN5, q_lenS, q_lenT, q_lenR, q_min2, q_max2, q_strS, q_tupP, ix_0, ix_1, ix_2, ix_3]
  refine (s_simple T (by omega) h0 h1).imp fun v h1 p => ?_
  obtain ⟨⟨f, rfl, fo⟩, T1, F1⟩ := p
  refine (s_draw T1 (by omega) (by omega) (by omega)).imp fun v h2 p => ?_
  obtain ⟨i, rfl, i0, i1, T2, F2⟩ := p
  simp only [w_bind, w_noX, w_ok, w_C, w_op2, w_asB, w_op3, w_and, w_or, w_not, w_test, w_bAnd, w_bOr, w_bNot, w_if, w_lif, w_tup, w_lst, w_alloc, w_vL, w_call, w_aNil, w_aCons, w_lCall, w_append, w_nil, w_lnil, w_seq, w_next, w_ret, w_set, w_expr, w_sif, w_sub, w_unp, w_fn1, w_fn2, w_fn3, w_fn4, w_fn5, w_join, w_vSrc, w_aSrc, w_lSrc, w_catLL, w_catOL, w_repL, w_sortV, w_asI, w_slE0, w_slE1, w_sl, q_srcT, q_srcS, q_srcR, q_zipT, q_slT, w_lc, w_forS, Int.toNat_natCast, v_0, v_S, List.replicate_succ, List.replicate_zero, Nat.reduceSub, List.getElem?_cons_zero, List.getElem?_cons_succ, List.set_cons_zero, List.set_cons_succ, if_true, if_false, Bool.false_eq_true, Bool.not_true, Bool.not_false, q_add, q_addT, q_addS, q_sub, q_eq, q_eqS, q_eqB, q_ne, q_neS, q_neB, q_lt, q_ltS, q_le, q_gt, q_ge, q_in1, q_nin1, q_isN, q_isnN, q_isB, q_isnB, q_isiI0, q_isiI1, q_isiI2, q_isiI3, q_isiI4, q_isiI5, q_isiB0, q_isiB1, q_isiB2, q_isiB3, q_isiB4, q_isiB5, q_isiS0, q_isiS1, q_isiS2, q_isiS3, q_isiS4, q_isiS5, q_isiT0, q_isiT1, q_isiT2, q_isiT3, q_isiT4, q_isiT5, q_isiR0, q_isiR1, q_isiR2, q_isiR3, q_isiR4, q_isiR5, q_isiN0, q_isiN1, q_isiN2, q_isiN3, q_isiN4, q_isiN5, q_lenS, q_lenT, q_lenR, q_min2, q_max2, q_strS, q_tupP, ix_0, ix_1, ix_2, ix_3]
  by_cases c : 0 < i
  · simp only [c, decide_true, w_bind, w_noX, w_ok, w_C, w_op2, w_asB, w_op3, w_and, w_or, w_not, w_test, w_bAnd, w_bOr, w_bNot, w_if, w_lif, w_tup, w_lst, w_alloc, w_vL, w_call, w_aNil, w_aCons, w_lCall, w_append, w_nil, w_lnil, w_seq, w_next, w_ret, w_set, w_expr, w_sif, w_sub, w_unp, w_fn1, w_fn2, w_fn3, w_fn4, w_fn5, w_join, w_vSrc, w_aSrc, w_lSrc, w_catLL, w_catOL, w_repL, w_sortV, w_asI, w_slE0, w_slE1, w_sl, q_srcT, q_srcS, q_srcR, q_zipT, q_slT, w_lc, w_forS, Int.toNat_natCast, v_0, v_S, List.replicate_succ, List.replicate_zero, Nat.reduceSub, List.getElem?_cons_zero, List.getElem?_cons_succ, List.set_cons_zero, List.set_cons_succ, if_true, if_false, Bool.false_eq_true, Bool.not_true, Bool.not_false, q_add, q_addT, q_addS, q_sub, q_eq, q_eqS, q_eqB, q_ne, q_neS, q_neB, q_lt, q_ltS, q_le, q_gt, q_ge, q_in1, q_nin1, q_isN, q_isnN, q_isB, q_isnB, q_isiI0, q_isiI1, q_isiI2, q_isiI3, q_isiI4, q_isiI5, q_isiB0, q_isiB1, q_isiB2, q_isiB3, q_isiB4, q_isiB5, q_isiS0, q_isiS1, q_isiS2, q_isiS3, q_isiS4, q_isiS5, q_isiT0, q_isiT1, q_isiT2, q_isiT3, q_isiT4, q_isiT5, q_isiR0, q_isiR1, q_isiR2, q_isiR3, q_isiR4, q_isiR5, q_isiN0, q_isiN1, q_isiN2, q_isiN3, q_isiN4, q_isiN5, q_lenS, q_lenT, q_lenR, q_min2, q_max2, q_strS, q_tupP, ix_0, ix_1, ix_2, ix_3]
    exact ⟨⟨.one f, rfl, fo⟩, T2.mono (by omega), F1.trans F2⟩
  simp only [c, decide_false, w_bind, w_noX, w_ok, w_C, w_op2, w_asB, w_op3, w_and, w_or, w_not, w_test, w_bAnd, w_bOr, w_bNot, w_if, w_lif, w_tup, w_lst, w_alloc, w_vL, w_call, w_aNil, w_aCons, w_lCall, w_append, w_nil, w_lnil, w_seq, w_next, w_ret, w_set, w_expr, w_sif, w_sub, w_unp, w_fn1, w_fn2, w_fn3, w_fn4, w_fn5, w_join, w_vSrc, w_aSrc, w_lSrc, w_catLL, w_catOL, w_repL, w_sortV, w_asI, w_slE0, w_slE1, w_sl, q_srcT, q_srcS, q_srcR, q_zipT, q_slT, w_lc, w_forS, Int.toNat_natCast, v_0, v_S, List.replicate_succ, List.replicate_zero, Nat.reduceSub, List.getElem?_cons_zero, List.getElem?_cons_succ, List.set_cons_zero, List.set_cons_succ, if_true, if_false, Bool.false_eq_true, Bool.not_true, Bool.not_false, q_add, q_addT, q_addS, q_sub, q_eq, q_eqS, q_eqB, q_ne, q_neS, q_neB, q_lt, q_ltS, q_le, q_gt, q_ge, q_in1, q_nin1, q_isN, q_isnN, q_isB, q_isnB, q_isiI0, q_isiI1, q_isiI2, q_isiI3, q_isiI4, q_isiI5, q_isiB0, q_isiB1, q_isiB2, q_isiB3, q_isiB4, q_isiB5, q_isiS0, q_isiS1, q_isiS2, q_isiS3, q_isiS4, q_isiS5, q_isiT0, q_isiT1, q_isiT2, q_isiT3, q_isiT4, q_isiT5, q_isiR0, q_isiR1, q_isiR2, q_isiR3, q_isiR4, q_isiR5, q_isiN0, q_isiN1, q_isiN2, q_isiN3, q_isiN4, q_isiN5, q_lenS, q_lenT, q_lenR, q_min2, q_max2, q_strS, q_tupP, ix_0, ix_1, ix_2, ix_3]
  refine (s_draw T2 (by omega) (by omega) (by omega)).imp fun v h3 p => ?_
  obtain ⟨j, rfl, j0, j1, T3, F3⟩ := p
  simp only [w_bind, w_noX, w_ok, w_C, w_op2, w_asB, w_op3, w_and, w_or, w_not, w_test, w_bAnd, w_bOr, w_bNot, w_if, w_lif, w_tup, w_lst, w_alloc, w_vL, w_call, w_aNil, w_aCons, w_lCall, w_append, w_nil, w_lnil, w_seq, w_next, w_ret, w_set, w_expr, w_sif, w_sub, w_unp, w_fn1, w_fn2, w_fn3, w_fn4, w_fn5, w_join, w_vSrc, w_aSrc, w_lSrc, w_catLL, w_catOL, w_repL, w_sortV, w_asI, w_slE0, w_slE1, w_sl, q_srcT, q_srcS, q_srcR, q_zipT, q_slT, w_lc, w_forS, Int.toNat_natCast, v_0, v_S, List.replicate_succ, List.replicate_zero, Nat.reduceSub, List.getElem?_cons_zero, List.getElem?_cons_succ, List.set_cons_zero, List.set_cons_succ, if_true, if_false, Bool.false_eq_true, Bool.not_true, Bool.not_false, q_add, q_addT, q_addS, q_sub, q_eq, q_eqS, q_eqB, q_ne, q_neS, q_neB, q_lt, q_ltS, q_le, q_gt, q_ge, q_in1, q_nin1, q_isN, q_isnN, q_isB, q_isnB, q_isiI0, q_isiI1, q_isiI2, q_isiI3, q_isiI4, q_isiI5, q_isiB0, q_isiB1, q_isiB2, q_isiB3, q_isiB4, q_isiB5, q_isiS0, q_isiS1, q_isiS2, q_isiS3, q_isiS4, q_isiS5, q_isiT0, q_isiT1, q_isiT2, q_isiT3, q_isiT4, q_isiT5, q_isiR0, q_isiR1, q_isiR2, q_isiR3, q_isiR4, q_isiR5, q_isiN0, q_isiN1, q_isiN2, q_isiN3, q_isiN4, q_isiN5, q_lenS, q_lenT, q_lenR, q_min2, q_max2, q_strS, q_tupP, ix_0, ix_1, ix_2, ix_3, List.length_cons, List.length_nil, lim_0, lim_1, lim_2, lim_3, lim_4, lim_5, lim_6, lim_7, lim_8, lim_9, lim_10, lim_11, lim_12, lim_13, lim_14, lim_15, lim_16, lim_17, lim_18, lim_19, lim_20, lim_21, lim_22, lim_23, Nat.reduceAdd, Nat.reduceLeDiff]
  refine (s_draw T3 (by omega) (by omega) (by omega)).imp fun v h4 p => ?_
  obtain ⟨l, rfl, l0, l1, T4, F4⟩ := p
  simp only [w_bind, w_noX, w_ok, w_C, w_op2, w_asB, w_op3, w_and, w_or, w_not, w_test, w_bAnd, w_bOr, w_bNot, w_if, w_lif, w_tup, w_lst, w_alloc, w_vL, w_call, w_aNil, w_aCons, w_lCall, w_append, w_nil, w_lnil, w_seq, w_next, w_ret, w_set, w_expr, w_sif, w_sub, w_unp, w_fn1, w_fn2, w_fn3, w_fn4, w_fn5, w_join, w_vSrc, w_aSrc, w_lSrc, w_catLL, w_catOL, w_repL, w_sortV, w_asI, w_slE0, w_slE1, w_sl, q_srcT, q_srcS, q_srcR, q_zipT, q_slT, w_lc, w_forS, Int.toNat_natCast, v_0, v_S, List.replicate_succ, List.replicate_zero, Nat.reduceSub, List.getElem?_cons_zero, List.getElem?_cons_succ, List.set_cons_zero, List.set_cons_succ, if_true, if_false, Bool.false_eq_true, Bool.not_true, Bool.not_false, q_add, q_addT, q_addS, q_sub, q_eq, q_eqS, q_eqB, q_ne, q_neS, q_neB, q_lt, q_ltS, q_le, q_gt, q_ge, q_in1, q_nin1, q_isN, q_isnN, q_isB, q_isnB, q_isiI0, q_isiI1, q_isiI2, q_isiI3, q_isiI4, q_isiI5, q_isiB0, q_isiB1, q_isiB2, q_isiB3, q_isiB4, q_isiB5, q_isiS0, q_isiS1, q_isiS2, q_isiS3, q_isiS4, q_isiS5, q_isiT0, q_isiT1, q_isiT2, q_isiT3, q_isiT4, q_isiT5, q_isiR0, q_isiR1, q_isiR2, q_isiR3, q_isiR4, q_isiR5, q_isiN0, q_isiN1, q_isiN2, q_isiN3, q_isiN4, q_isiN5, q_lenS, q_lenT, q_lenR, q_min2, q_max2, q_strS, q_tupP, ix_0, ix_1, ix_2, ix_3, List.length_cons, List.length_nil, lim_0, lim_1, lim_2, lim_3, lim_4, lim_5, lim_6, lim_7, lim_8, lim_9, lim_10, lim_11, lim_12, lim_13, lim_14, lim_15, lim_16, lim_17, lim_18, lim_19, lim_20, lim_21, lim_22, lim_23, Nat.reduceAdd, Nat.reduceLeDiff]
  obtain ⟨lo, rfl⟩ : ∃ z : Nat, j = (z : Int) := ⟨j.toNat, by omega⟩
  obtain ⟨hi, ehi⟩ : ∃ z : Nat, (if 1 < (lo : Int) + l then (lo : Int) + l else 1) = (z : Int) := ⟨(if 1 < (lo : Int) + l then (lo : Int) + l else 1).toNat, by split <;> omega⟩
  rw [ehi]
  exact ⟨⟨.rep f lo hi, rfl, fo, by split at ehi <;> omega, by split at ehi <;> omega, by split at ehi <;> omega⟩, T4.mono (by omega), F1.trans (F2.trans (F3.trans F4))⟩
def IsForm (n : Nat) (v : D) : Prop := ∃ fs : List FF, v = .tup (fs.map FF.d) ∧ (∀ f ∈ fs, f.Ok) ∧ 1 ≤ fs.length ∧ fs.length ≤ n
theorem s_form {m n : Nat} (T : Twn ns t b h) (hb : b < 2 ^ 55) (h0 : 1 ≤ m) (h1 : m ≤ 4) (n0 : 1 ≤ n) (n1 : n ≤ 6) : Ok (run (k + 6) I__law_form [.rol (ns.map .int), .obj t, .int n, .int m] h) (Gv ns t (b + 1000) h (IsForm n)) := by
  rw [e__law_form]
  unfold m__law_form
  simp only [w_bind, w_noX, w_ok, w_C, w_op2, w_asB, w_op3, w_and, w_or, w_not, w_test, w_bAnd, w_bOr, w_bNot, w_if, w_lif, w_tup, w_lst, w_alloc, w_vL, w_call, w_aNil, w_aCons, w_lCall, w_append, w_nil, w_lnil, w_seq, w_next, w_ret, w_set, w_expr, w_sif, w_sub, w_unp, w_fn1, w_fn2, w_fn3, w_fn4, w_fn5, w_join, w_vSrc, w_aSrc, w_lSrc, w_catLL, w_catOL, w_repL, w_sortV, w_asI, w_slE0, w_slE1, w_sl, q_srcT, q_srcS, q_srcR, q_zipT, q_slT, w_lc, w_forS, Int.toNat_natCast, v_0, v_S, List.replicate_succ, List.replicate_zero, Nat.reduceSub, List.getElem?_cons_zero, List.getElem?_cons_succ, List.set_cons_zero, List.set_cons_succ, if_true, if_false, Bool.false_eq_true, Bool.not_true, Bool.not_false, q_add, q_addT, q_addS, q_sub, q_eq, q_eqS, q_eqB, q_ne, q_neS, q_neB, q_lt, q_ltS, q_le, q_gt, q_ge, q_in1, q_nin1, q_isN, q_isnN, q_isB, q_isnB, q_isiI0, q_isiI1, q_isiI2, q_isiI3, q_isiI4, q_isiI5, q_isiB0, q_isiB1, q_isiB2, q_isiB3, q_isiB4, q_isiB5, q_isiS0, q_isiS1, q_isiS2, q_isiS3, q_isiS4, q_isiS5, q_isiT0, q_isiT1, q_isiT2, q_isiT3, q_isiT4, q_isiT5, q_isiR0, q_isiR1, q_isiR2, q_isiR3, q_isiR4, q_isiR5, q_isiN0, q_isiN1, q_isiN2, q_isiN3, q_isiN4, q_isiN5, q_lenS, q_lenT, q_lenR, q_min2, q_max2, q_strS, q_tupP, ix_0, ix_1, ix_2, ix_3]
  refine (s_draw T (by omega) (by omega) (by omega)).imp fun v h2 p => ?_
  obtain ⟨i, rfl, i0, i1, T2, F2⟩ := p
  obtain ⟨c, ec⟩ : ∃ z : Nat, 1 + i = (z : Int) := ⟨(1 + i).toNat, by omega⟩
  simp only [w_bind, w_noX, w_ok, w_C, w_op2, w_asB, w_op3, w_and, w_or, w_not, w_test, w_bAnd, w_bOr, w_bNot, w_if, w_lif, w_tup, w_lst, w_alloc, w_vL, w_call, w_aNil, w_aCons, w_lCall, w_append, w_nil, w_lnil, w_seq, w_next, w_ret, w_set, w_expr, w_sif, w_sub, w_unp, w_fn1, w_fn2, w_fn3, w_fn4, w_fn5, w_join, w_vSrc, w_aSrc, w_lSrc, w_catLL, w_catOL, w_repL, w_sortV, w_asI, w_slE0, w_slE1, w_sl, q_srcT, q_srcS, q_srcR, q_zipT, q_slT, w_lc, w_forS, Int.toNat_natCast, v_0, v_S, List.replicate_succ, List.replicate_zero, Nat.reduceSub, List.getElem?_cons_zero, List.getElem?_cons_succ, List.set_cons_zero, List.set_cons_succ, if_true, if_false, Bool.false_eq_true, Bool.not_true, Bool.not_false, q_add, q_addT, q_addS, q_sub, q_eq, q_eqS, q_eqB, q_ne, q_neS, q_neB, q_lt, q_ltS, q_le, q_gt, q_ge, q_in1, q_nin1, q_isN, q_isnN, q_isB, q_isnB, q_isiI0, q_isiI1, q_isiI2, q_isiI3, q_isiI4, q_isiI5, q_isiB0, q_isiB1, q_isiB2, q_isiB3, q_isiB4, q_isiB5, q_isiS0, q_isiS1, q_isiS2, q_isiS3, q_isiS4, q_isiS5, q_isiT0, q_isiT1, q_isiT2, q_isiT3, q_isiT4, q_isiT5, q_isiR0, q_isiR1, q_isiR2, q_isiR3, q_isiR4, q_isiR5, q_isiN0, q_isiN1, q_isiN2, q_isiN3, q_isiN4, q_isiN5, q_lenS, q_lenT, q_lenR, q_min2, q_max2, q_strS, q_tupP, ix_0, ix_1, ix_2, ix_3, ec, q_rng1 (show (-1000 : Int) ≤ (c : Int) by omega) (show (c : Int) ≤ 1000000 by omega)]
  rw [w_lcI (by rw [upTo_len]; simp only [LIM]; omega)]
  refine lc_rng (fun j acc h' => Twn ns t (b + 1 + 110 * j) h' ∧ Fr t h h' ∧ ∃ fs : List FF, acc = fs.map FF.d ∧ (∀ f ∈ fs, f.Ok) ∧ fs.length = j) ⟨by simpa using T2, F2, [], rfl, fun f hf => by simp at hf, rfl⟩ ?_ ?_
  · rintro j acc h' hj ⟨T', F, fs, rfl, e1, e2⟩
    simp only [wipeE, w_bind, w_noX, w_ok, w_C, w_op2, w_asB, w_op3, w_and, w_or, w_not, w_test, w_bAnd, w_bOr, w_bNot, w_if, w_lif, w_tup, w_lst, w_alloc, w_vL, w_call, w_aNil, w_aCons, w_lCall, w_append, w_nil, w_lnil, w_seq, w_next, w_ret, w_set, w_expr, w_sif, w_sub, w_unp, w_fn1, w_fn2, w_fn3, w_fn4, w_fn5, w_join, w_vSrc, w_aSrc, w_lSrc, w_catLL, w_catOL, w_repL, w_sortV, w_asI, w_slE0, w_slE1, w_sl, q_srcT, q_srcS, q_srcR, q_zipT, q_slT, w_lc, w_forS, Int.toNat_natCast, v_0, v_S, List.replicate_succ, List.replicate_zero, Nat.reduceSub, List.getElem?_cons_zero, List.getElem?_cons_succ, List.set_cons_zero, List.set_cons_succ, if_true, if_false, Bool.false_eq_true, Bool.not_true, Bool.not_false, q_add, q_addT, q_addS, q_sub, q_eq, q_eqS, q_eqB, q_ne, q_neS, q_neB, q_lt, q_ltS, q_le, q_gt, q_ge, q_in1, q_nin1, q_isN, q_isnN, q_isB, q_isnB, q_isiI0, q_isiI1, q_isiI2, q_isiI3, q_isiI4, q_isiI5, q_isiB0, q_isiB1, q_isiB2, q_isiB3, q_isiB4, q_isiB5, q_isiS0, q_isiS1, q_isiS2, q_isiS3, q_isiS4, q_isiS5, q_isiT0, q_isiT1, q_isiT2, q_isiT3, q_isiT4, q_isiT5, q_isiR0, q_isiR1, q_isiR2, q_isiR3, q_isiR4, q_isiR5, q_isiN0, q_isiN1, q_isiN2, q_isiN3, q_isiN4, q_isiN5, q_lenS, q_lenT, q_lenR, q_min2, q_max2, q_strS, q_tupP, ix_0, ix_1, ix_2, ix_3]
    refine (s_field T' (by omega) h0 h1).imp fun v h3 p => ?_
    obtain ⟨⟨f, rfl, fo⟩, T3, F3⟩ := p
    refine ⟨T3.mono (by omega), F.trans F3, fs ++ [f], by simp, fun g hg => ?_, by simp [e2]⟩
    rcases List.mem_append.mp hg with hg | hg
    · exact e1 g hg
    · simp at hg; subst hg; exact fo
  · rintro acc h' ⟨T', F, fs, rfl, e1, e2⟩
    exact ⟨⟨fs, rfl, e1, by omega, by omega⟩, T'.mono (by omega), F⟩
end
/-! ### values drawn -/
section
variable {k : Nat} {ns : List Int} {t b : Nat} {h : MH}
theorem signs_only {cs ds s : Sg} (hs : ∀ c ∈ s, c ∈ cs) (hd : ∀ c ∈ cs, c ∈ ds) : only' s ds = true := by
  unfold only'
  rw [List.all_eq_true]
  intro c hc
  exact decide_eq_true (hd c (hs c hc))
theorem s_valueS {f : SF} (T : Twn ns t b h) (hb : b < 2 ^ 56) (fo : f.Ok) : Ok (run (k + 4) I__law_value [.rol (ns.map .int), .obj t, f.d] h) (Gv ns t (b + 10) h fun v => f.val v = true) := by
  rw [e__law_value]
  unfold m__law_value
  cases f with
  | word s =>
    simp only [SF.d, w_bind, w_noX, w_ok, w_C, w_op2, w_asB, w_op3, w_and, w_or, w_not, w_test, w_bAnd, w_bOr, w_bNot, w_if, w_lif, w_tup, w_lst, w_alloc, w_vL, w_call, w_aNil, w_aCons, w_lCall, w_append, w_nil, w_lnil, w_seq, w_next, w_ret, w_set, w_expr, w_sif, w_sub, w_unp, w_fn1, w_fn2, w_fn3, w_fn4, w_fn5, w_join, w_vSrc, w_aSrc, w_lSrc, w_catLL, w_catOL, w_repL, w_sortV, w_asI, w_slE0, w_slE1, w_sl, q_srcT, q_srcS, q_srcR, q_zipT, q_slT, w_lc, w_forS, Int.toNat_natCast, v_0, v_S, List.replicate_succ, List.replicate_zero, Nat.reduceSub, List.getElem?_cons_zero, List.getElem?_cons_succ, List.set_cons_zero, List.set_cons_succ, if_true, if_false, Bool.false_eq_true, Bool.not_true, Bool.not_false, q_add, q_addT, q_addS, q_sub, q_eq, q_eqS, q_eqB, q_ne, q_neS, q_neB, q_lt, q_ltS, q_le, q_gt, q_ge, q_in1, q_nin1, q_isN, q_isnN, q_isB, q_isnB, q_isiI0, q_isiI1, q_isiI2, q_isiI3, q_isiI4, q_isiI5, q_isiB0, q_isiB1, q_isiB2, q_isiB3, q_isiB4, q_isiB5, q_isiS0, q_isiS1, q_isiS2, q_isiS3, q_isiS4, q_isiS5, q_isiT0, q_isiT1, q_isiT2, q_isiT3, q_isiT4, q_isiT5, q_isiR0, q_isiR1, q_isiR2, q_isiR3, q_isiR4, q_isiR5, q_isiN0, q_isiN1, q_isiN2, q_isiN3, q_isiN4, q_isiN5, q_lenS, q_lenT, q_lenR, q_min2, q_max2, q_strS, q_tupP, ix_0, ix_1, ix_2, ix_3, decide_true]
    exact ⟨by simp [SF.val], T.mono (by omega), Fr.refl⟩
  | choice ts =>
    simp only [SF.d, w_bind, w_noX, w_ok, w_C, w_op2, w_asB, w_op3, w_and, w_or, w_not, w_test, w_bAnd, w_bOr, w_bNot, w_if, w_lif, w_tup, w_lst, w_alloc, w_vL, w_call, w_aNil, w_aCons, w_lCall, w_append, w_nil, w_lnil, w_seq, w_next, w_ret, w_set, w_expr, w_sif, w_sub, w_unp, w_fn1, w_fn2, w_fn3, w_fn4, w_fn5, w_join, w_vSrc, w_aSrc, w_lSrc, w_catLL, w_catOL, w_repL, w_sortV, w_asI, w_slE0, w_slE1, w_sl, q_srcT, q_srcS, q_srcR, q_zipT, q_slT, w_lc, w_forS, Int.toNat_natCast, v_0, v_S, List.replicate_succ, List.replicate_zero, Nat.reduceSub, List.getElem?_cons_zero, List.getElem?_cons_succ, List.set_cons_zero, List.set_cons_succ, if_true, if_false, Bool.false_eq_true, Bool.not_true, Bool.not_false, q_add, q_addT, q_addS, q_sub, q_eq, q_eqS, q_eqB, q_ne, q_neS, q_neB, q_lt, q_ltS, q_le, q_gt, q_ge, q_in1, q_nin1, q_isN, q_isnN, q_isB, q_isnB, q_isiI0, q_isiI1, q_isiI2, q_isiI3, q_isiI4, q_isiI5, q_isiB0, q_isiB1, q_isiB2, q_isiB3, q_isiB4, q_isiB5, q_isiS0, q_isiS1, q_isiS2, q_isiS3, q_isiS4, q_isiS5, q_isiT0, q_isiT1, q_isiT2, q_isiT3, q_isiT4, q_isiT5, q_isiR0, q_isiR1, q_isiR2, q_isiR3, q_isiR4, q_isiR5, q_isiN0, q_isiN1, q_isiN2, q_isiN3, q_isiN4, q_isiN5, q_lenS, q_lenT, q_lenR, q_min2, q_max2, q_strS, q_tupP, ix_0, ix_1, ix_2, ix_3, decide_true, List.cons.injEq, reduceCtorEq, and_false, false_and, Nat.reduceEqDiff, decide_false]
    obtain ⟨f1, f2, f3, f4⟩ := fo
    refine (s_pickT T (by omega) (by intro e; simp at e; rw [e] at f1; simp at f1) (by simp; omega)).imp fun v h2 p => ?_
    obtain ⟨p1, T2, F2⟩ := p
    obtain ⟨s, hs, rfl⟩ := List.mem_map.mp p1
    exact ⟨by simp [SF.val, hs], T2.mono (by omega), F2⟩
  | number n =>
    simp only [SF.d, w_bind, w_noX, w_ok, w_C, w_op2, w_asB, w_op3, w_and, w_or, w_not, w_test, w_bAnd, w_bOr, w_bNot, w_if, w_lif, w_tup, w_lst, w_alloc, w_vL, w_call, w_aNil, w_aCons, w_lCall, w_append, w_nil, w_lnil, w_seq, w_next, w_ret, w_set, w_expr, w_sif, w_sub, w_unp, w_fn1, w_fn2, w_fn3, w_fn4, w_fn5, w_join, w_vSrc, w_aSrc, w_lSrc, w_catLL, w_catOL, w_repL, w_sortV, w_asI, w_slE0, w_slE1, w_sl, q_srcT, q_srcS, q_srcR, q_zipT, q_slT, w_lc, w_forS, Int.toNat_natCast, v_0, v_S, List.replicate_succ, List.replicate_zero, Nat.reduceSub, List.getElem?_cons_zero, List.getElem?_cons_succ, List.set_cons_zero, List.set_cons_succ, if_true, if_false, Bool.false_eq_true, Bool.not_true, Bool.not_false, q_add, q_addT, q_addS, q_sub, q_eq, q_eqS, q_eqB, q_ne, q_neS, q_neB, q_lt, q_ltS, q_le, q_gt, q_ge, q_in1, q_nin1, q_isN, q_isnN, q_isB, q_isnB, q_isiI0, q_isiI1, q_isiI2, q_isiI3, q_isiI4, q_isiI5, q_isiB0, q_isiB1, q_isiB2, q_isiB3, q_isiB4, q_isiB5, q_isiS0, q_isiS1, q_isiS2, q_isiS3, q_isiS4, q_isiS5, q_isiT0, q_isiT1, q_isiT2, q_isiT3, q_isiT4, q_isiT5, q_isiR0, q_isiR1, q_isiR2, q_isiR3, q_isiR4, q_isiR5, q_isiN0, q_isiN1, q_isiN2, q_isiN3, q_isiN4, q_isiN5, q_lenS, q_lenT, q_lenR, q_min2, q_max2, q_strS, q_tupP, ix_0, ix_1, ix_2, ix_3, List.length_cons, List.length_nil, lim_0, lim_1, lim_2, lim_3, lim_4, lim_5, lim_6, lim_7, lim_8, lim_9, lim_10, lim_11, lim_12, lim_13, lim_14, lim_15, lim_16, lim_17, lim_18, lim_19, lim_20, lim_21, lim_22, lim_23, Nat.reduceAdd, Nat.reduceLeDiff, decide_true, List.cons.injEq, reduceCtorEq, and_false, false_and, Nat.reduceEqDiff, decide_false]
    obtain ⟨f1, f2⟩ := fo
    have tl := T.lt
    refine (s_draw T.app (by omega) (by omega) (by omega)).imp fun v h2 p => ?_
    obtain ⟨i, rfl, i0, i1, T2, F2⟩ := p
    have g := F2.get (getElem?_app (h := h) (x := .lst [.int 10, .int 100, .int 1000, .int 10000])) (by omega)
    obtain ⟨d, _, hd, e⟩ := ix_obj g i0 (by simp; omega)
    rw [e, w_ok]
    have hi : i = 0 ∨ i = 1 ∨ i = 2 ∨ i = 3 := by omega
    obtain ⟨j, hj, rfl⟩ : ∃ j : Nat, j < n ∧ i = (j : Int) := ⟨i.toNat, by omega, by omega⟩
    obtain ⟨z, rfl, z0, z1⟩ : ∃ z : Nat, d = .int z ∧ 0 < z ∧ z ≤ 10 ^ n ∧ z < 100000 := by
      have n4 : n = 1 ∨ n = 2 ∨ n = 3 ∨ n = 4 := by omega
      have j4 : j = 0 ∨ j = 1 ∨ j = 2 ∨ j = 3 := by omega
      rcases j4 with rfl | rfl | rfl | rfl <;> simp at hd <;> subst hd
      · refine ⟨10, rfl, by omega, ?_, by omega⟩
        rcases n4 with rfl | rfl | rfl | rfl <;> omega
      · refine ⟨100, rfl, by omega, ?_, by omega⟩
        rcases n4 with rfl | rfl | rfl | rfl <;> omega
      · refine ⟨1000, rfl, by omega, ?_, by omega⟩
        rcases n4 with rfl | rfl | rfl | rfl <;> omega
      · refine ⟨10000, rfl, by omega, ?_, by omega⟩
        rcases n4 with rfl | rfl | rfl | rfl <;> omega
    refine (s_draw T2 (by omega) (by omega) (by omega)).imp fun v h3 p => ?_
    obtain ⟨q, rfl, q0, q1, T3, F3⟩ := p
    refine ⟨?_, T3.mono (by omega), Fr.app.trans (F2.trans F3)⟩
    simp only [SF.val, Bool.and_eq_true, decide_eq_true_eq]
    have : ((z : Nat) : Int) ≤ ((10 ^ n : Nat) : Int) := Int.ofNat_le.mpr z1.1
    rw [Int.natCast_pow] at this
    exact ⟨q0, by have h10 : ((10 : Nat) : Int) = 10 := rfl; rw [h10] at this; omega⟩
  | digits lo hi =>
    simp only [SF.d, w_bind, w_noX, w_ok, w_C, w_op2, w_asB, w_op3, w_and, w_or, w_not, w_test, w_bAnd, w_bOr, w_bNot, w_if, w_lif, w_tup, w_lst, w_alloc, w_vL, w_call, w_aNil, w_aCons, w_lCall, w_append, w_nil, w_lnil, w_seq, w_next, w_ret, w_set, w_expr, w_sif, w_sub, w_unp, w_fn1, w_fn2, w_fn3, w_fn4, w_fn5, w_join, w_vSrc, w_aSrc, w_lSrc, w_catLL, w_catOL, w_repL, w_sortV, w_asI, w_slE0, w_slE1, w_sl, q_srcT, q_srcS, q_srcR, q_zipT, q_slT, w_lc, w_forS, Int.toNat_natCast, v_0, v_S, List.replicate_succ, List.replicate_zero, Nat.reduceSub, List.getElem?_cons_zero, List.getElem?_cons_succ, List.set_cons_zero, List.set_cons_succ, if_true, if_false, Bool.false_eq_true, Bool.not_true, Bool.not_false, q_add, q_addT, q_addS, q_sub, q_eq, q_eqS, q_eqB, q_ne, q_neS, q_neB, q_lt, q_ltS, q_le, q_gt, q_ge, q_in1, q_nin1, q_isN, q_isnN, q_isB, q_isnB, q_isiI0, q_isiI1, q_isiI2, q_isiI3, q_isiI4, q_isiI5, q_isiB0, q_isiB1, q_isiB2, q_isiB3, q_isiB4, q_isiB5, q_isiS0, q_isiS1, q_isiS2, q_isiS3, q_isiS4, q_isiS5, q_isiT0, q_isiT1, q_isiT2, q_isiT3, q_isiT4, q_isiT5, q_isiR0, q_isiR1, q_isiR2, q_isiR3, q_isiR4, q_isiR5, q_isiN0, q_isiN1, q_isiN2, q_isiN3, q_isiN4, q_isiN5, q_lenS, q_lenT, q_lenR, q_min2, q_max2, q_strS, q_tupP, ix_0, ix_1, ix_2, ix_3, List.length_cons, List.length_nil, lim_0, lim_1, lim_2, lim_3, lim_4, lim_5, lim_6, lim_7, lim_8, lim_9, lim_10, lim_11, lim_12, lim_13, lim_14, lim_15, lim_16, lim_17, lim_18, lim_19, lim_20, lim_21, lim_22, lim_23, Nat.reduceAdd, Nat.reduceLeDiff, decide_true, List.cons.injEq, reduceCtorEq, and_false, false_and, Nat.reduceEqDiff, decide_false]
    obtain ⟨f1, f2⟩ := fo
    refine (s_draw T (by omega) (by omega) (by omega)).imp fun v h2 p => ?_
    obtain ⟨i, rfl, i0, i1, T2, F2⟩ := p
    obtain ⟨j, hj⟩ : ∃ j : Nat, (lo : Int) + i = (j : Int) := ⟨((lo : Int) + i).toNat, by omega⟩
    simp only [w_bind, w_noX, w_ok, w_C, w_op2, w_asB, w_op3, w_and, w_or, w_not, w_test, w_bAnd, w_bOr, w_bNot, w_if, w_lif, w_tup, w_lst, w_alloc, w_vL, w_call, w_aNil, w_aCons, w_lCall, w_append, w_nil, w_lnil, w_seq, w_next, w_ret, w_set, w_expr, w_sif, w_sub, w_unp, w_fn1, w_fn2, w_fn3, w_fn4, w_fn5, w_join, w_vSrc, w_aSrc, w_lSrc, w_catLL, w_catOL, w_repL, w_sortV, w_asI, w_slE0, w_slE1, w_sl, q_srcT, q_srcS, q_srcR, q_zipT, q_slT, w_lc, w_forS, Int.toNat_natCast, v_0, v_S, List.replicate_succ, List.replicate_zero, Nat.reduceSub, List.getElem?_cons_zero, List.getElem?_cons_succ, List.set_cons_zero, List.set_cons_succ, if_true, if_false, Bool.false_eq_true, Bool.not_true, Bool.not_false, q_add, q_addT, q_addS, q_sub, q_eq, q_eqS, q_eqB, q_ne, q_neS, q_neB, q_lt, q_ltS, q_le, q_gt, q_ge, q_in1, q_nin1, q_isN, q_isnN, q_isB, q_isnB, q_isiI0, q_isiI1, q_isiI2, q_isiI3, q_isiI4, q_isiI5, q_isiB0, q_isiB1, q_isiB2, q_isiB3, q_isiB4, q_isiB5, q_isiS0, q_isiS1, q_isiS2, q_isiS3, q_isiS4, q_isiS5, q_isiT0, q_isiT1, q_isiT2, q_isiT3, q_isiT4, q_isiT5, q_isiR0, q_isiR1, q_isiR2, q_isiR3, q_isiR4, q_isiR5, q_isiN0, q_isiN1, q_isiN2, q_isiN3, q_isiN4, q_isiN5, q_lenS, q_lenT, q_lenR, q_min2, q_max2, q_strS, q_tupP, ix_0, ix_1, ix_2, ix_3, hj, decide_true]
    refine (s_signs T2 (by omega) (by simp) (by simp) (by omega)).imp fun v h3 p => ?_
    obtain ⟨⟨s, rfl, s1, s2⟩, T3, F3⟩ := p
    refine ⟨?_, T3.mono (by omega), F2.trans F3⟩
    simp only [SF.val, Bool.and_eq_true, decide_eq_true_eq]
    exact ⟨signs_only s2 (by decide), by omega, by omega⟩
  | letters lo hi =>
    simp only [SF.d, w_bind, w_noX, w_ok, w_C, w_op2, w_asB, w_op3, w_and, w_or, w_not, w_test, w_bAnd, w_bOr, w_bNot, w_if, w_lif, w_tup, w_lst, w_alloc, w_vL, w_call, w_aNil, w_aCons, w_lCall, w_append, w_nil, w_lnil, w_seq, w_next, w_ret, w_set, w_expr, w_sif, w_sub, w_unp, w_fn1, w_fn2, w_fn3, w_fn4, w_fn5, w_join, w_vSrc, w_aSrc, w_lSrc, w_catLL, w_catOL, w_repL, w_sortV, w_asI, w_slE0, w_slE1, w_sl, q_srcT, q_srcS, q_srcR, q_zipT, q_slT, w_lc, w_forS, Int.toNat_natCast, v_0, v_S, List.replicate_succ, List.replicate_zero, Nat.reduceSub, List.getElem?_cons_zero, List.getElem?_cons_succ, List.set_cons_zero, List.set_cons_succ, if_true, if_false, Bool.false_eq_true, Bool.not_true, Bool.not_false, q_add, q_addT, q_addS, q_sub, q_eq, q_eqS, q_eqB, q_ne, q_neS, q_neB, q_lt, q_ltS, q_le, q_gt, q_ge, q_in1, q_nin1, q_isN, q_isnN, q_isB, q_isnB, q_isiI0, q_isiI1, q_isiI2, q_isiI3, q_isiI4, q_isiI5, q_isiB0, q_isiB1, q_isiB2, q_isiB3, q_isiB4, q_isiB5, q_isiS0, q_isiS1, q_isiS2, q_isiS3, q_isiS4, q_isiS5, q_isiT0, q_isiT1, q_isiT2, q_isiT3, q_isiT4, q_isiT5, q_isiR0, q_isiR1, q_isiR2, q_isiR3, q_isiR4, q_isiR5, q_isiN0, q_isiN1, q_isiN2, q_isiN3, q_isiN4, q_isiN5, q_lenS, q_lenT, q_lenR, q_min2, q_max2, q_strS, q_tupP, ix_0, ix_1, ix_2, ix_3, List.length_cons, List.length_nil, lim_0, lim_1, lim_2, lim_3, lim_4, lim_5, lim_6, lim_7, lim_8, lim_9, lim_10, lim_11, lim_12, lim_13, lim_14, lim_15, lim_16, lim_17, lim_18, lim_19, lim_20, lim_21, lim_22, lim_23, Nat.reduceAdd, Nat.reduceLeDiff, decide_true, List.cons.injEq, reduceCtorEq, and_false, false_and, Nat.reduceEqDiff, decide_false]
    obtain ⟨f1, f2⟩ := fo
    refine (s_draw T (by omega) (by omega) (by omega)).imp fun v h2 p => ?_
    obtain ⟨i, rfl, i0, i1, T2, F2⟩ := p
    obtain ⟨j, hj⟩ : ∃ j : Nat, (lo : Int) + i = (j : Int) := ⟨((lo : Int) + i).toNat, by omega⟩
    simp only [w_bind, w_noX, w_ok, w_C, w_op2, w_asB, w_op3, w_and, w_or, w_not, w_test, w_bAnd, w_bOr, w_bNot, w_if, w_lif, w_tup, w_lst, w_alloc, w_vL, w_call, w_aNil, w_aCons, w_lCall, w_append, w_nil, w_lnil, w_seq, w_next, w_ret, w_set, w_expr, w_sif, w_sub, w_unp, w_fn1, w_fn2, w_fn3, w_fn4, w_fn5, w_join, w_vSrc, w_aSrc, w_lSrc, w_catLL, w_catOL, w_repL, w_sortV, w_asI, w_slE0, w_slE1, w_sl, q_srcT, q_srcS, q_srcR, q_zipT, q_slT, w_lc, w_forS, Int.toNat_natCast, v_0, v_S, List.replicate_succ, List.replicate_zero, Nat.reduceSub, List.getElem?_cons_zero, List.getElem?_cons_succ, List.set_cons_zero, List.set_cons_succ, if_true, if_false, Bool.false_eq_true, Bool.not_true, Bool.not_false, q_add, q_addT, q_addS, q_sub, q_eq, q_eqS, q_eqB, q_ne, q_neS, q_neB, q_lt, q_ltS, q_le, q_gt, q_ge, q_in1, q_nin1, q_isN, q_isnN, q_isB, q_isnB, q_isiI0, q_isiI1, q_isiI2, q_isiI3, q_isiI4, q_isiI5, q_isiB0, q_isiB1, q_isiB2, q_isiB3, q_isiB4, q_isiB5, q_isiS0, q_isiS1, q_isiS2, q_isiS3, q_isiS4, q_isiS5, q_isiT0, q_isiT1, q_isiT2, q_isiT3, q_isiT4, q_isiT5, q_isiR0, q_isiR1, q_isiR2, q_isiR3, q_isiR4, q_isiR5, q_isiN0, q_isiN1, q_isiN2, q_isiN3, q_isiN4, q_isiN5, q_lenS, q_lenT, q_lenR, q_min2, q_max2, q_strS, q_tupP, ix_0, ix_1, ix_2, ix_3, hj, List.cons.injEq, reduceCtorEq, and_false, false_and, Nat.reduceEqDiff, decide_false]
    refine (s_signs T2 (by omega) (by simp) (by simp) (by omega)).imp fun v h3 p => ?_
    obtain ⟨⟨s, rfl, s1, s2⟩, T3, F3⟩ := p
    refine ⟨?_, T3.mono (by omega), F2.trans F3⟩
    simp only [SF.val, Bool.and_eq_true, decide_eq_true_eq]
    exact ⟨signs_only s2 (by decide), by omega, by omega⟩
theorem s_value {f : FF} (T : Twn ns t b h) (hb : b < 2 ^ 55) (fo : f.Ok) : Ok (run (k + 5) I__law_value [.rol (ns.map .int), .obj t, f.d] h) (Gv ns t (b + 40) h fun v => f.val v = true) := by
  cases f with
  | one s => exact (s_valueS T (by omega) fo).imp fun v h2 p => ⟨p.1, p.2.1.mono (by omega), p.2.2⟩
  | rep s lo hi =>
    rw [e__law_value]
    unfold m__law_value
    simp only [FF.d, w_bind, w_noX, w_ok, w_C, w_op2, w_asB, w_op3, w_and, w_or, w_not, w_test, w_bAnd, w_bOr, w_bNot, w_if, w_lif, w_tup, w_lst, w_alloc, w_vL, w_call, w_aNil, w_aCons, w_lCall, w_append, w_nil, w_lnil, w_seq, w_next, w_ret, w_set, w_expr, w_sif, w_sub, w_unp, w_fn1, w_fn2, w_fn3, w_fn4, w_fn5, w_join, w_vSrc, w_aSrc, w_lSrc, w_catLL, w_catOL, w_repL, w_sortV, w_asI, w_slE0, w_slE1, w_sl, q_srcT, q_srcS, q_srcR, q_zipT, q_slT, w_lc, w_forS, Int.toNat_natCast, v_0, v_S, List.replicate_succ, List.replicate_zero, Nat.reduceSub, List.getElem?_cons_zero, List.getElem?_cons_succ, List.set_cons_zero, List.set_cons_succ, if_true, if_false, Bool.false_eq_true, Bool.not_true, Bool.not_false, q_add, q_addT, q_addS, q_sub, q_eq, q_eqS, q_eqB, q_ne, q_neS, q_neB, q_lt, q_ltS, q_le, q_gt, q_ge, q_in1, q_nin1, q_isN, q_isnN, q_isB, q_isnB, q_isiI0, q_isiI1, q_isiI2, q_isiI3, q_isiI4, q_isiI5, q_isiB0, q_isiB1, q_isiB2, q_isiB3, q_isiB4, q_isiB5, q_isiS0, q_isiS1, q_isiS2, q_isiS3, q_isiS4, q_isiS5, q_isiT0, q_isiT1, q_isiT2, q_isiT3, q_isiT4, q_isiT5, q_isiR0, q_isiR1, q_isiR2, q_isiR3, q_isiR4, q_isiR5, q_isiN0, q_isiN1, q_isiN2, q_isiN3, q_isiN4, q_isiN5, q_lenS, q_lenT, q_lenR, q_min2, q_max2, q_strS, q_tupP, ix_0, ix_1, ix_2, ix_3, List.length_cons, List.length_nil, lim_0, lim_1, lim_2, lim_3, lim_4, lim_5, lim_6, lim_7, lim_8, lim_9, lim_10, lim_11, lim_12, lim_13, lim_14, lim_15, lim_16, lim_17, lim_18, lim_19, lim_20, lim_21, lim_22, lim_23, Nat.reduceAdd, Nat.reduceLeDiff, decide_true, List.cons.injEq, reduceCtorEq, and_false, false_and, Nat.reduceEqDiff, decide_false]
    obtain ⟨f0, f1, f2, f3⟩ := fo
    refine (s_draw T (by omega) (by omega) (by omega)).imp fun v h2 p => ?_
    obtain ⟨i, rfl, i0, i1, T2, F2⟩ := p
    obtain ⟨m, hm⟩ : ∃ j : Nat, (lo : Int) + i = (j : Int) := ⟨((lo : Int) + i).toNat, by omega⟩
    simp only [w_bind, w_noX, w_ok, w_C, w_op2, w_asB, w_op3, w_and, w_or, w_not, w_test, w_bAnd, w_bOr, w_bNot, w_if, w_lif, w_tup, w_lst, w_alloc, w_vL, w_call, w_aNil, w_aCons, w_lCall, w_append, w_nil, w_lnil, w_seq, w_next, w_ret, w_set, w_expr, w_sif, w_sub, w_unp, w_fn1, w_fn2, w_fn3, w_fn4, w_fn5, w_join, w_vSrc, w_aSrc, w_lSrc, w_catLL, w_catOL, w_repL, w_sortV, w_asI, w_slE0, w_slE1, w_sl, q_srcT, q_srcS, q_srcR, q_zipT, q_slT, w_lc, w_forS, Int.toNat_natCast, v_0, v_S, List.replicate_succ, List.replicate_zero, Nat.reduceSub, List.getElem?_cons_zero, List.getElem?_cons_succ, List.set_cons_zero, List.set_cons_succ, if_true, if_false, Bool.false_eq_true, Bool.not_true, Bool.not_false, q_add, q_addT, q_addS, q_sub, q_eq, q_eqS, q_eqB, q_ne, q_neS, q_neB, q_lt, q_ltS, q_le, q_gt, q_ge, q_in1, q_nin1, q_isN, q_isnN, q_isB, q_isnB, q_isiI0, q_isiI1, q_isiI2, q_isiI3, q_isiI4, q_isiI5, q_isiB0, q_isiB1, q_isiB2, q_isiB3, q_isiB4, q_isiB5, q_isiS0, q_isiS1, q_isiS2, q_isiS3, q_isiS4, q_isiS5, q_isiT0, q_isiT1, q_isiT2, q_isiT3, q_isiT4, q_isiT5, q_isiR0, q_isiR1, q_isiR2, q_isiR3, q_isiR4, q_isiR5, q_isiN0, q_isiN1, q_isiN2, q_isiN3, q_isiN4, q_isiN5, q_lenS, q_lenT, q_lenR, q_min2, q_max2, q_strS, q_tupP, ix_0, ix_1, ix_2, ix_3, hm, q_rng1 (show (-1000 : Int) ≤ (m : Int) by omega) (show (m : Int) ≤ 1000000 by omega)]
    rw [w_lcI (by rw [upTo_len]; simp only [LIM]; omega)]
    refine lc_rng (fun j acc h' => Twn ns t (b + 1 + 10 * j) h' ∧ Fr t h h' ∧ acc.all s.val = true ∧ acc.length = j) ⟨by simpa using T2, F2, rfl, rfl⟩ ?_ ?_
    · rintro j acc h' hj ⟨T', F, e1, e2⟩
      simp only [wipeE, w_bind, w_noX, w_ok, w_C, w_op2, w_asB, w_op3, w_and, w_or, w_not, w_test, w_bAnd, w_bOr, w_bNot, w_if, w_lif, w_tup, w_lst, w_alloc, w_vL, w_call, w_aNil, w_aCons, w_lCall, w_append, w_nil, w_lnil, w_seq, w_next, w_ret, w_set, w_expr, w_sif, w_sub, w_unp, w_fn1, w_fn2, w_fn3, w_fn4, w_fn5, w_join, w_vSrc, w_aSrc, w_lSrc, w_catLL, w_catOL, w_repL, w_sortV, w_asI, w_slE0, w_slE1, w_sl, q_srcT, q_srcS, q_srcR, q_zipT, q_slT, w_lc, w_forS, Int.toNat_natCast, v_0, v_S, List.replicate_succ, List.replicate_zero, Nat.reduceSub, List.getElem?_cons_zero, List.getElem?_cons_succ, List.set_cons_zero, List.set_cons_succ, if_true, if_false, Bool.false_eq_true, Bool.not_true, Bool.not_false, q_add, q_addT, q_addS, q_sub, q_eq, q_eqS, q_eqB, q_ne, q_neS, q_neB, q_lt, q_ltS, q_le, q_gt, q_ge, q_in1, q_nin1, q_isN, q_isnN, q_isB, q_isnB, q_isiI0, q_isiI1, q_isiI2, q_isiI3, q_isiI4, q_isiI5, q_isiB0, q_isiB1, q_isiB2, q_isiB3, q_isiB4, q_isiB5, q_isiS0, q_isiS1, q_isiS2, q_isiS3, q_isiS4, q_isiS5, q_isiT0, q_isiT1, q_isiT2, q_isiT3, q_isiT4, q_isiT5, q_isiR0, q_isiR1, q_isiR2, q_isiR3, q_isiR4, q_isiR5, q_isiN0, q_isiN1, q_isiN2, q_isiN3, q_isiN4, q_isiN5, q_lenS, q_lenT, q_lenR, q_min2, q_max2, q_strS, q_tupP, ix_0, ix_1, ix_2, ix_3]
      refine (s_valueS T' (by omega) f0).imp fun v h3 p => ?_
      obtain ⟨p1, T3, F3⟩ := p
      exact ⟨T3.mono (by omega), F.trans F3, by simp [e1, p1], by simp [e2]⟩
    · rintro acc h' ⟨T', F, e1, e2⟩
      refine ⟨?_, T'.mono (by omega), F⟩
      simp only [FF.val, Bool.and_eq_true, decide_eq_true_eq]
      exact ⟨⟨by omega, by omega⟩, e1⟩
theorem vals_app : ∀ {fs : List FF} {ds : List D} {f : FF} {d : D}, vals fs ds = true → f.val d = true → vals (fs ++ [f]) (ds ++ [d]) = true
  | [], [], f, d, _, h => by simp [vals, h]
  | [], d :: ds, _, _, h, _ => by cases h
  | f :: fs, [], _, _, h, _ => by cases h
  | f :: fs, d :: ds, g, e, h, h2 => by
    simp only [vals, Bool.and_eq_true] at h
    simp only [List.cons_append, vals, Bool.and_eq_true]
    exact ⟨h.1, vals_app h.2 h2⟩
theorem s_record {fs : List FF} (T : Twn ns t b h) (hb : b < 2 ^ 54) (fo : ∀ f ∈ fs, f.Ok) (hl : fs.length ≤ 100) : Ok (run (k + 6) I__law_record [.rol (ns.map .int), .obj t, .tup (fs.map FF.d)] h) (Gv ns t (b + 4000) h fun v => listed fs v = true) := by
  rw [e__law_record]
  unfold m__law_record
  simp only [w_bind, w_noX, w_ok, w_C, w_op2, w_asB, w_op3, w_and, w_or, w_not, w_test, w_bAnd, w_bOr, w_bNot, w_if, w_lif, w_tup, w_lst, w_alloc, w_vL, w_call, w_aNil, w_aCons, w_lCall, w_append, w_nil, w_lnil, w_seq, w_next, w_ret, w_set, w_expr, w_sif, w_sub, w_unp, w_fn1, w_fn2, w_fn3, w_fn4, w_fn5, w_join, w_vSrc, w_aSrc, w_lSrc, w_catLL, w_catOL, w_repL, w_sortV, w_asI, w_slE0, w_slE1, w_sl, q_srcT, q_srcS, q_srcR, q_zipT, q_slT, w_lc, w_forS, Int.toNat_natCast, v_0, v_S, List.replicate_succ, List.replicate_zero, Nat.reduceSub, List.getElem?_cons_zero, List.getElem?_cons_succ, List.set_cons_zero, List.set_cons_succ, if_true, if_false, Bool.false_eq_true, Bool.not_true, Bool.not_false, q_add, q_addT, q_addS, q_sub, q_eq, q_eqS, q_eqB, q_ne, q_neS, q_neB, q_lt, q_ltS, q_le, q_gt, q_ge, q_in1, q_nin1, q_isN, q_isnN, q_isB, q_isnB, q_isiI0, q_isiI1, q_isiI2, q_isiI3, q_isiI4, q_isiI5, q_isiB0, q_isiB1, q_isiB2, q_isiB3, q_isiB4, q_isiB5, q_isiS0, q_isiS1, q_isiS2, q_isiS3, q_isiS4, q_isiS5, q_isiT0, q_isiT1, q_isiT2, q_isiT3, q_isiT4, q_isiT5, q_isiR0, q_isiR1, q_isiR2, q_isiR3, q_isiR4, q_isiR5, q_isiN0, q_isiN1, q_isiN2, q_isiN3, q_isiN4, q_isiN5, q_lenS, q_lenT, q_lenR, q_min2, q_max2, q_strS, q_tupP, ix_0, ix_1, ix_2, ix_3]
  rw [w_lcI (by simp only [List.length_map, LIM]; omega)]
  have := w_lcL (t := .nm 3) (test := bTrue) (elt := vCall (run (k + 5) I__law_value) (aCons (vVar 0) (aCons (vVar 1) (aCons (vVar 3) aNil)))) (env := wipeE [some (D.rol (ns.map .int)), some (.obj t), some (.tup (fs.map FF.d)), none] [3]) (QL := fun ds h1 => Gv ns t (b + 4000) h (fun v => listed fs v = true) (.tup ds) h1)
    (fun r acc h' => Twn ns t (b + 40 * acc.length) h' ∧ Fr t h h' ∧ ∃ as bs : List FF, as ++ bs = fs ∧ r = bs.map FF.d ∧ vals as acc = true ∧ acc.length = as.length) (fs.map FF.d) [] h ⟨T, Fr.refl, [], fs, rfl, rfl, rfl, rfl⟩ ?_ ?_
  · simpa using this
  · rintro d r acc h' ⟨T', F, as, bs, e1, e2, e3, e4⟩
    cases bs with
    | nil => cases e2
    | cons f bs =>
      simp only [List.map_cons, List.cons.injEq] at e2
      obtain ⟨rfl, rfl⟩ := e2
      refine ⟨_, rfl, ?_⟩
      have l : acc.length < fs.length := by rw [e4, ← e1]; simp
      simp only [bTrue, wipeE, w_bind, w_noX, w_ok, w_C, w_op2, w_asB, w_op3, w_and, w_or, w_not, w_test, w_bAnd, w_bOr, w_bNot, w_if, w_lif, w_tup, w_lst, w_alloc, w_vL, w_call, w_aNil, w_aCons, w_lCall, w_append, w_nil, w_lnil, w_seq, w_next, w_ret, w_set, w_expr, w_sif, w_sub, w_unp, w_fn1, w_fn2, w_fn3, w_fn4, w_fn5, w_join, w_vSrc, w_aSrc, w_lSrc, w_catLL, w_catOL, w_repL, w_sortV, w_asI, w_slE0, w_slE1, w_sl, q_srcT, q_srcS, q_srcR, q_zipT, q_slT, w_lc, w_forS, Int.toNat_natCast, v_0, v_S, List.replicate_succ, List.replicate_zero, Nat.reduceSub, List.getElem?_cons_zero, List.getElem?_cons_succ, List.set_cons_zero, List.set_cons_succ, if_true, if_false, Bool.false_eq_true, Bool.not_true, Bool.not_false, q_add, q_addT, q_addS, q_sub, q_eq, q_eqS, q_eqB, q_ne, q_neS, q_neB, q_lt, q_ltS, q_le, q_gt, q_ge, q_in1, q_nin1, q_isN, q_isnN, q_isB, q_isnB, q_isiI0, q_isiI1, q_isiI2, q_isiI3, q_isiI4, q_isiI5, q_isiB0, q_isiB1, q_isiB2, q_isiB3, q_isiB4, q_isiB5, q_isiS0, q_isiS1, q_isiS2, q_isiS3, q_isiS4, q_isiS5, q_isiT0, q_isiT1, q_isiT2, q_isiT3, q_isiT4, q_isiT5, q_isiR0, q_isiR1, q_isiR2, q_isiR3, q_isiR4, q_isiR5, q_isiN0, q_isiN1, q_isiN2, q_isiN3, q_isiN4, q_isiN5, q_lenS, q_lenT, q_lenR, q_min2, q_max2, q_strS, q_tupP, ix_0, ix_1, ix_2, ix_3]
      refine (s_value T' (by omega) (fo f (by rw [← e1]; simp))).imp fun v h3 p => ?_
      obtain ⟨p1, T3, F3⟩ := p
      exact ⟨T3.mono (by simp; omega), F.trans F3, as ++ [f], bs, by simp [← e1], rfl, vals_app e3 p1, by simp [e4]⟩
  · rintro acc h' ⟨T', F, as, bs, e1, e2, e3, e4⟩
    have : bs = [] := by
      cases bs with
      | nil => rfl
      | cons f bs => cases e2
    subst this
    rw [List.append_nil] at e1
    subst e1
    exact ⟨e3, T'.mono (by omega), F⟩
end
end FT
end
section
set_option maxRecDepth 100000
namespace FT
open PySem L2
set_option autoImplicit false
/-! ### what the program's tests come to -/
theorem Ok.eq {a : Type} {x : R a} {w : a} {h : MH} (q : Ok x fun v h' => v = w ∧ h' = h) : x = .ok w h := by
  obtain ⟨v, h', e, rfl, rfl⟩ := q.ex
  exact e
def isStr : D → Bool
  | .str _ => true
  | _ => false
def isTup : D → Bool
  | .tup _ => true
  | _ => false
def isInt : D → Bool
  | .int _ => true
  | .bl _ => true
  | _ => false
def isBl : D → Bool
  | .bl _ => true
  | _ => false
section
variable {k : Nat} {h : MH} {d : D}
theorem isi_bas {c : Nat} (hb : Bas h d) (hc : c < 6) : ∃ t, tyOf d h = some t ∧ isiP [d, .ty c] h = .ok (.bl (subTy t c)) h := by
  obtain ⟨⟨t, e, ht⟩, _⟩ := hb
  exact ⟨t, e, by simp [isiP, e, ht, hc]⟩
theorem ty_obj {n t : Nat} (e : tyOf (.obj n) h = some t) : t = 4 := by
  simp only [tyOf] at e
  split at e
  · exact (Option.some.inj e).symm
  · cases e
theorem isi_str (hb : Bas h d) : isiP [d, .ty 2] h = .ok (.bl (isStr d)) h := by
  obtain ⟨t, e, e2⟩ := isi_bas (c := 2) hb (by decide)
  rw [e2]
  cases d <;> first | (cases e; rfl) | (cases e; done) | (rw [ty_obj e]; rfl)
theorem isi_tup (hb : Bas h d) : isiP [d, .ty 3] h = .ok (.bl (isTup d)) h := by
  obtain ⟨t, e, e2⟩ := isi_bas (c := 3) hb (by decide)
  rw [e2]
  cases d <;> first | (cases e; rfl) | (cases e; done) | (rw [ty_obj e]; rfl)
theorem isi_int (hb : Bas h d) : isiP [d, .ty 0] h = .ok (.bl (isInt d)) h := by
  obtain ⟨t, e, e2⟩ := isi_bas (c := 0) hb (by decide)
  rw [e2]
  cases d <;> first | (cases e; rfl) | (cases e; done) | (rw [ty_obj e]; rfl)
theorem isi_bl (hb : Bas h d) : isiP [d, .ty 1] h = .ok (.bl (isBl d)) h := by
  obtain ⟨t, e, e2⟩ := isi_bas (c := 1) hb (by decide)
  rw [e2]
  cases d <;> first | (cases e; rfl) | (cases e; done) | (rw [ty_obj e]; rfl)
def betw (d : D) (lo hi : Int) : Bool := match d with
  | .int i => decide (lo ≤ i) && decide (i ≤ hi)
  | _ => false
theorem s_between {lo hi : Int} (hb : Bas h d) : run (k + 1) I_is_between [d, .int lo, .int hi] h = .ok (.bl (betw d lo hi)) h := Ok.eq (by
  rw [e_is_between]
  unfold m_is_between
  simp only [w_bind, w_noX, w_ok, w_C, w_op2, w_asB, w_op3, w_and, w_or, w_not, w_test, w_bAnd, w_bOr, w_bNot, w_if, w_lif, w_tup, w_lst, w_alloc, w_vL, w_call, w_aNil, w_aCons, w_lCall, w_append, w_nil, w_lnil, w_seq, w_next, w_ret, w_set, w_expr, w_sif, w_sub, w_unp, w_fn1, w_fn2, w_fn3, w_fn4, w_fn5, w_join, w_vSrc, w_aSrc, w_lSrc, w_catLL, w_catOL, w_repL, w_sortV, w_asI, w_slE0, w_slE1, w_sl, q_srcT, q_srcS, q_srcR, q_zipT, q_slT, w_lc, w_forS, Int.toNat_natCast, v_0, v_S, List.replicate_succ, List.replicate_zero, Nat.reduceSub, List.getElem?_cons_zero, List.getElem?_cons_succ, List.set_cons_zero, List.set_cons_succ, if_true, if_false, Bool.false_eq_true, Bool.not_true, Bool.not_false, q_add, q_addT, q_addS, q_sub, q_eq, q_eqS, q_eqB, q_ne, q_neS, q_neB, q_lt, q_ltS, q_le, q_gt, q_ge, q_in1, q_nin1, q_isN, q_isnN, q_isB, q_isnB, q_isiI0, q_isiI1, q_isiI2, q_isiI3, q_isiI4, q_isiI5, q_isiB0, q_isiB1, q_isiB2, q_isiB3, q_isiB4, q_isiB5, q_isiS0, q_isiS1, q_isiS2, q_isiS3, q_isiS4, q_isiS5, q_isiT0, q_isiT1, q_isiT2, q_isiT3, q_isiT4, q_isiT5, q_isiR0, q_isiR1, q_isiR2, q_isiR3, q_isiR4, q_isiR5, q_isiN0, q_isiN1, q_isiN2, q_isiN3, q_isiN4, q_isiN5, q_lenS, q_lenT, q_lenR, q_min2, q_max2, q_strS, q_tupP, ix_0, ix_1, ix_2, ix_3, isi_int hb]
  cases d <;> simp only [isInt, isi_bl hb, isBl, w_bind, w_noX, w_ok, w_C, w_op2, w_asB, w_op3, w_and, w_or, w_not, w_test, w_bAnd, w_bOr, w_bNot, w_if, w_lif, w_tup, w_lst, w_alloc, w_vL, w_call, w_aNil, w_aCons, w_lCall, w_append, w_nil, w_lnil, w_seq, w_next, w_ret, w_set, w_expr, w_sif, w_sub, w_unp, w_fn1, w_fn2, w_fn3, w_fn4, w_fn5, w_join, w_vSrc, w_aSrc, w_lSrc, w_catLL, w_catOL, w_repL, w_sortV, w_asI, w_slE0, w_slE1, w_sl, q_srcT, q_srcS, q_srcR, q_zipT, q_slT, w_lc, w_forS, Int.toNat_natCast, v_0, v_S, List.replicate_succ, List.replicate_zero, Nat.reduceSub, List.getElem?_cons_zero, List.getElem?_cons_succ, List.set_cons_zero, List.set_cons_succ, if_true, if_false, Bool.false_eq_true, Bool.not_true, Bool.not_false, q_add, q_addT, q_addS, q_sub, q_eq, q_eqS, q_eqB, q_ne, q_neS, q_neB, q_lt, q_ltS, q_le, q_gt, q_ge, q_in1, q_nin1, q_isN, q_isnN, q_isB, q_isnB, q_isiI0, q_isiI1, q_isiI2, q_isiI3, q_isiI4, q_isiI5, q_isiB0, q_isiB1, q_isiB2, q_isiB3, q_isiB4, q_isiB5, q_isiS0, q_isiS1, q_isiS2, q_isiS3, q_isiS4, q_isiS5, q_isiT0, q_isiT1, q_isiT2, q_isiT3, q_isiT4, q_isiT5, q_isiR0, q_isiR1, q_isiR2, q_isiR3, q_isiR4, q_isiR5, q_isiN0, q_isiN1, q_isiN2, q_isiN3, q_isiN4, q_isiN5, q_lenS, q_lenT, q_lenR, q_min2, q_max2, q_strS, q_tupP, ix_0, ix_1, ix_2, ix_3, betw, and_self]
  rename_i i
  by_cases c : lo ≤ i <;> simp only [c, decide_true, decide_false, w_bind, w_noX, w_ok, w_C, w_op2, w_asB, w_op3, w_and, w_or, w_not, w_test, w_bAnd, w_bOr, w_bNot, w_if, w_lif, w_tup, w_lst, w_alloc, w_vL, w_call, w_aNil, w_aCons, w_lCall, w_append, w_nil, w_lnil, w_seq, w_next, w_ret, w_set, w_expr, w_sif, w_sub, w_unp, w_fn1, w_fn2, w_fn3, w_fn4, w_fn5, w_join, w_vSrc, w_aSrc, w_lSrc, w_catLL, w_catOL, w_repL, w_sortV, w_asI, w_slE0, w_slE1, w_sl, q_srcT, q_srcS, q_srcR, q_zipT, q_slT, w_lc, w_forS, Int.toNat_natCast, v_0, v_S, List.replicate_succ, List.replicate_zero, Nat.reduceSub, List.getElem?_cons_zero, List.getElem?_cons_succ, List.set_cons_zero, List.set_cons_succ, if_true, if_false, Bool.false_eq_true, Bool.not_true, Bool.not_false, q_add, q_addT, q_addS, q_sub, q_eq, q_eqS, q_eqB, q_ne, q_neS, q_neB, q_lt, q_ltS, q_le, q_gt, q_ge, q_in1, q_nin1, q_isN, q_isnN, q_isB, q_isnB, q_isiI0, q_isiI1, q_isiI2, q_isiI3, q_isiI4, q_isiI5, q_isiB0, q_isiB1, q_isiB2, q_isiB3, q_isiB4, q_isiB5, q_isiS0, q_isiS1, q_isiS2, q_isiS3, q_isiS4, q_isiS5, q_isiT0, q_isiT1, q_isiT2, q_isiT3, q_isiT4, q_isiT5, q_isiR0, q_isiR1, q_isiR2, q_isiR3, q_isiR4, q_isiR5, q_isiN0, q_isiN1, q_isiN2, q_isiN3, q_isiN4, q_isiN5, q_lenS, q_lenT, q_lenR, q_min2, q_max2, q_strS, q_tupP, ix_0, ix_1, ix_2, ix_3, Bool.true_and, Bool.false_and, and_self])
theorem bas_int {i : Int} : Bas h (.int i) := ⟨⟨0, rfl, by decide⟩, fun s e => (by cases e), fun s e => (by cases e)⟩
theorem bas_str {s : Sg} (hl : s.length ≤ 1000000) (hc : ∀ c ∈ s, c < 1114112) : Bas h (.str s) := ⟨⟨2, rfl, by decide⟩, fun t e => (by cases e; exact ⟨hl, hc⟩), fun s e => (by cases e)⟩
theorem bas_tup {ds : List D} (hl : ds.length < 1000000) : Bas h (.tup ds) := ⟨⟨3, rfl, by decide⟩, fun t e => (by cases e), fun t e => (by cases e; exact hl)⟩
theorem all_signs {s cs : Sg} : (s.all fun c => decide (c ∈ cs)) = only' s cs := rfl
theorem s_text {s : Sg} (hs : TxOk s) : run (k + 1) I_is_text [.str s, .int 1, .int 4] h = .ok (.bl true) h := Ok.eq (by
  obtain ⟨h1, h2, h3⟩ := hs
  rw [e_is_text]
  unfold m_is_text
  have l : s.length ≤ LIM := by simp only [LIM]; omega
  simp only [w_bind, w_noX, w_ok, w_C, w_op2, w_asB, w_op3, w_and, w_or, w_not, w_test, w_bAnd, w_bOr, w_bNot, w_if, w_lif, w_tup, w_lst, w_alloc, w_vL, w_call, w_aNil, w_aCons, w_lCall, w_append, w_nil, w_lnil, w_seq, w_next, w_ret, w_set, w_expr, w_sif, w_sub, w_unp, w_fn1, w_fn2, w_fn3, w_fn4, w_fn5, w_join, w_vSrc, w_aSrc, w_lSrc, w_catLL, w_catOL, w_repL, w_sortV, w_asI, w_slE0, w_slE1, w_sl, q_srcT, q_srcS, q_srcR, q_zipT, q_slT, w_lc, w_forS, Int.toNat_natCast, v_0, v_S, List.replicate_succ, List.replicate_zero, Nat.reduceSub, List.getElem?_cons_zero, List.getElem?_cons_succ, List.set_cons_zero, List.set_cons_succ, if_true, if_false, Bool.false_eq_true, Bool.not_true, Bool.not_false, q_add, q_addT, q_addS, q_sub, q_eq, q_eqS, q_eqB, q_ne, q_neS, q_neB, q_lt, q_ltS, q_le, q_gt, q_ge, q_in1, q_nin1, q_isN, q_isnN, q_isB, q_isnB, q_isiI0, q_isiI1, q_isiI2, q_isiI3, q_isiI4, q_isiI5, q_isiB0, q_isiB1, q_isiB2, q_isiB3, q_isiB4, q_isiB5, q_isiS0, q_isiS1, q_isiS2, q_isiS3, q_isiS4, q_isiS5, q_isiT0, q_isiT1, q_isiT2, q_isiT3, q_isiT4, q_isiT5, q_isiR0, q_isiR1, q_isiR2, q_isiR3, q_isiR4, q_isiR5, q_isiN0, q_isiN1, q_isiN2, q_isiN3, q_isiN4, q_isiN5, q_lenS, q_lenT, q_lenR, q_min2, q_max2, q_strS, q_tupP, ix_0, ix_1, ix_2, ix_3, q_lenS l]
  have c1 : (1 : Int) ≤ (s.length : Int) := by omega
  have c2 : (s.length : Int) ≤ 4 := by omega
  simp only [c1, c2, decide_true, w_bind, w_noX, w_ok, w_C, w_op2, w_asB, w_op3, w_and, w_or, w_not, w_test, w_bAnd, w_bOr, w_bNot, w_if, w_lif, w_tup, w_lst, w_alloc, w_vL, w_call, w_aNil, w_aCons, w_lCall, w_append, w_nil, w_lnil, w_seq, w_next, w_ret, w_set, w_expr, w_sif, w_sub, w_unp, w_fn1, w_fn2, w_fn3, w_fn4, w_fn5, w_join, w_vSrc, w_aSrc, w_lSrc, w_catLL, w_catOL, w_repL, w_sortV, w_asI, w_slE0, w_slE1, w_sl, q_srcT, q_srcS, q_srcR, q_zipT, q_slT, w_lc, w_forS, Int.toNat_natCast, v_0, v_S, List.replicate_succ, List.replicate_zero, Nat.reduceSub, List.getElem?_cons_zero, List.getElem?_cons_succ, List.set_cons_zero, List.set_cons_succ, if_true, if_false, Bool.false_eq_true, Bool.not_true, Bool.not_false, q_add, q_addT, q_addS, q_sub, q_eq, q_eqS, q_eqB, q_ne, q_neS, q_neB, q_lt, q_ltS, q_le, q_gt, q_ge, q_in1, q_nin1, q_isN, q_isnN, q_isB, q_isnB, q_isiI0, q_isiI1, q_isiI2, q_isiI3, q_isiI4, q_isiI5, q_isiB0, q_isiB1, q_isiB2, q_isiB3, q_isiB4, q_isiB5, q_isiS0, q_isiS1, q_isiS2, q_isiS3, q_isiS4, q_isiS5, q_isiT0, q_isiT1, q_isiT2, q_isiT3, q_isiT4, q_isiT5, q_isiR0, q_isiR1, q_isiR2, q_isiR3, q_isiR4, q_isiR5, q_isiN0, q_isiN1, q_isiN2, q_isiN3, q_isiN4, q_isiN5, q_lenS, q_lenT, q_lenR, q_min2, q_max2, q_strS, q_tupP, ix_0, ix_1, ix_2, ix_3]
  rw [w_lcI (by simp only [List.length_map, LIM]; omega)]
  simp only [wipeE, w_bind, w_noX, w_ok, w_C, w_op2, w_asB, w_op3, w_and, w_or, w_not, w_test, w_bAnd, w_bOr, w_bNot, w_if, w_lif, w_tup, w_lst, w_alloc, w_vL, w_call, w_aNil, w_aCons, w_lCall, w_append, w_nil, w_lnil, w_seq, w_next, w_ret, w_set, w_expr, w_sif, w_sub, w_unp, w_fn1, w_fn2, w_fn3, w_fn4, w_fn5, w_join, w_vSrc, w_aSrc, w_lSrc, w_catLL, w_catOL, w_repL, w_sortV, w_asI, w_slE0, w_slE1, w_sl, q_srcT, q_srcS, q_srcR, q_zipT, q_slT, w_lc, w_forS, Int.toNat_natCast, v_0, v_S, List.replicate_succ, List.replicate_zero, Nat.reduceSub, List.getElem?_cons_zero, List.getElem?_cons_succ, List.set_cons_zero, List.set_cons_succ, if_true, if_false, Bool.false_eq_true, Bool.not_true, Bool.not_false, q_add, q_addT, q_addS, q_sub, q_eq, q_eqS, q_eqB, q_ne, q_neS, q_neB, q_lt, q_ltS, q_le, q_gt, q_ge, q_in1, q_nin1, q_isN, q_isnN, q_isB, q_isnB, q_isiI0, q_isiI1, q_isiI2, q_isiI3, q_isiI4, q_isiI5, q_isiB0, q_isiB1, q_isiB2, q_isiB3, q_isiB4, q_isiB5, q_isiS0, q_isiS1, q_isiS2, q_isiS3, q_isiS4, q_isiS5, q_isiT0, q_isiT1, q_isiT2, q_isiT3, q_isiT4, q_isiT5, q_isiR0, q_isiR1, q_isiR2, q_isiR3, q_isiR4, q_isiR5, q_isiN0, q_isiN1, q_isiN2, q_isiN3, q_isiN4, q_isiN5, q_lenS, q_lenT, q_lenR, q_min2, q_max2, q_strS, q_tupP, ix_0, ix_1, ix_2, ix_3]
  rw [lcL_map (fun c => .bl (decide (c ∈ cSigns))) fun c hc => Ok.eq (by simp only [w_bind, w_noX, w_ok, w_C, w_op2, w_asB, w_op3, w_and, w_or, w_not, w_test, w_bAnd, w_bOr, w_bNot, w_if, w_lif, w_tup, w_lst, w_alloc, w_vL, w_call, w_aNil, w_aCons, w_lCall, w_append, w_nil, w_lnil, w_seq, w_next, w_ret, w_set, w_expr, w_sif, w_sub, w_unp, w_fn1, w_fn2, w_fn3, w_fn4, w_fn5, w_join, w_vSrc, w_aSrc, w_lSrc, w_catLL, w_catOL, w_repL, w_sortV, w_asI, w_slE0, w_slE1, w_sl, q_srcT, q_srcS, q_srcR, q_zipT, q_slT, w_lc, w_forS, Int.toNat_natCast, v_0, v_S, List.replicate_succ, List.replicate_zero, Nat.reduceSub, List.getElem?_cons_zero, List.getElem?_cons_succ, List.set_cons_zero, List.set_cons_succ, if_true, if_false, Bool.false_eq_true, Bool.not_true, Bool.not_false, q_add, q_addT, q_addS, q_sub, q_eq, q_eqS, q_eqB, q_ne, q_neS, q_neB, q_lt, q_ltS, q_le, q_gt, q_ge, q_in1, q_nin1, q_isN, q_isnN, q_isB, q_isnB, q_isiI0, q_isiI1, q_isiI2, q_isiI3, q_isiI4, q_isiI5, q_isiB0, q_isiB1, q_isiB2, q_isiB3, q_isiB4, q_isiB5, q_isiS0, q_isiS1, q_isiS2, q_isiS3, q_isiS4, q_isiS5, q_isiT0, q_isiT1, q_isiT2, q_isiT3, q_isiT4, q_isiT5, q_isiR0, q_isiR1, q_isiR2, q_isiR3, q_isiR4, q_isiR5, q_isiN0, q_isiN1, q_isiN2, q_isiN3, q_isiN4, q_isiN5, q_lenS, q_lenT, q_lenR, q_min2, q_max2, q_strS, q_tupP, ix_0, ix_1, ix_2, ix_3, and_self]), w_ok, all_map, w_ok]
  refine ⟨?_, rfl⟩
  rw [List.all_eq_true.mpr fun c hc => decide_eq_true (h3 c hc)])
theorem s_span {lo hi : Nat} {least most : Int} (h1 : lo ≤ hi) (h2 : least ≤ hi) (h3 : (hi : Int) ≤ most) : run (k + 2) I_is_span [.int lo, .int hi, .int least, .int most] h = .ok (.bl true) h := Ok.eq (by
  rw [e_is_span]
  unfold m_is_span
  simp only [w_bind, w_noX, w_ok, w_C, w_op2, w_asB, w_op3, w_and, w_or, w_not, w_test, w_bAnd, w_bOr, w_bNot, w_if, w_lif, w_tup, w_lst, w_alloc, w_vL, w_call, w_aNil, w_aCons, w_lCall, w_append, w_nil, w_lnil, w_seq, w_next, w_ret, w_set, w_expr, w_sif, w_sub, w_unp, w_fn1, w_fn2, w_fn3, w_fn4, w_fn5, w_join, w_vSrc, w_aSrc, w_lSrc, w_catLL, w_catOL, w_repL, w_sortV, w_asI, w_slE0, w_slE1, w_sl, q_srcT, q_srcS, q_srcR, q_zipT, q_slT, w_lc, w_forS, Int.toNat_natCast, v_0, v_S, List.replicate_succ, List.replicate_zero, Nat.reduceSub, List.getElem?_cons_zero, List.getElem?_cons_succ, List.set_cons_zero, List.set_cons_succ, if_true, if_false, Bool.false_eq_true, Bool.not_true, Bool.not_false, q_add, q_addT, q_addS, q_sub, q_eq, q_eqS, q_eqB, q_ne, q_neS, q_neB, q_lt, q_ltS, q_le, q_gt, q_ge, q_in1, q_nin1, q_isN, q_isnN, q_isB, q_isnB, q_isiI0, q_isiI1, q_isiI2, q_isiI3, q_isiI4, q_isiI5, q_isiB0, q_isiB1, q_isiB2, q_isiB3, q_isiB4, q_isiB5, q_isiS0, q_isiS1, q_isiS2, q_isiS3, q_isiS4, q_isiS5, q_isiT0, q_isiT1, q_isiT2, q_isiT3, q_isiT4, q_isiT5, q_isiR0, q_isiR1, q_isiR2, q_isiR3, q_isiR4, q_isiR5, q_isiN0, q_isiN1, q_isiN2, q_isiN3, q_isiN4, q_isiN5, q_lenS, q_lenT, q_lenR, q_min2, q_max2, q_strS, q_tupP, ix_0, ix_1, ix_2, ix_3, s_between bas_int, betw]
  have c1 : (0 : Int) ≤ (lo : Int) := by omega
  have c2 : (lo : Int) ≤ most := by omega
  have c3 : (lo : Int) ≤ (hi : Int) := by omega
  simp only [c1, c2, c3, h2, h3, decide_true, Bool.and_self, w_bind, w_noX, w_ok, w_C, w_op2, w_asB, w_op3, w_and, w_or, w_not, w_test, w_bAnd, w_bOr, w_bNot, w_if, w_lif, w_tup, w_lst, w_alloc, w_vL, w_call, w_aNil, w_aCons, w_lCall, w_append, w_nil, w_lnil, w_seq, w_next, w_ret, w_set, w_expr, w_sif, w_sub, w_unp, w_fn1, w_fn2, w_fn3, w_fn4, w_fn5, w_join, w_vSrc, w_aSrc, w_lSrc, w_catLL, w_catOL, w_repL, w_sortV, w_asI, w_slE0, w_slE1, w_sl, q_srcT, q_srcS, q_srcR, q_zipT, q_slT, w_lc, w_forS, Int.toNat_natCast, v_0, v_S, List.replicate_succ, List.replicate_zero, Nat.reduceSub, List.getElem?_cons_zero, List.getElem?_cons_succ, List.set_cons_zero, List.set_cons_succ, if_true, if_false, Bool.false_eq_true, Bool.not_true, Bool.not_false, q_add, q_addT, q_addS, q_sub, q_eq, q_eqS, q_eqB, q_ne, q_neS, q_neB, q_lt, q_ltS, q_le, q_gt, q_ge, q_in1, q_nin1, q_isN, q_isnN, q_isB, q_isnB, q_isiI0, q_isiI1, q_isiI2, q_isiI3, q_isiI4, q_isiI5, q_isiB0, q_isiB1, q_isiB2, q_isiB3, q_isiB4, q_isiB5, q_isiS0, q_isiS1, q_isiS2, q_isiS3, q_isiS4, q_isiS5, q_isiT0, q_isiT1, q_isiT2, q_isiT3, q_isiT4, q_isiT5, q_isiR0, q_isiR1, q_isiR2, q_isiR3, q_isiR4, q_isiR5, q_isiN0, q_isiN1, q_isiN2, q_isiN3, q_isiN4, q_isiN5, q_lenS, q_lenT, q_lenR, q_min2, q_max2, q_strS, q_tupP, ix_0, ix_1, ix_2, ix_3, s_between bas_int, betw, and_self])
theorem in_true {x : D} {ds : List D} (hx : plN 39 x = true) (hd : ds.all (plN 39) = true) (hm : x ∈ ds) : inM x (.tup ds) h = .ok (.bl true) h := by
  rw [in_tup hx hd, inD_iff.mpr hm]
theorem txok_lt {s : Sg} (hs : TxOk s) : ∀ c ∈ s, c < 1114112 := fun c hc => by
  have h1 := hs.2.2 c hc
  have : ∀ c ∈ cSigns, c < 1114112 := by decide
  exact this c h1
theorem pl_str {s : Sg} {n : Nat} (hs : ∀ c ∈ s, c < 1114112) : plN (n + 1) (.str s) = true := by
  simp only [plN, List.all_eq_true]
  intro c hc
  exact decide_eq_true (hs c hc)
theorem s_simpleP {f : SF} (fo : f.Ok) : run (k + 3) I_is_simple [f.d] h = .ok (.bl true) h := Ok.eq (by
  rw [e_is_simple]
  unfold m_is_simple
  cases f with
  | word s =>
    simp only [SF.d, w_bind, w_noX, w_ok, w_C, w_op2, w_asB, w_op3, w_and, w_or, w_not, w_test, w_bAnd, w_bOr, w_bNot, w_if, w_lif, w_tup, w_lst, w_alloc, w_vL, w_call, w_aNil, w_aCons, w_lCall, w_append, w_nil, w_lnil, w_seq, w_next, w_ret, w_set, w_expr, w_sif, w_sub, w_unp, w_fn1, w_fn2, w_fn3, w_fn4, w_fn5, w_join, w_vSrc, w_aSrc, w_lSrc, w_catLL, w_catOL, w_repL, w_sortV, w_asI, w_slE0, w_slE1, w_sl, q_srcT, q_srcS, q_srcR, q_zipT, q_slT, w_lc, w_forS, Int.toNat_natCast, v_0, v_S, List.replicate_succ, List.replicate_zero, Nat.reduceSub, List.getElem?_cons_zero, List.getElem?_cons_succ, List.set_cons_zero, List.set_cons_succ, if_true, if_false, Bool.false_eq_true, Bool.not_true, Bool.not_false, q_add, q_addT, q_addS, q_sub, q_eq, q_eqS, q_eqB, q_ne, q_neS, q_neB, q_lt, q_ltS, q_le, q_gt, q_ge, q_in1, q_nin1, q_isN, q_isnN, q_isB, q_isnB, q_isiI0, q_isiI1, q_isiI2, q_isiI3, q_isiI4, q_isiI5, q_isiB0, q_isiB1, q_isiB2, q_isiB3, q_isiB4, q_isiB5, q_isiS0, q_isiS1, q_isiS2, q_isiS3, q_isiS4, q_isiS5, q_isiT0, q_isiT1, q_isiT2, q_isiT3, q_isiT4, q_isiT5, q_isiR0, q_isiR1, q_isiR2, q_isiR3, q_isiR4, q_isiR5, q_isiN0, q_isiN1, q_isiN2, q_isiN3, q_isiN4, q_isiN5, q_lenS, q_lenT, q_lenR, q_min2, q_max2, q_strS, q_tupP, ix_0, ix_1, ix_2, ix_3, List.length_cons, List.length_nil, lim_0, lim_1, lim_2, lim_3, lim_4, lim_5, lim_6, lim_7, lim_8, lim_9, lim_10, lim_11, lim_12, lim_13, lim_14, lim_15, lim_16, lim_17, lim_18, lim_19, lim_20, lim_21, lim_22, lim_23, Nat.reduceAdd, Nat.reduceLeDiff, Int.cast_ofNat_Int, decide_true, decide_false, List.cons.injEq, reduceCtorEq, and_false, false_and, and_true, true_and, Nat.reduceEqDiff, Int.reduceLE, Int.reduceEq, Int.reduceLT, s_text fo, and_self]
  | digits lo hi =>
    obtain ⟨f1, f2⟩ := fo
    simp only [SF.d, w_bind, w_noX, w_ok, w_C, w_op2, w_asB, w_op3, w_and, w_or, w_not, w_test, w_bAnd, w_bOr, w_bNot, w_if, w_lif, w_tup, w_lst, w_alloc, w_vL, w_call, w_aNil, w_aCons, w_lCall, w_append, w_nil, w_lnil, w_seq, w_next, w_ret, w_set, w_expr, w_sif, w_sub, w_unp, w_fn1, w_fn2, w_fn3, w_fn4, w_fn5, w_join, w_vSrc, w_aSrc, w_lSrc, w_catLL, w_catOL, w_repL, w_sortV, w_asI, w_slE0, w_slE1, w_sl, q_srcT, q_srcS, q_srcR, q_zipT, q_slT, w_lc, w_forS, Int.toNat_natCast, v_0, v_S, List.replicate_succ, List.replicate_zero, Nat.reduceSub, List.getElem?_cons_zero, List.getElem?_cons_succ, List.set_cons_zero, List.set_cons_succ, if_true, if_false, Bool.false_eq_true, Bool.not_true, Bool.not_false, q_add, q_addT, q_addS, q_sub, q_eq, q_eqS, q_eqB, q_ne, q_neS, q_neB, q_lt, q_ltS, q_le, q_gt, q_ge, q_in1, q_nin1, q_isN, q_isnN, q_isB, q_isnB, q_isiI0, q_isiI1, q_isiI2, q_isiI3, q_isiI4, q_isiI5, q_isiB0, q_isiB1, q_isiB2, q_isiB3, q_isiB4, q_isiB5, q_isiS0, q_isiS1, q_isiS2, q_isiS3, q_isiS4, q_isiS5, q_isiT0, q_isiT1, q_isiT2, q_isiT3, q_isiT4, q_isiT5, q_isiR0, q_isiR1, q_isiR2, q_isiR3, q_isiR4, q_isiR5, q_isiN0, q_isiN1, q_isiN2, q_isiN3, q_isiN4, q_isiN5, q_lenS, q_lenT, q_lenR, q_min2, q_max2, q_strS, q_tupP, ix_0, ix_1, ix_2, ix_3, List.length_cons, List.length_nil, lim_0, lim_1, lim_2, lim_3, lim_4, lim_5, lim_6, lim_7, lim_8, lim_9, lim_10, lim_11, lim_12, lim_13, lim_14, lim_15, lim_16, lim_17, lim_18, lim_19, lim_20, lim_21, lim_22, lim_23, Nat.reduceAdd, Nat.reduceLeDiff, Int.cast_ofNat_Int, decide_true, decide_false, List.cons.injEq, reduceCtorEq, and_false, false_and, and_true, true_and, Nat.reduceEqDiff, Int.reduceLE, Int.reduceEq, Int.reduceLT]
    rw [in_true (by decide) (by decide) (by simp), w_ok]
    simp only [w_bind, w_noX, w_ok, w_C, w_op2, w_asB, w_op3, w_and, w_or, w_not, w_test, w_bAnd, w_bOr, w_bNot, w_if, w_lif, w_tup, w_lst, w_alloc, w_vL, w_call, w_aNil, w_aCons, w_lCall, w_append, w_nil, w_lnil, w_seq, w_next, w_ret, w_set, w_expr, w_sif, w_sub, w_unp, w_fn1, w_fn2, w_fn3, w_fn4, w_fn5, w_join, w_vSrc, w_aSrc, w_lSrc, w_catLL, w_catOL, w_repL, w_sortV, w_asI, w_slE0, w_slE1, w_sl, q_srcT, q_srcS, q_srcR, q_zipT, q_slT, w_lc, w_forS, Int.toNat_natCast, v_0, v_S, List.replicate_succ, List.replicate_zero, Nat.reduceSub, List.getElem?_cons_zero, List.getElem?_cons_succ, List.set_cons_zero, List.set_cons_succ, if_true, if_false, Bool.false_eq_true, Bool.not_true, Bool.not_false, q_add, q_addT, q_addS, q_sub, q_eq, q_eqS, q_eqB, q_ne, q_neS, q_neB, q_lt, q_ltS, q_le, q_gt, q_ge, q_in1, q_nin1, q_isN, q_isnN, q_isB, q_isnB, q_isiI0, q_isiI1, q_isiI2, q_isiI3, q_isiI4, q_isiI5, q_isiB0, q_isiB1, q_isiB2, q_isiB3, q_isiB4, q_isiB5, q_isiS0, q_isiS1, q_isiS2, q_isiS3, q_isiS4, q_isiS5, q_isiT0, q_isiT1, q_isiT2, q_isiT3, q_isiT4, q_isiT5, q_isiR0, q_isiR1, q_isiR2, q_isiR3, q_isiR4, q_isiR5, q_isiN0, q_isiN1, q_isiN2, q_isiN3, q_isiN4, q_isiN5, q_lenS, q_lenT, q_lenR, q_min2, q_max2, q_strS, q_tupP, ix_0, ix_1, ix_2, ix_3, s_span f1 (show (0 : Int) ≤ (hi : Int) by omega) (show (hi : Int) ≤ 4 by omega), and_self]
  | letters lo hi =>
    obtain ⟨f1, f2⟩ := fo
    simp only [SF.d, w_bind, w_noX, w_ok, w_C, w_op2, w_asB, w_op3, w_and, w_or, w_not, w_test, w_bAnd, w_bOr, w_bNot, w_if, w_lif, w_tup, w_lst, w_alloc, w_vL, w_call, w_aNil, w_aCons, w_lCall, w_append, w_nil, w_lnil, w_seq, w_next, w_ret, w_set, w_expr, w_sif, w_sub, w_unp, w_fn1, w_fn2, w_fn3, w_fn4, w_fn5, w_join, w_vSrc, w_aSrc, w_lSrc, w_catLL, w_catOL, w_repL, w_sortV, w_asI, w_slE0, w_slE1, w_sl, q_srcT, q_srcS, q_srcR, q_zipT, q_slT, w_lc, w_forS, Int.toNat_natCast, v_0, v_S, List.replicate_succ, List.replicate_zero, Nat.reduceSub, List.getElem?_cons_zero, List.getElem?_cons_succ, List.set_cons_zero, List.set_cons_succ, if_true, if_false, Bool.false_eq_true, Bool.not_true, Bool.not_false, q_add, q_addT, q_addS, q_sub, q_eq, q_eqS, q_eqB, q_ne, q_neS, q_neB, q_lt, q_ltS, q_le, q_gt, q_ge, q_in1, q_nin1, q_isN, q_isnN, q_isB, q_isnB, q_isiI0, q_isiI1, q_isiI2, q_isiI3, q_isiI4, q_isiI5, q_isiB0, q_isiB1, q_isiB2, q_isiB3, q_isiB4, q_isiB5, q_isiS0, q_isiS1, q_isiS2, q_isiS3, q_isiS4, q_isiS5, q_isiT0, q_isiT1, q_isiT2, q_isiT3, q_isiT4, q_isiT5, q_isiR0, q_isiR1, q_isiR2, q_isiR3, q_isiR4, q_isiR5, q_isiN0, q_isiN1, q_isiN2, q_isiN3, q_isiN4, q_isiN5, q_lenS, q_lenT, q_lenR, q_min2, q_max2, q_strS, q_tupP, ix_0, ix_1, ix_2, ix_3, List.length_cons, List.length_nil, lim_0, lim_1, lim_2, lim_3, lim_4, lim_5, lim_6, lim_7, lim_8, lim_9, lim_10, lim_11, lim_12, lim_13, lim_14, lim_15, lim_16, lim_17, lim_18, lim_19, lim_20, lim_21, lim_22, lim_23, Nat.reduceAdd, Nat.reduceLeDiff, Int.cast_ofNat_Int, decide_true, decide_false, List.cons.injEq, reduceCtorEq, and_false, false_and, and_true, true_and, Nat.reduceEqDiff, Int.reduceLE, Int.reduceEq, Int.reduceLT]
    rw [in_true (by decide) (by decide) (by simp), w_ok]
    simp only [w_bind, w_noX, w_ok, w_C, w_op2, w_asB, w_op3, w_and, w_or, w_not, w_test, w_bAnd, w_bOr, w_bNot, w_if, w_lif, w_tup, w_lst, w_alloc, w_vL, w_call, w_aNil, w_aCons, w_lCall, w_append, w_nil, w_lnil, w_seq, w_next, w_ret, w_set, w_expr, w_sif, w_sub, w_unp, w_fn1, w_fn2, w_fn3, w_fn4, w_fn5, w_join, w_vSrc, w_aSrc, w_lSrc, w_catLL, w_catOL, w_repL, w_sortV, w_asI, w_slE0, w_slE1, w_sl, q_srcT, q_srcS, q_srcR, q_zipT, q_slT, w_lc, w_forS, Int.toNat_natCast, v_0, v_S, List.replicate_succ, List.replicate_zero, Nat.reduceSub, List.getElem?_cons_zero, List.getElem?_cons_succ, List.set_cons_zero, List.set_cons_succ, if_true, if_false, Bool.false_eq_true, Bool.not_true, Bool.not_false, q_add, q_addT, q_addS, q_sub, q_eq, q_eqS, q_eqB, q_ne, q_neS, q_neB, q_lt, q_ltS, q_le, q_gt, q_ge, q_in1, q_nin1, q_isN, q_isnN, q_isB, q_isnB, q_isiI0, q_isiI1, q_isiI2, q_isiI3, q_isiI4, q_isiI5, q_isiB0, q_isiB1, q_isiB2, q_isiB3, q_isiB4, q_isiB5, q_isiS0, q_isiS1, q_isiS2, q_isiS3, q_isiS4, q_isiS5, q_isiT0, q_isiT1, q_isiT2, q_isiT3, q_isiT4, q_isiT5, q_isiR0, q_isiR1, q_isiR2, q_isiR3, q_isiR4, q_isiR5, q_isiN0, q_isiN1, q_isiN2, q_isiN3, q_isiN4, q_isiN5, q_lenS, q_lenT, q_lenR, q_min2, q_max2, q_strS, q_tupP, ix_0, ix_1, ix_2, ix_3, s_span f1 (show (0 : Int) ≤ (hi : Int) by omega) (show (hi : Int) ≤ 4 by omega), and_self]
  | number n =>
    obtain ⟨f1, f2⟩ := fo
    have c1 : (1 : Int) ≤ (n : Int) := by omega
    have c2 : (n : Int) ≤ 4 := by omega
    simp only [SF.d, w_bind, w_noX, w_ok, w_C, w_op2, w_asB, w_op3, w_and, w_or, w_not, w_test, w_bAnd, w_bOr, w_bNot, w_if, w_lif, w_tup, w_lst, w_alloc, w_vL, w_call, w_aNil, w_aCons, w_lCall, w_append, w_nil, w_lnil, w_seq, w_next, w_ret, w_set, w_expr, w_sif, w_sub, w_unp, w_fn1, w_fn2, w_fn3, w_fn4, w_fn5, w_join, w_vSrc, w_aSrc, w_lSrc, w_catLL, w_catOL, w_repL, w_sortV, w_asI, w_slE0, w_slE1, w_sl, q_srcT, q_srcS, q_srcR, q_zipT, q_slT, w_lc, w_forS, Int.toNat_natCast, v_0, v_S, List.replicate_succ, List.replicate_zero, Nat.reduceSub, List.getElem?_cons_zero, List.getElem?_cons_succ, List.set_cons_zero, List.set_cons_succ, if_true, if_false, Bool.false_eq_true, Bool.not_true, Bool.not_false, q_add, q_addT, q_addS, q_sub, q_eq, q_eqS, q_eqB, q_ne, q_neS, q_neB, q_lt, q_ltS, q_le, q_gt, q_ge, q_in1, q_nin1, q_isN, q_isnN, q_isB, q_isnB, q_isiI0, q_isiI1, q_isiI2, q_isiI3, q_isiI4, q_isiI5, q_isiB0, q_isiB1, q_isiB2, q_isiB3, q_isiB4, q_isiB5, q_isiS0, q_isiS1, q_isiS2, q_isiS3, q_isiS4, q_isiS5, q_isiT0, q_isiT1, q_isiT2, q_isiT3, q_isiT4, q_isiT5, q_isiR0, q_isiR1, q_isiR2, q_isiR3, q_isiR4, q_isiR5, q_isiN0, q_isiN1, q_isiN2, q_isiN3, q_isiN4, q_isiN5, q_lenS, q_lenT, q_lenR, q_min2, q_max2, q_strS, q_tupP, ix_0, ix_1, ix_2, ix_3, List.length_cons, List.length_nil, lim_0, lim_1, lim_2, lim_3, lim_4, lim_5, lim_6, lim_7, lim_8, lim_9, lim_10, lim_11, lim_12, lim_13, lim_14, lim_15, lim_16, lim_17, lim_18, lim_19, lim_20, lim_21, lim_22, lim_23, Nat.reduceAdd, Nat.reduceLeDiff, Int.cast_ofNat_Int, decide_true, decide_false, List.cons.injEq, reduceCtorEq, and_false, false_and, and_true, true_and, Nat.reduceEqDiff, Int.reduceLE, Int.reduceEq, Int.reduceLT, s_between bas_int, betw, c1, c2, Bool.and_self, and_self]
  | choice ts =>
    obtain ⟨f1, f2, f3, f4⟩ := fo
    have c1 : (1 : Int) ≤ (ts.length : Int) := by omega
    have c2 : (ts.length : Int) ≤ 4 := by omega
    simp only [SF.d, w_bind, w_noX, w_ok, w_C, w_op2, w_asB, w_op3, w_and, w_or, w_not, w_test, w_bAnd, w_bOr, w_bNot, w_if, w_lif, w_tup, w_lst, w_alloc, w_vL, w_call, w_aNil, w_aCons, w_lCall, w_append, w_nil, w_lnil, w_seq, w_next, w_ret, w_set, w_expr, w_sif, w_sub, w_unp, w_fn1, w_fn2, w_fn3, w_fn4, w_fn5, w_join, w_vSrc, w_aSrc, w_lSrc, w_catLL, w_catOL, w_repL, w_sortV, w_asI, w_slE0, w_slE1, w_sl, q_srcT, q_srcS, q_srcR, q_zipT, q_slT, w_lc, w_forS, Int.toNat_natCast, v_0, v_S, List.replicate_succ, List.replicate_zero, Nat.reduceSub, List.getElem?_cons_zero, List.getElem?_cons_succ, List.set_cons_zero, List.set_cons_succ, if_true, if_false, Bool.false_eq_true, Bool.not_true, Bool.not_false, q_add, q_addT, q_addS, q_sub, q_eq, q_eqS, q_eqB, q_ne, q_neS, q_neB, q_lt, q_ltS, q_le, q_gt, q_ge, q_in1, q_nin1, q_isN, q_isnN, q_isB, q_isnB, q_isiI0, q_isiI1, q_isiI2, q_isiI3, q_isiI4, q_isiI5, q_isiB0, q_isiB1, q_isiB2, q_isiB3, q_isiB4, q_isiB5, q_isiS0, q_isiS1, q_isiS2, q_isiS3, q_isiS4, q_isiS5, q_isiT0, q_isiT1, q_isiT2, q_isiT3, q_isiT4, q_isiT5, q_isiR0, q_isiR1, q_isiR2, q_isiR3, q_isiR4, q_isiR5, q_isiN0, q_isiN1, q_isiN2, q_isiN3, q_isiN4, q_isiN5, q_lenS, q_lenT, q_lenR, q_min2, q_max2, q_strS, q_tupP, ix_0, ix_1, ix_2, ix_3, List.length_cons, List.length_nil, lim_0, lim_1, lim_2, lim_3, lim_4, lim_5, lim_6, lim_7, lim_8, lim_9, lim_10, lim_11, lim_12, lim_13, lim_14, lim_15, lim_16, lim_17, lim_18, lim_19, lim_20, lim_21, lim_22, lim_23, Nat.reduceAdd, Nat.reduceLeDiff, Int.cast_ofNat_Int, decide_true, decide_false, List.cons.injEq, reduceCtorEq, and_false, false_and, and_true, true_and, Nat.reduceEqDiff, Int.reduceLE, Int.reduceEq, Int.reduceLT, List.length_map, c1, c2]
    rw [w_lcI (by simp only [List.length_map, LIM]; omega)]
    simp only [wipeE, w_bind, w_noX, w_ok, w_C, w_op2, w_asB, w_op3, w_and, w_or, w_not, w_test, w_bAnd, w_bOr, w_bNot, w_if, w_lif, w_tup, w_lst, w_alloc, w_vL, w_call, w_aNil, w_aCons, w_lCall, w_append, w_nil, w_lnil, w_seq, w_next, w_ret, w_set, w_expr, w_sif, w_sub, w_unp, w_fn1, w_fn2, w_fn3, w_fn4, w_fn5, w_join, w_vSrc, w_aSrc, w_lSrc, w_catLL, w_catOL, w_repL, w_sortV, w_asI, w_slE0, w_slE1, w_sl, q_srcT, q_srcS, q_srcR, q_zipT, q_slT, w_lc, w_forS, Int.toNat_natCast, v_0, v_S, List.replicate_succ, List.replicate_zero, Nat.reduceSub, List.getElem?_cons_zero, List.getElem?_cons_succ, List.set_cons_zero, List.set_cons_succ, if_true, if_false, Bool.false_eq_true, Bool.not_true, Bool.not_false, q_add, q_addT, q_addS, q_sub, q_eq, q_eqS, q_eqB, q_ne, q_neS, q_neB, q_lt, q_ltS, q_le, q_gt, q_ge, q_in1, q_nin1, q_isN, q_isnN, q_isB, q_isnB, q_isiI0, q_isiI1, q_isiI2, q_isiI3, q_isiI4, q_isiI5, q_isiB0, q_isiB1, q_isiB2, q_isiB3, q_isiB4, q_isiB5, q_isiS0, q_isiS1, q_isiS2, q_isiS3, q_isiS4, q_isiS5, q_isiT0, q_isiT1, q_isiT2, q_isiT3, q_isiT4, q_isiT5, q_isiR0, q_isiR1, q_isiR2, q_isiR3, q_isiR4, q_isiR5, q_isiN0, q_isiN1, q_isiN2, q_isiN3, q_isiN4, q_isiN5, q_lenS, q_lenT, q_lenR, q_min2, q_max2, q_strS, q_tupP, ix_0, ix_1, ix_2, ix_3]
    rw [lcL_map (fun s => .bl ((fun _ => true) s)) fun s hs => Ok.eq (by simp only [w_bind, w_noX, w_ok, w_C, w_op2, w_asB, w_op3, w_and, w_or, w_not, w_test, w_bAnd, w_bOr, w_bNot, w_if, w_lif, w_tup, w_lst, w_alloc, w_vL, w_call, w_aNil, w_aCons, w_lCall, w_append, w_nil, w_lnil, w_seq, w_next, w_ret, w_set, w_expr, w_sif, w_sub, w_unp, w_fn1, w_fn2, w_fn3, w_fn4, w_fn5, w_join, w_vSrc, w_aSrc, w_lSrc, w_catLL, w_catOL, w_repL, w_sortV, w_asI, w_slE0, w_slE1, w_sl, q_srcT, q_srcS, q_srcR, q_zipT, q_slT, w_lc, w_forS, Int.toNat_natCast, v_0, v_S, List.replicate_succ, List.replicate_zero, Nat.reduceSub, List.getElem?_cons_zero, List.getElem?_cons_succ, List.set_cons_zero, List.set_cons_succ, if_true, if_false, Bool.false_eq_true, Bool.not_true, Bool.not_false, q_add, q_addT, q_addS, q_sub, q_eq, q_eqS, q_eqB, q_ne, q_neS, q_neB, q_lt, q_ltS, q_le, q_gt, q_ge, q_in1, q_nin1, q_isN, q_isnN, q_isB, q_isnB, q_isiI0, q_isiI1, q_isiI2, q_isiI3, q_isiI4, q_isiI5, q_isiB0, q_isiB1, q_isiB2, q_isiB3, q_isiB4, q_isiB5, q_isiS0, q_isiS1, q_isiS2, q_isiS3, q_isiS4, q_isiS5, q_isiT0, q_isiT1, q_isiT2, q_isiT3, q_isiT4, q_isiT5, q_isiR0, q_isiR1, q_isiR2, q_isiR3, q_isiR4, q_isiR5, q_isiN0, q_isiN1, q_isiN2, q_isiN3, q_isiN4, q_isiN5, q_lenS, q_lenT, q_lenR, q_min2, q_max2, q_strS, q_tupP, ix_0, ix_1, ix_2, ix_3, s_text (f3 s hs), and_self]), w_ok, all_map, w_ok]
    have e1 : (ts.all fun _ => true) = true := by simp
    simp only [e1, w_bind, w_noX, w_ok, w_C, w_op2, w_asB, w_op3, w_and, w_or, w_not, w_test, w_bAnd, w_bOr, w_bNot, w_if, w_lif, w_tup, w_lst, w_alloc, w_vL, w_call, w_aNil, w_aCons, w_lCall, w_append, w_nil, w_lnil, w_seq, w_next, w_ret, w_set, w_expr, w_sif, w_sub, w_unp, w_fn1, w_fn2, w_fn3, w_fn4, w_fn5, w_join, w_vSrc, w_aSrc, w_lSrc, w_catLL, w_catOL, w_repL, w_sortV, w_asI, w_slE0, w_slE1, w_sl, q_srcT, q_srcS, q_srcR, q_zipT, q_slT, w_lc, w_forS, Int.toNat_natCast, v_0, v_S, List.replicate_succ, List.replicate_zero, Nat.reduceSub, List.getElem?_cons_zero, List.getElem?_cons_succ, List.set_cons_zero, List.set_cons_succ, if_true, if_false, Bool.false_eq_true, Bool.not_true, Bool.not_false, q_add, q_addT, q_addS, q_sub, q_eq, q_eqS, q_eqB, q_ne, q_neS, q_neB, q_lt, q_ltS, q_le, q_gt, q_ge, q_in1, q_nin1, q_isN, q_isnN, q_isB, q_isnB, q_isiI0, q_isiI1, q_isiI2, q_isiI3, q_isiI4, q_isiI5, q_isiB0, q_isiB1, q_isiB2, q_isiB3, q_isiB4, q_isiB5, q_isiS0, q_isiS1, q_isiS2, q_isiS3, q_isiS4, q_isiS5, q_isiT0, q_isiT1, q_isiT2, q_isiT3, q_isiT4, q_isiT5, q_isiR0, q_isiR1, q_isiR2, q_isiR3, q_isiR4, q_isiR5, q_isiN0, q_isiN1, q_isiN2, q_isiN3, q_isiN4, q_isiN5, q_lenS, q_lenT, q_lenR, q_min2, q_max2, q_strS, q_tupP, ix_0, ix_1, ix_2, ix_3, List.length_map, q_rng1 (show (-1000 : Int) ≤ (ts.length : Int) - 1 by omega) (show (ts.length : Int) - 1 ≤ 1000000 by omega)]
    rw [w_lcI (by rw [upTo_len]; simp only [LIM]; omega)]
    have z : ((ts.length : Int) - 1).toNat = ts.length - 1 := by omega
    rw [z]
    refine lc_rng (fun j acc h' => h' = h ∧ acc = List.replicate j (.bl true)) ⟨rfl, rfl⟩ ?_ ?_
    · rintro j acc h' hj ⟨rfl, rfl⟩
      have a1 : j < ts.length := by omega
      have a2 : j + 1 < ts.length := by omega
      have i1 : ixM (.tup (ts.map .str)) (.int (j : Int)) h' = .ok (.str ts[j]) h' := by
        have := atI_nat (xs := ts.map D.str) (j := j) (v := .str ts[j]) (by simp [a1])
        simp only [ixM, this]
      have i2 : ixM (.tup (ts.map .str)) (.int ((j : Int) + 1)) h' = .ok (.str ts[j + 1]) h' := by
        have := atI_nat (xs := ts.map D.str) (j := j + 1) (v := .str ts[j + 1]) (by simp [a2])
        rw [show ((j : Int) + 1) = ((j + 1 : Nat) : Int) by omega]
        simp only [ixM, this]
      simp only [wipeE, w_bind, w_noX, w_ok, w_C, w_op2, w_asB, w_op3, w_and, w_or, w_not, w_test, w_bAnd, w_bOr, w_bNot, w_if, w_lif, w_tup, w_lst, w_alloc, w_vL, w_call, w_aNil, w_aCons, w_lCall, w_append, w_nil, w_lnil, w_seq, w_next, w_ret, w_set, w_expr, w_sif, w_sub, w_unp, w_fn1, w_fn2, w_fn3, w_fn4, w_fn5, w_join, w_vSrc, w_aSrc, w_lSrc, w_catLL, w_catOL, w_repL, w_sortV, w_asI, w_slE0, w_slE1, w_sl, q_srcT, q_srcS, q_srcR, q_zipT, q_slT, w_lc, w_forS, Int.toNat_natCast, v_0, v_S, List.replicate_succ, List.replicate_zero, Nat.reduceSub, List.getElem?_cons_zero, List.getElem?_cons_succ, List.set_cons_zero, List.set_cons_succ, if_true, if_false, Bool.false_eq_true, Bool.not_true, Bool.not_false, q_add, q_addT, q_addS, q_sub, q_eq, q_eqS, q_eqB, q_ne, q_neS, q_neB, q_lt, q_ltS, q_le, q_gt, q_ge, q_in1, q_nin1, q_isN, q_isnN, q_isB, q_isnB, q_isiI0, q_isiI1, q_isiI2, q_isiI3, q_isiI4, q_isiI5, q_isiB0, q_isiB1, q_isiB2, q_isiB3, q_isiB4, q_isiB5, q_isiS0, q_isiS1, q_isiS2, q_isiS3, q_isiS4, q_isiS5, q_isiT0, q_isiT1, q_isiT2, q_isiT3, q_isiT4, q_isiT5, q_isiR0, q_isiR1, q_isiR2, q_isiR3, q_isiR4, q_isiR5, q_isiN0, q_isiN1, q_isiN2, q_isiN3, q_isiN4, q_isiN5, q_lenS, q_lenT, q_lenR, q_min2, q_max2, q_strS, q_tupP, ix_0, ix_1, ix_2, ix_3, i1, i2]
      have lt : ts[j] < ts[j + 1] := (List.pairwise_iff_getElem.mp f4) j (j + 1) a1 a2 (by omega)
      refine ⟨trivial, ?_⟩
      rw [decide_eq_true lt, ← List.replicate_succ, List.replicate_succ']
    · rintro acc h' ⟨rfl, rfl⟩
      have : (List.replicate (ts.length - 1) (D.bl true)) = (List.replicate (ts.length - 1) ()).map fun _ => .bl ((fun _ => true) ()) := by simp
      rw [this, all_map, w_ok]
      simp)
theorem s_fieldP {f : FF} (fo : f.Ok) : run (k + 4) I_is_field [f.d] h = .ok (.bl true) h := Ok.eq (by
  rw [e_is_field]
  unfold m_is_field
  cases f with
  | one s =>
    have z := s_simpleP (k := k) (h := h) fo
    cases s <;> simp only [SF.d, FF.d] at z ⊢ <;> simp only [FF.d, SF.d, w_bind, w_noX, w_ok, w_C, w_op2, w_asB, w_op3, w_and, w_or, w_not, w_test, w_bAnd, w_bOr, w_bNot, w_if, w_lif, w_tup, w_lst, w_alloc, w_vL, w_call, w_aNil, w_aCons, w_lCall, w_append, w_nil, w_lnil, w_seq, w_next, w_ret, w_set, w_expr, w_sif, w_sub, w_unp, w_fn1, w_fn2, w_fn3, w_fn4, w_fn5, w_join, w_vSrc, w_aSrc, w_lSrc, w_catLL, w_catOL, w_repL, w_sortV, w_asI, w_slE0, w_slE1, w_sl, q_srcT, q_srcS, q_srcR, q_zipT, q_slT, w_lc, w_forS, Int.toNat_natCast, v_0, v_S, List.replicate_succ, List.replicate_zero, Nat.reduceSub, List.getElem?_cons_zero, List.getElem?_cons_succ, List.set_cons_zero, List.set_cons_succ, if_true, if_false, Bool.false_eq_true, Bool.not_true, Bool.not_false, q_add, q_addT, q_addS, q_sub, q_eq, q_eqS, q_eqB, q_ne, q_neS, q_neB, q_lt, q_ltS, q_le, q_gt, q_ge, q_in1, q_nin1, q_isN, q_isnN, q_isB, q_isnB, q_isiI0, q_isiI1, q_isiI2, q_isiI3, q_isiI4, q_isiI5, q_isiB0, q_isiB1, q_isiB2, q_isiB3, q_isiB4, q_isiB5, q_isiS0, q_isiS1, q_isiS2, q_isiS3, q_isiS4, q_isiS5, q_isiT0, q_isiT1, q_isiT2, q_isiT3, q_isiT4, q_isiT5, q_isiR0, q_isiR1, q_isiR2, q_isiR3, q_isiR4, q_isiR5, q_isiN0, q_isiN1, q_isiN2, q_isiN3, q_isiN4, q_isiN5, q_lenS, q_lenT, q_lenR, q_min2, q_max2, q_strS, q_tupP, ix_0, ix_1, ix_2, ix_3, List.length_cons, List.length_nil, lim_0, lim_1, lim_2, lim_3, lim_4, lim_5, lim_6, lim_7, lim_8, lim_9, lim_10, lim_11, lim_12, lim_13, lim_14, lim_15, lim_16, lim_17, lim_18, lim_19, lim_20, lim_21, lim_22, lim_23, Nat.reduceAdd, Nat.reduceLeDiff, Int.cast_ofNat_Int, decide_true, decide_false, List.cons.injEq, reduceCtorEq, and_false, false_and, and_true, true_and, Nat.reduceEqDiff, Int.reduceLE, Int.reduceEq, Int.reduceLT, z, and_self]
  | rep s lo hi =>
    obtain ⟨f0, f1, f2, f3⟩ := fo
    simp only [FF.d, w_bind, w_noX, w_ok, w_C, w_op2, w_asB, w_op3, w_and, w_or, w_not, w_test, w_bAnd, w_bOr, w_bNot, w_if, w_lif, w_tup, w_lst, w_alloc, w_vL, w_call, w_aNil, w_aCons, w_lCall, w_append, w_nil, w_lnil, w_seq, w_next, w_ret, w_set, w_expr, w_sif, w_sub, w_unp, w_fn1, w_fn2, w_fn3, w_fn4, w_fn5, w_join, w_vSrc, w_aSrc, w_lSrc, w_catLL, w_catOL, w_repL, w_sortV, w_asI, w_slE0, w_slE1, w_sl, q_srcT, q_srcS, q_srcR, q_zipT, q_slT, w_lc, w_forS, Int.toNat_natCast, v_0, v_S, List.replicate_succ, List.replicate_zero, Nat.reduceSub, List.getElem?_cons_zero, List.getElem?_cons_succ, List.set_cons_zero, List.set_cons_succ, if_true, if_false, Bool.false_eq_true, Bool.not_true, Bool.not_false, q_add, q_addT, q_addS, q_sub, q_eq, q_eqS, q_eqB, q_ne, q_neS, q_neB, q_lt, q_ltS, q_le, q_gt, q_ge, q_in1, q_nin1, q_isN, q_isnN, q_isB, q_isnB, q_isiI0, q_isiI1, q_isiI2, q_isiI3, q_isiI4, q_isiI5, q_isiB0, q_isiB1, q_isiB2, q_isiB3, q_isiB4, q_isiB5, q_isiS0, q_isiS1, q_isiS2, q_isiS3, q_isiS4, q_isiS5, q_isiT0, q_isiT1, q_isiT2, q_isiT3, q_isiT4, q_isiT5, q_isiR0, q_isiR1, q_isiR2, q_isiR3, q_isiR4, q_isiR5, q_isiN0, q_isiN1, q_isiN2, q_isiN3, q_isiN4, q_isiN5, q_lenS, q_lenT, q_lenR, q_min2, q_max2, q_strS, q_tupP, ix_0, ix_1, ix_2, ix_3, List.length_cons, List.length_nil, lim_0, lim_1, lim_2, lim_3, lim_4, lim_5, lim_6, lim_7, lim_8, lim_9, lim_10, lim_11, lim_12, lim_13, lim_14, lim_15, lim_16, lim_17, lim_18, lim_19, lim_20, lim_21, lim_22, lim_23, Nat.reduceAdd, Nat.reduceLeDiff, Int.cast_ofNat_Int, decide_true, decide_false, List.cons.injEq, reduceCtorEq, and_false, false_and, and_true, true_and, Nat.reduceEqDiff, Int.reduceLE, Int.reduceEq, Int.reduceLT, s_simpleP f0]
    simp only [w_bind, w_noX, w_ok, w_C, w_op2, w_asB, w_op3, w_and, w_or, w_not, w_test, w_bAnd, w_bOr, w_bNot, w_if, w_lif, w_tup, w_lst, w_alloc, w_vL, w_call, w_aNil, w_aCons, w_lCall, w_append, w_nil, w_lnil, w_seq, w_next, w_ret, w_set, w_expr, w_sif, w_sub, w_unp, w_fn1, w_fn2, w_fn3, w_fn4, w_fn5, w_join, w_vSrc, w_aSrc, w_lSrc, w_catLL, w_catOL, w_repL, w_sortV, w_asI, w_slE0, w_slE1, w_sl, q_srcT, q_srcS, q_srcR, q_zipT, q_slT, w_lc, w_forS, Int.toNat_natCast, v_0, v_S, List.replicate_succ, List.replicate_zero, Nat.reduceSub, List.getElem?_cons_zero, List.getElem?_cons_succ, List.set_cons_zero, List.set_cons_succ, if_true, if_false, Bool.false_eq_true, Bool.not_true, Bool.not_false, q_add, q_addT, q_addS, q_sub, q_eq, q_eqS, q_eqB, q_ne, q_neS, q_neB, q_lt, q_ltS, q_le, q_gt, q_ge, q_in1, q_nin1, q_isN, q_isnN, q_isB, q_isnB, q_isiI0, q_isiI1, q_isiI2, q_isiI3, q_isiI4, q_isiI5, q_isiB0, q_isiB1, q_isiB2, q_isiB3, q_isiB4, q_isiB5, q_isiS0, q_isiS1, q_isiS2, q_isiS3, q_isiS4, q_isiS5, q_isiT0, q_isiT1, q_isiT2, q_isiT3, q_isiT4, q_isiT5, q_isiR0, q_isiR1, q_isiR2, q_isiR3, q_isiR4, q_isiR5, q_isiN0, q_isiN1, q_isiN2, q_isiN3, q_isiN4, q_isiN5, q_lenS, q_lenT, q_lenR, q_min2, q_max2, q_strS, q_tupP, ix_0, ix_1, ix_2, ix_3, s_span f1 (show (1 : Int) ≤ (hi : Int) by omega) (show (hi : Int) ≤ 3 by omega), and_self])
theorem s_format {fs : List FF} (fo : ∀ f ∈ fs, f.Ok) (h1 : 1 ≤ fs.length) (h2 : fs.length ≤ 6) : run (k + 5) I_is_format [.tup (fs.map FF.d)] h = .ok (.bl true) h := Ok.eq (by
  rw [e_is_format]
  unfold m_is_format
  have c1 : (1 : Int) ≤ (fs.length : Int) := by omega
  have c2 : (fs.length : Int) ≤ 6 := by omega
  simp only [w_bind, w_noX, w_ok, w_C, w_op2, w_asB, w_op3, w_and, w_or, w_not, w_test, w_bAnd, w_bOr, w_bNot, w_if, w_lif, w_tup, w_lst, w_alloc, w_vL, w_call, w_aNil, w_aCons, w_lCall, w_append, w_nil, w_lnil, w_seq, w_next, w_ret, w_set, w_expr, w_sif, w_sub, w_unp, w_fn1, w_fn2, w_fn3, w_fn4, w_fn5, w_join, w_vSrc, w_aSrc, w_lSrc, w_catLL, w_catOL, w_repL, w_sortV, w_asI, w_slE0, w_slE1, w_sl, q_srcT, q_srcS, q_srcR, q_zipT, q_slT, w_lc, w_forS, Int.toNat_natCast, v_0, v_S, List.replicate_succ, List.replicate_zero, Nat.reduceSub, List.getElem?_cons_zero, List.getElem?_cons_succ, List.set_cons_zero, List.set_cons_succ, if_true, if_false, Bool.false_eq_true, Bool.not_true, Bool.not_false, q_add, q_addT, q_addS, q_sub, q_eq, q_eqS, q_eqB, q_ne, q_neS, q_neB, q_lt, q_ltS, q_le, q_gt, q_ge, q_in1, q_nin1, q_isN, q_isnN, q_isB, q_isnB, q_isiI0, q_isiI1, q_isiI2, q_isiI3, q_isiI4, q_isiI5, q_isiB0, q_isiB1, q_isiB2, q_isiB3, q_isiB4, q_isiB5, q_isiS0, q_isiS1, q_isiS2, q_isiS3, q_isiS4, q_isiS5, q_isiT0, q_isiT1, q_isiT2, q_isiT3, q_isiT4, q_isiT5, q_isiR0, q_isiR1, q_isiR2, q_isiR3, q_isiR4, q_isiR5, q_isiN0, q_isiN1, q_isiN2, q_isiN3, q_isiN4, q_isiN5, q_lenS, q_lenT, q_lenR, q_min2, q_max2, q_strS, q_tupP, ix_0, ix_1, ix_2, ix_3, List.length_map, c1, c2, decide_true]
  rw [w_lcI (by simp only [List.length_map, LIM]; omega)]
  simp only [wipeE, w_bind, w_noX, w_ok, w_C, w_op2, w_asB, w_op3, w_and, w_or, w_not, w_test, w_bAnd, w_bOr, w_bNot, w_if, w_lif, w_tup, w_lst, w_alloc, w_vL, w_call, w_aNil, w_aCons, w_lCall, w_append, w_nil, w_lnil, w_seq, w_next, w_ret, w_set, w_expr, w_sif, w_sub, w_unp, w_fn1, w_fn2, w_fn3, w_fn4, w_fn5, w_join, w_vSrc, w_aSrc, w_lSrc, w_catLL, w_catOL, w_repL, w_sortV, w_asI, w_slE0, w_slE1, w_sl, q_srcT, q_srcS, q_srcR, q_zipT, q_slT, w_lc, w_forS, Int.toNat_natCast, v_0, v_S, List.replicate_succ, List.replicate_zero, Nat.reduceSub, List.getElem?_cons_zero, List.getElem?_cons_succ, List.set_cons_zero, List.set_cons_succ, if_true, if_false, Bool.false_eq_true, Bool.not_true, Bool.not_false, q_add, q_addT, q_addS, q_sub, q_eq, q_eqS, q_eqB, q_ne, q_neS, q_neB, q_lt, q_ltS, q_le, q_gt, q_ge, q_in1, q_nin1, q_isN, q_isnN, q_isB, q_isnB, q_isiI0, q_isiI1, q_isiI2, q_isiI3, q_isiI4, q_isiI5, q_isiB0, q_isiB1, q_isiB2, q_isiB3, q_isiB4, q_isiB5, q_isiS0, q_isiS1, q_isiS2, q_isiS3, q_isiS4, q_isiS5, q_isiT0, q_isiT1, q_isiT2, q_isiT3, q_isiT4, q_isiT5, q_isiR0, q_isiR1, q_isiR2, q_isiR3, q_isiR4, q_isiR5, q_isiN0, q_isiN1, q_isiN2, q_isiN3, q_isiN4, q_isiN5, q_lenS, q_lenT, q_lenR, q_min2, q_max2, q_strS, q_tupP, ix_0, ix_1, ix_2, ix_3]
  rw [lcL_map (fun s => .bl ((fun _ => true) s)) fun f hf => Ok.eq (by simp only [w_bind, w_noX, w_ok, w_C, w_op2, w_asB, w_op3, w_and, w_or, w_not, w_test, w_bAnd, w_bOr, w_bNot, w_if, w_lif, w_tup, w_lst, w_alloc, w_vL, w_call, w_aNil, w_aCons, w_lCall, w_append, w_nil, w_lnil, w_seq, w_next, w_ret, w_set, w_expr, w_sif, w_sub, w_unp, w_fn1, w_fn2, w_fn3, w_fn4, w_fn5, w_join, w_vSrc, w_aSrc, w_lSrc, w_catLL, w_catOL, w_repL, w_sortV, w_asI, w_slE0, w_slE1, w_sl, q_srcT, q_srcS, q_srcR, q_zipT, q_slT, w_lc, w_forS, Int.toNat_natCast, v_0, v_S, List.replicate_succ, List.replicate_zero, Nat.reduceSub, List.getElem?_cons_zero, List.getElem?_cons_succ, List.set_cons_zero, List.set_cons_succ, if_true, if_false, Bool.false_eq_true, Bool.not_true, Bool.not_false, q_add, q_addT, q_addS, q_sub, q_eq, q_eqS, q_eqB, q_ne, q_neS, q_neB, q_lt, q_ltS, q_le, q_gt, q_ge, q_in1, q_nin1, q_isN, q_isnN, q_isB, q_isnB, q_isiI0, q_isiI1, q_isiI2, q_isiI3, q_isiI4, q_isiI5, q_isiB0, q_isiB1, q_isiB2, q_isiB3, q_isiB4, q_isiB5, q_isiS0, q_isiS1, q_isiS2, q_isiS3, q_isiS4, q_isiS5, q_isiT0, q_isiT1, q_isiT2, q_isiT3, q_isiT4, q_isiT5, q_isiR0, q_isiR1, q_isiR2, q_isiR3, q_isiR4, q_isiR5, q_isiN0, q_isiN1, q_isiN2, q_isiN3, q_isiN4, q_isiN5, q_lenS, q_lenT, q_lenR, q_min2, q_max2, q_strS, q_tupP, ix_0, ix_1, ix_2, ix_3, s_fieldP (fo f hf), and_self]), w_ok, all_map, w_ok]
  simp)
def FormOk (fs : List FF) : Prop := (∀ f ∈ fs, f.Ok) ∧ 1 ≤ fs.length ∧ fs.length ≤ 6
theorem s_check {fs : List FF} (fo : FormOk fs) : run (k + 6) I_check_format [.tup (fs.map FF.d)] h = .ok .non h := Ok.eq (by
  rw [e_check_format]
  unfold m_check_format
  simp only [w_bind, w_noX, w_ok, w_C, w_op2, w_asB, w_op3, w_and, w_or, w_not, w_test, w_bAnd, w_bOr, w_bNot, w_if, w_lif, w_tup, w_lst, w_alloc, w_vL, w_call, w_aNil, w_aCons, w_lCall, w_append, w_nil, w_lnil, w_seq, w_next, w_ret, w_set, w_expr, w_sif, w_sub, w_unp, w_fn1, w_fn2, w_fn3, w_fn4, w_fn5, w_join, w_vSrc, w_aSrc, w_lSrc, w_catLL, w_catOL, w_repL, w_sortV, w_asI, w_slE0, w_slE1, w_sl, q_srcT, q_srcS, q_srcR, q_zipT, q_slT, w_lc, w_forS, Int.toNat_natCast, v_0, v_S, List.replicate_succ, List.replicate_zero, Nat.reduceSub, List.getElem?_cons_zero, List.getElem?_cons_succ, List.set_cons_zero, List.set_cons_succ, if_true, if_false, Bool.false_eq_true, Bool.not_true, Bool.not_false, q_add, q_addT, q_addS, q_sub, q_eq, q_eqS, q_eqB, q_ne, q_neS, q_neB, q_lt, q_ltS, q_le, q_gt, q_ge, q_in1, q_nin1, q_isN, q_isnN, q_isB, q_isnB, q_isiI0, q_isiI1, q_isiI2, q_isiI3, q_isiI4, q_isiI5, q_isiB0, q_isiB1, q_isiB2, q_isiB3, q_isiB4, q_isiB5, q_isiS0, q_isiS1, q_isiS2, q_isiS3, q_isiS4, q_isiS5, q_isiT0, q_isiT1, q_isiT2, q_isiT3, q_isiT4, q_isiT5, q_isiR0, q_isiR1, q_isiR2, q_isiR3, q_isiR4, q_isiR5, q_isiN0, q_isiN1, q_isiN2, q_isiN3, q_isiN4, q_isiN5, q_lenS, q_lenT, q_lenR, q_min2, q_max2, q_strS, q_tupP, ix_0, ix_1, ix_2, ix_3, s_format fo.1 fo.2.1 fo.2.2, and_self])
end
end FT
end
section
set_option maxRecDepth 100000
namespace FT
open PySem L2
set_option autoImplicit false
/-! ### values and records -/
section
variable {k : Nat} {h : MH} {d : D}
def onlyD (d : D) (cs : Sg) : Bool := match d with
  | .str s => only' s cs
  | _ => false
theorem lenV_str {s : Sg} (hb : Bas h (.str s)) : lenV [.str s] h = .ok (.int s.length) h := q_lenS (by have := (hb.2.1 s rfl).1; simp only [LIM]; omega)
theorem s_only {cs : Sg} (hb : Bas h d) : run (k + 1) I_only [d, .str cs] h = .ok (.bl (onlyD d cs)) h := Ok.eq (by
  rw [e_only]
  unfold m_only
  simp only [w_bind, w_noX, w_ok, w_C, w_op2, w_asB, w_op3, w_and, w_or, w_not, w_test, w_bAnd, w_bOr, w_bNot, w_if, w_lif, w_tup, w_lst, w_alloc, w_vL, w_call, w_aNil, w_aCons, w_lCall, w_append, w_nil, w_lnil, w_seq, w_next, w_ret, w_set, w_expr, w_sif, w_sub, w_unp, w_fn1, w_fn2, w_fn3, w_fn4, w_fn5, w_join, w_vSrc, w_aSrc, w_lSrc, w_catLL, w_catOL, w_repL, w_sortV, w_asI, w_slE0, w_slE1, w_sl, q_srcT, q_srcS, q_srcR, q_zipT, q_slT, w_lc, w_forS, Int.toNat_natCast, v_0, v_S, List.replicate_succ, List.replicate_zero, Nat.reduceSub, List.getElem?_cons_zero, List.getElem?_cons_succ, List.set_cons_zero, List.set_cons_succ, if_true, if_false, Bool.false_eq_true, Bool.not_true, Bool.not_false, q_add, q_addT, q_addS, q_sub, q_eq, q_eqS, q_eqB, q_ne, q_neS, q_neB, q_lt, q_ltS, q_le, q_gt, q_ge, q_in1, q_nin1, q_isN, q_isnN, q_isB, q_isnB, q_isiI0, q_isiI1, q_isiI2, q_isiI3, q_isiI4, q_isiI5, q_isiB0, q_isiB1, q_isiB2, q_isiB3, q_isiB4, q_isiB5, q_isiS0, q_isiS1, q_isiS2, q_isiS3, q_isiS4, q_isiS5, q_isiT0, q_isiT1, q_isiT2, q_isiT3, q_isiT4, q_isiT5, q_isiR0, q_isiR1, q_isiR2, q_isiR3, q_isiR4, q_isiR5, q_isiN0, q_isiN1, q_isiN2, q_isiN3, q_isiN4, q_isiN5, q_lenS, q_lenT, q_lenR, q_min2, q_max2, q_strS, q_tupP, ix_0, ix_1, ix_2, ix_3, isi_str hb]
  cases d <;> simp only [isStr, w_bind, w_noX, w_ok, w_C, w_op2, w_asB, w_op3, w_and, w_or, w_not, w_test, w_bAnd, w_bOr, w_bNot, w_if, w_lif, w_tup, w_lst, w_alloc, w_vL, w_call, w_aNil, w_aCons, w_lCall, w_append, w_nil, w_lnil, w_seq, w_next, w_ret, w_set, w_expr, w_sif, w_sub, w_unp, w_fn1, w_fn2, w_fn3, w_fn4, w_fn5, w_join, w_vSrc, w_aSrc, w_lSrc, w_catLL, w_catOL, w_repL, w_sortV, w_asI, w_slE0, w_slE1, w_sl, q_srcT, q_srcS, q_srcR, q_zipT, q_slT, w_lc, w_forS, Int.toNat_natCast, v_0, v_S, List.replicate_succ, List.replicate_zero, Nat.reduceSub, List.getElem?_cons_zero, List.getElem?_cons_succ, List.set_cons_zero, List.set_cons_succ, if_true, if_false, Bool.false_eq_true, Bool.not_true, Bool.not_false, q_add, q_addT, q_addS, q_sub, q_eq, q_eqS, q_eqB, q_ne, q_neS, q_neB, q_lt, q_ltS, q_le, q_gt, q_ge, q_in1, q_nin1, q_isN, q_isnN, q_isB, q_isnB, q_isiI0, q_isiI1, q_isiI2, q_isiI3, q_isiI4, q_isiI5, q_isiB0, q_isiB1, q_isiB2, q_isiB3, q_isiB4, q_isiB5, q_isiS0, q_isiS1, q_isiS2, q_isiS3, q_isiS4, q_isiS5, q_isiT0, q_isiT1, q_isiT2, q_isiT3, q_isiT4, q_isiT5, q_isiR0, q_isiR1, q_isiR2, q_isiR3, q_isiR4, q_isiR5, q_isiN0, q_isiN1, q_isiN2, q_isiN3, q_isiN4, q_isiN5, q_lenS, q_lenT, q_lenR, q_min2, q_max2, q_strS, q_tupP, ix_0, ix_1, ix_2, ix_3, onlyD, and_self]
  rename_i s
  have hl := (hb.2.1 s rfl).1
  rw [w_lcI (by simp only [List.length_map, LIM]; omega)]
  simp only [wipeE, w_bind, w_noX, w_ok, w_C, w_op2, w_asB, w_op3, w_and, w_or, w_not, w_test, w_bAnd, w_bOr, w_bNot, w_if, w_lif, w_tup, w_lst, w_alloc, w_vL, w_call, w_aNil, w_aCons, w_lCall, w_append, w_nil, w_lnil, w_seq, w_next, w_ret, w_set, w_expr, w_sif, w_sub, w_unp, w_fn1, w_fn2, w_fn3, w_fn4, w_fn5, w_join, w_vSrc, w_aSrc, w_lSrc, w_catLL, w_catOL, w_repL, w_sortV, w_asI, w_slE0, w_slE1, w_sl, q_srcT, q_srcS, q_srcR, q_zipT, q_slT, w_lc, w_forS, Int.toNat_natCast, v_0, v_S, List.replicate_succ, List.replicate_zero, Nat.reduceSub, List.getElem?_cons_zero, List.getElem?_cons_succ, List.set_cons_zero, List.set_cons_succ, if_true, if_false, Bool.false_eq_true, Bool.not_true, Bool.not_false, q_add, q_addT, q_addS, q_sub, q_eq, q_eqS, q_eqB, q_ne, q_neS, q_neB, q_lt, q_ltS, q_le, q_gt, q_ge, q_in1, q_nin1, q_isN, q_isnN, q_isB, q_isnB, q_isiI0, q_isiI1, q_isiI2, q_isiI3, q_isiI4, q_isiI5, q_isiB0, q_isiB1, q_isiB2, q_isiB3, q_isiB4, q_isiB5, q_isiS0, q_isiS1, q_isiS2, q_isiS3, q_isiS4, q_isiS5, q_isiT0, q_isiT1, q_isiT2, q_isiT3, q_isiT4, q_isiT5, q_isiR0, q_isiR1, q_isiR2, q_isiR3, q_isiR4, q_isiR5, q_isiN0, q_isiN1, q_isiN2, q_isiN3, q_isiN4, q_isiN5, q_lenS, q_lenT, q_lenR, q_min2, q_max2, q_strS, q_tupP, ix_0, ix_1, ix_2, ix_3]
  rw [lcL_map (fun c => .bl (decide (c ∈ cs))) fun c hc => Ok.eq (by simp only [w_bind, w_noX, w_ok, w_C, w_op2, w_asB, w_op3, w_and, w_or, w_not, w_test, w_bAnd, w_bOr, w_bNot, w_if, w_lif, w_tup, w_lst, w_alloc, w_vL, w_call, w_aNil, w_aCons, w_lCall, w_append, w_nil, w_lnil, w_seq, w_next, w_ret, w_set, w_expr, w_sif, w_sub, w_unp, w_fn1, w_fn2, w_fn3, w_fn4, w_fn5, w_join, w_vSrc, w_aSrc, w_lSrc, w_catLL, w_catOL, w_repL, w_sortV, w_asI, w_slE0, w_slE1, w_sl, q_srcT, q_srcS, q_srcR, q_zipT, q_slT, w_lc, w_forS, Int.toNat_natCast, v_0, v_S, List.replicate_succ, List.replicate_zero, Nat.reduceSub, List.getElem?_cons_zero, List.getElem?_cons_succ, List.set_cons_zero, List.set_cons_succ, if_true, if_false, Bool.false_eq_true, Bool.not_true, Bool.not_false, q_add, q_addT, q_addS, q_sub, q_eq, q_eqS, q_eqB, q_ne, q_neS, q_neB, q_lt, q_ltS, q_le, q_gt, q_ge, q_in1, q_nin1, q_isN, q_isnN, q_isB, q_isnB, q_isiI0, q_isiI1, q_isiI2, q_isiI3, q_isiI4, q_isiI5, q_isiB0, q_isiB1, q_isiB2, q_isiB3, q_isiB4, q_isiB5, q_isiS0, q_isiS1, q_isiS2, q_isiS3, q_isiS4, q_isiS5, q_isiT0, q_isiT1, q_isiT2, q_isiT3, q_isiT4, q_isiT5, q_isiR0, q_isiR1, q_isiR2, q_isiR3, q_isiR4, q_isiR5, q_isiN0, q_isiN1, q_isiN2, q_isiN3, q_isiN4, q_isiN5, q_lenS, q_lenT, q_lenR, q_min2, q_max2, q_strS, q_tupP, ix_0, ix_1, ix_2, ix_3, and_self]), w_ok, all_map, w_ok]
  exact ⟨rfl, rfl⟩)
theorem pl_strs {ts : List Sg} {n : Nat} (hs : ∀ s ∈ ts, ∀ c ∈ s, c < 1114112) : (ts.map D.str).all (plN (n + 1)) = true := by
  rw [List.all_eq_true]
  intro x hx
  obtain ⟨s, hs', rfl⟩ := List.mem_map.mp hx
  exact pl_str (hs s hs')
theorem inD_strs {t : Sg} {ts : List Sg} : inD (.str t) (ts.map .str) = decide (t ∈ ts) := by
  rw [Bool.eq_iff_iff, inD_iff, decide_eq_true_iff]
  simp
theorem pow10 {n : Nat} (h1 : 1 ≤ n) (h2 : n ≤ 4) {h : MH} : ∃ z : Int, ixM (.tup [.int 9, .int 99, .int 999, .int 9999]) (.int ((n : Int) - 1)) h = .ok (.int z) h ∧ z + 1 = (10 : Int) ^ n := by
  have n4 : n = 1 ∨ n = 2 ∨ n = 3 ∨ n = 4 := by omega
  rcases n4 with rfl | rfl | rfl | rfl
  · exact ⟨9, by simp [ixM, atI_0], by decide⟩
  · exact ⟨99, by simp [ixM, atI_1], by decide⟩
  · exact ⟨999, by simp [ixM, atI_2], by decide⟩
  · exact ⟨9999, by simp [ixM, atI_3], by decide⟩
theorem cast_le {a b : Nat} : decide ((a : Int) ≤ (b : Int)) = decide (a ≤ b) := by
  by_cases c : a ≤ b
  · rw [decide_eq_true c, decide_eq_true (by omega)]
  · rw [decide_eq_false c, decide_eq_false (by omega)]
theorem s_isvalS {f : SF} (fo : f.Ok) (hb : Bas h d) : run (k + 2) I_is_value [f.d, d] h = .ok (.bl (f.val d)) h := Ok.eq (by
  rw [e_is_value]
  unfold m_is_value
  cases f with
  | word s =>
    simp only [SF.d, w_bind, w_noX, w_ok, w_C, w_op2, w_asB, w_op3, w_and, w_or, w_not, w_test, w_bAnd, w_bOr, w_bNot, w_if, w_lif, w_tup, w_lst, w_alloc, w_vL, w_call, w_aNil, w_aCons, w_lCall, w_append, w_nil, w_lnil, w_seq, w_next, w_ret, w_set, w_expr, w_sif, w_sub, w_unp, w_fn1, w_fn2, w_fn3, w_fn4, w_fn5, w_join, w_vSrc, w_aSrc, w_lSrc, w_catLL, w_catOL, w_repL, w_sortV, w_asI, w_slE0, w_slE1, w_sl, q_srcT, q_srcS, q_srcR, q_zipT, q_slT, w_lc, w_forS, Int.toNat_natCast, v_0, v_S, List.replicate_succ, List.replicate_zero, Nat.reduceSub, List.getElem?_cons_zero, List.getElem?_cons_succ, List.set_cons_zero, List.set_cons_succ, if_true, if_false, Bool.false_eq_true, Bool.not_true, Bool.not_false, q_add, q_addT, q_addS, q_sub, q_eq, q_eqS, q_eqB, q_ne, q_neS, q_neB, q_lt, q_ltS, q_le, q_gt, q_ge, q_in1, q_nin1, q_isN, q_isnN, q_isB, q_isnB, q_isiI0, q_isiI1, q_isiI2, q_isiI3, q_isiI4, q_isiI5, q_isiB0, q_isiB1, q_isiB2, q_isiB3, q_isiB4, q_isiB5, q_isiS0, q_isiS1, q_isiS2, q_isiS3, q_isiS4, q_isiS5, q_isiT0, q_isiT1, q_isiT2, q_isiT3, q_isiT4, q_isiT5, q_isiR0, q_isiR1, q_isiR2, q_isiR3, q_isiR4, q_isiR5, q_isiN0, q_isiN1, q_isiN2, q_isiN3, q_isiN4, q_isiN5, q_lenS, q_lenT, q_lenR, q_min2, q_max2, q_strS, q_tupP, ix_0, ix_1, ix_2, ix_3, List.length_cons, List.length_nil, lim_0, lim_1, lim_2, lim_3, lim_4, lim_5, lim_6, lim_7, lim_8, lim_9, lim_10, lim_11, lim_12, lim_13, lim_14, lim_15, lim_16, lim_17, lim_18, lim_19, lim_20, lim_21, lim_22, lim_23, Nat.reduceAdd, Nat.reduceLeDiff, decide_true, decide_false, List.cons.injEq, reduceCtorEq, and_false, false_and, and_true, true_and, Nat.reduceEqDiff, Int.reduceLE, Int.reduceEq, Int.reduceLT, isi_str hb]
    cases d <;> simp only [isStr, w_bind, w_noX, w_ok, w_C, w_op2, w_asB, w_op3, w_and, w_or, w_not, w_test, w_bAnd, w_bOr, w_bNot, w_if, w_lif, w_tup, w_lst, w_alloc, w_vL, w_call, w_aNil, w_aCons, w_lCall, w_append, w_nil, w_lnil, w_seq, w_next, w_ret, w_set, w_expr, w_sif, w_sub, w_unp, w_fn1, w_fn2, w_fn3, w_fn4, w_fn5, w_join, w_vSrc, w_aSrc, w_lSrc, w_catLL, w_catOL, w_repL, w_sortV, w_asI, w_slE0, w_slE1, w_sl, q_srcT, q_srcS, q_srcR, q_zipT, q_slT, w_lc, w_forS, Int.toNat_natCast, v_0, v_S, List.replicate_succ, List.replicate_zero, Nat.reduceSub, List.getElem?_cons_zero, List.getElem?_cons_succ, List.set_cons_zero, List.set_cons_succ, if_true, if_false, Bool.false_eq_true, Bool.not_true, Bool.not_false, q_add, q_addT, q_addS, q_sub, q_eq, q_eqS, q_eqB, q_ne, q_neS, q_neB, q_lt, q_ltS, q_le, q_gt, q_ge, q_in1, q_nin1, q_isN, q_isnN, q_isB, q_isnB, q_isiI0, q_isiI1, q_isiI2, q_isiI3, q_isiI4, q_isiI5, q_isiB0, q_isiB1, q_isiB2, q_isiB3, q_isiB4, q_isiB5, q_isiS0, q_isiS1, q_isiS2, q_isiS3, q_isiS4, q_isiS5, q_isiT0, q_isiT1, q_isiT2, q_isiT3, q_isiT4, q_isiT5, q_isiR0, q_isiR1, q_isiR2, q_isiR3, q_isiR4, q_isiR5, q_isiN0, q_isiN1, q_isiN2, q_isiN3, q_isiN4, q_isiN5, q_lenS, q_lenT, q_lenR, q_min2, q_max2, q_strS, q_tupP, ix_0, ix_1, ix_2, ix_3, SF.val, and_self]
  | choice ts =>
    obtain ⟨f1, f2, f3, f4⟩ := fo
    simp only [SF.d, w_bind, w_noX, w_ok, w_C, w_op2, w_asB, w_op3, w_and, w_or, w_not, w_test, w_bAnd, w_bOr, w_bNot, w_if, w_lif, w_tup, w_lst, w_alloc, w_vL, w_call, w_aNil, w_aCons, w_lCall, w_append, w_nil, w_lnil, w_seq, w_next, w_ret, w_set, w_expr, w_sif, w_sub, w_unp, w_fn1, w_fn2, w_fn3, w_fn4, w_fn5, w_join, w_vSrc, w_aSrc, w_lSrc, w_catLL, w_catOL, w_repL, w_sortV, w_asI, w_slE0, w_slE1, w_sl, q_srcT, q_srcS, q_srcR, q_zipT, q_slT, w_lc, w_forS, Int.toNat_natCast, v_0, v_S, List.replicate_succ, List.replicate_zero, Nat.reduceSub, List.getElem?_cons_zero, List.getElem?_cons_succ, List.set_cons_zero, List.set_cons_succ, if_true, if_false, Bool.false_eq_true, Bool.not_true, Bool.not_false, q_add, q_addT, q_addS, q_sub, q_eq, q_eqS, q_eqB, q_ne, q_neS, q_neB, q_lt, q_ltS, q_le, q_gt, q_ge, q_in1, q_nin1, q_isN, q_isnN, q_isB, q_isnB, q_isiI0, q_isiI1, q_isiI2, q_isiI3, q_isiI4, q_isiI5, q_isiB0, q_isiB1, q_isiB2, q_isiB3, q_isiB4, q_isiB5, q_isiS0, q_isiS1, q_isiS2, q_isiS3, q_isiS4, q_isiS5, q_isiT0, q_isiT1, q_isiT2, q_isiT3, q_isiT4, q_isiT5, q_isiR0, q_isiR1, q_isiR2, q_isiR3, q_isiR4, q_isiR5, q_isiN0, q_isiN1, q_isiN2, q_isiN3, q_isiN4, q_isiN5, q_lenS, q_lenT, q_lenR, q_min2, q_max2, q_strS, q_tupP, ix_0, ix_1, ix_2, ix_3, List.length_cons, List.length_nil, lim_0, lim_1, lim_2, lim_3, lim_4, lim_5, lim_6, lim_7, lim_8, lim_9, lim_10, lim_11, lim_12, lim_13, lim_14, lim_15, lim_16, lim_17, lim_18, lim_19, lim_20, lim_21, lim_22, lim_23, Nat.reduceAdd, Nat.reduceLeDiff, decide_true, decide_false, List.cons.injEq, reduceCtorEq, and_false, false_and, and_true, true_and, Nat.reduceEqDiff, Int.reduceLE, Int.reduceEq, Int.reduceLT, isi_str hb]
    cases d <;> simp only [isStr, w_bind, w_noX, w_ok, w_C, w_op2, w_asB, w_op3, w_and, w_or, w_not, w_test, w_bAnd, w_bOr, w_bNot, w_if, w_lif, w_tup, w_lst, w_alloc, w_vL, w_call, w_aNil, w_aCons, w_lCall, w_append, w_nil, w_lnil, w_seq, w_next, w_ret, w_set, w_expr, w_sif, w_sub, w_unp, w_fn1, w_fn2, w_fn3, w_fn4, w_fn5, w_join, w_vSrc, w_aSrc, w_lSrc, w_catLL, w_catOL, w_repL, w_sortV, w_asI, w_slE0, w_slE1, w_sl, q_srcT, q_srcS, q_srcR, q_zipT, q_slT, w_lc, w_forS, Int.toNat_natCast, v_0, v_S, List.replicate_succ, List.replicate_zero, Nat.reduceSub, List.getElem?_cons_zero, List.getElem?_cons_succ, List.set_cons_zero, List.set_cons_succ, if_true, if_false, Bool.false_eq_true, Bool.not_true, Bool.not_false, q_add, q_addT, q_addS, q_sub, q_eq, q_eqS, q_eqB, q_ne, q_neS, q_neB, q_lt, q_ltS, q_le, q_gt, q_ge, q_in1, q_nin1, q_isN, q_isnN, q_isB, q_isnB, q_isiI0, q_isiI1, q_isiI2, q_isiI3, q_isiI4, q_isiI5, q_isiB0, q_isiB1, q_isiB2, q_isiB3, q_isiB4, q_isiB5, q_isiS0, q_isiS1, q_isiS2, q_isiS3, q_isiS4, q_isiS5, q_isiT0, q_isiT1, q_isiT2, q_isiT3, q_isiT4, q_isiT5, q_isiR0, q_isiR1, q_isiR2, q_isiR3, q_isiR4, q_isiR5, q_isiN0, q_isiN1, q_isiN2, q_isiN3, q_isiN4, q_isiN5, q_lenS, q_lenT, q_lenR, q_min2, q_max2, q_strS, q_tupP, ix_0, ix_1, ix_2, ix_3, SF.val, and_self]
    rename_i s
    rw [in_tup (pl_str (hb.2.1 s rfl).2) (pl_strs fun s hs => txok_lt (f3 s hs)), w_ok, inD_strs]
    exact ⟨rfl, rfl⟩
  | number n =>
    obtain ⟨f1, f2⟩ := fo
    obtain ⟨z, e, ez⟩ := pow10 f1 f2 (h := h)
    simp only [SF.d, w_bind, w_noX, w_ok, w_C, w_op2, w_asB, w_op3, w_and, w_or, w_not, w_test, w_bAnd, w_bOr, w_bNot, w_if, w_lif, w_tup, w_lst, w_alloc, w_vL, w_call, w_aNil, w_aCons, w_lCall, w_append, w_nil, w_lnil, w_seq, w_next, w_ret, w_set, w_expr, w_sif, w_sub, w_unp, w_fn1, w_fn2, w_fn3, w_fn4, w_fn5, w_join, w_vSrc, w_aSrc, w_lSrc, w_catLL, w_catOL, w_repL, w_sortV, w_asI, w_slE0, w_slE1, w_sl, q_srcT, q_srcS, q_srcR, q_zipT, q_slT, w_lc, w_forS, Int.toNat_natCast, v_0, v_S, List.replicate_succ, List.replicate_zero, Nat.reduceSub, List.getElem?_cons_zero, List.getElem?_cons_succ, List.set_cons_zero, List.set_cons_succ, if_true, if_false, Bool.false_eq_true, Bool.not_true, Bool.not_false, q_add, q_addT, q_addS, q_sub, q_eq, q_eqS, q_eqB, q_ne, q_neS, q_neB, q_lt, q_ltS, q_le, q_gt, q_ge, q_in1, q_nin1, q_isN, q_isnN, q_isB, q_isnB, q_isiI0, q_isiI1, q_isiI2, q_isiI3, q_isiI4, q_isiI5, q_isiB0, q_isiB1, q_isiB2, q_isiB3, q_isiB4, q_isiB5, q_isiS0, q_isiS1, q_isiS2, q_isiS3, q_isiS4, q_isiS5, q_isiT0, q_isiT1, q_isiT2, q_isiT3, q_isiT4, q_isiT5, q_isiR0, q_isiR1, q_isiR2, q_isiR3, q_isiR4, q_isiR5, q_isiN0, q_isiN1, q_isiN2, q_isiN3, q_isiN4, q_isiN5, q_lenS, q_lenT, q_lenR, q_min2, q_max2, q_strS, q_tupP, ix_0, ix_1, ix_2, ix_3, List.length_cons, List.length_nil, lim_0, lim_1, lim_2, lim_3, lim_4, lim_5, lim_6, lim_7, lim_8, lim_9, lim_10, lim_11, lim_12, lim_13, lim_14, lim_15, lim_16, lim_17, lim_18, lim_19, lim_20, lim_21, lim_22, lim_23, Nat.reduceAdd, Nat.reduceLeDiff, decide_true, decide_false, List.cons.injEq, reduceCtorEq, and_false, false_and, and_true, true_and, Nat.reduceEqDiff, Int.reduceLE, Int.reduceEq, Int.reduceLT, e, s_between hb]
    cases d <;> simp only [betw, SF.val]
    rename_i i
    rw [← ez]
    congr 2
    simp only [decide_eq_decide]
    omega
  | digits lo hi =>
    simp only [SF.d, w_bind, w_noX, w_ok, w_C, w_op2, w_asB, w_op3, w_and, w_or, w_not, w_test, w_bAnd, w_bOr, w_bNot, w_if, w_lif, w_tup, w_lst, w_alloc, w_vL, w_call, w_aNil, w_aCons, w_lCall, w_append, w_nil, w_lnil, w_seq, w_next, w_ret, w_set, w_expr, w_sif, w_sub, w_unp, w_fn1, w_fn2, w_fn3, w_fn4, w_fn5, w_join, w_vSrc, w_aSrc, w_lSrc, w_catLL, w_catOL, w_repL, w_sortV, w_asI, w_slE0, w_slE1, w_sl, q_srcT, q_srcS, q_srcR, q_zipT, q_slT, w_lc, w_forS, Int.toNat_natCast, v_0, v_S, List.replicate_succ, List.replicate_zero, Nat.reduceSub, List.getElem?_cons_zero, List.getElem?_cons_succ, List.set_cons_zero, List.set_cons_succ, if_true, if_false, Bool.false_eq_true, Bool.not_true, Bool.not_false, q_add, q_addT, q_addS, q_sub, q_eq, q_eqS, q_eqB, q_ne, q_neS, q_neB, q_lt, q_ltS, q_le, q_gt, q_ge, q_in1, q_nin1, q_isN, q_isnN, q_isB, q_isnB, q_isiI0, q_isiI1, q_isiI2, q_isiI3, q_isiI4, q_isiI5, q_isiB0, q_isiB1, q_isiB2, q_isiB3, q_isiB4, q_isiB5, q_isiS0, q_isiS1, q_isiS2, q_isiS3, q_isiS4, q_isiS5, q_isiT0, q_isiT1, q_isiT2, q_isiT3, q_isiT4, q_isiT5, q_isiR0, q_isiR1, q_isiR2, q_isiR3, q_isiR4, q_isiR5, q_isiN0, q_isiN1, q_isiN2, q_isiN3, q_isiN4, q_isiN5, q_lenS, q_lenT, q_lenR, q_min2, q_max2, q_strS, q_tupP, ix_0, ix_1, ix_2, ix_3, List.length_cons, List.length_nil, lim_0, lim_1, lim_2, lim_3, lim_4, lim_5, lim_6, lim_7, lim_8, lim_9, lim_10, lim_11, lim_12, lim_13, lim_14, lim_15, lim_16, lim_17, lim_18, lim_19, lim_20, lim_21, lim_22, lim_23, Nat.reduceAdd, Nat.reduceLeDiff, decide_true, decide_false, List.cons.injEq, reduceCtorEq, and_false, false_and, and_true, true_and, Nat.reduceEqDiff, Int.reduceLE, Int.reduceEq, Int.reduceLT, s_only hb]
    cases d <;> simp only [onlyD, w_bind, w_noX, w_ok, w_C, w_op2, w_asB, w_op3, w_and, w_or, w_not, w_test, w_bAnd, w_bOr, w_bNot, w_if, w_lif, w_tup, w_lst, w_alloc, w_vL, w_call, w_aNil, w_aCons, w_lCall, w_append, w_nil, w_lnil, w_seq, w_next, w_ret, w_set, w_expr, w_sif, w_sub, w_unp, w_fn1, w_fn2, w_fn3, w_fn4, w_fn5, w_join, w_vSrc, w_aSrc, w_lSrc, w_catLL, w_catOL, w_repL, w_sortV, w_asI, w_slE0, w_slE1, w_sl, q_srcT, q_srcS, q_srcR, q_zipT, q_slT, w_lc, w_forS, Int.toNat_natCast, v_0, v_S, List.replicate_succ, List.replicate_zero, Nat.reduceSub, List.getElem?_cons_zero, List.getElem?_cons_succ, List.set_cons_zero, List.set_cons_succ, if_true, if_false, Bool.false_eq_true, Bool.not_true, Bool.not_false, q_add, q_addT, q_addS, q_sub, q_eq, q_eqS, q_eqB, q_ne, q_neS, q_neB, q_lt, q_ltS, q_le, q_gt, q_ge, q_in1, q_nin1, q_isN, q_isnN, q_isB, q_isnB, q_isiI0, q_isiI1, q_isiI2, q_isiI3, q_isiI4, q_isiI5, q_isiB0, q_isiB1, q_isiB2, q_isiB3, q_isiB4, q_isiB5, q_isiS0, q_isiS1, q_isiS2, q_isiS3, q_isiS4, q_isiS5, q_isiT0, q_isiT1, q_isiT2, q_isiT3, q_isiT4, q_isiT5, q_isiR0, q_isiR1, q_isiR2, q_isiR3, q_isiR4, q_isiR5, q_isiN0, q_isiN1, q_isiN2, q_isiN3, q_isiN4, q_isiN5, q_lenS, q_lenT, q_lenR, q_min2, q_max2, q_strS, q_tupP, ix_0, ix_1, ix_2, ix_3, SF.val, and_self]
    rename_i s
    by_cases o : only' s cDig = true
    case neg =>
      rw [Bool.not_eq_true] at o
      simp only [o, w_bind, w_noX, w_ok, w_C, w_op2, w_asB, w_op3, w_and, w_or, w_not, w_test, w_bAnd, w_bOr, w_bNot, w_if, w_lif, w_tup, w_lst, w_alloc, w_vL, w_call, w_aNil, w_aCons, w_lCall, w_append, w_nil, w_lnil, w_seq, w_next, w_ret, w_set, w_expr, w_sif, w_sub, w_unp, w_fn1, w_fn2, w_fn3, w_fn4, w_fn5, w_join, w_vSrc, w_aSrc, w_lSrc, w_catLL, w_catOL, w_repL, w_sortV, w_asI, w_slE0, w_slE1, w_sl, q_srcT, q_srcS, q_srcR, q_zipT, q_slT, w_lc, w_forS, Int.toNat_natCast, v_0, v_S, List.replicate_succ, List.replicate_zero, Nat.reduceSub, List.getElem?_cons_zero, List.getElem?_cons_succ, List.set_cons_zero, List.set_cons_succ, if_true, if_false, Bool.false_eq_true, Bool.not_true, Bool.not_false, q_add, q_addT, q_addS, q_sub, q_eq, q_eqS, q_eqB, q_ne, q_neS, q_neB, q_lt, q_ltS, q_le, q_gt, q_ge, q_in1, q_nin1, q_isN, q_isnN, q_isB, q_isnB, q_isiI0, q_isiI1, q_isiI2, q_isiI3, q_isiI4, q_isiI5, q_isiB0, q_isiB1, q_isiB2, q_isiB3, q_isiB4, q_isiB5, q_isiS0, q_isiS1, q_isiS2, q_isiS3, q_isiS4, q_isiS5, q_isiT0, q_isiT1, q_isiT2, q_isiT3, q_isiT4, q_isiT5, q_isiR0, q_isiR1, q_isiR2, q_isiR3, q_isiR4, q_isiR5, q_isiN0, q_isiN1, q_isiN2, q_isiN3, q_isiN4, q_isiN5, q_lenS, q_lenT, q_lenR, q_min2, q_max2, q_strS, q_tupP, ix_0, ix_1, ix_2, ix_3, Bool.false_and, and_self]
    case pos =>
      simp only [o, w_bind, w_noX, w_ok, w_C, w_op2, w_asB, w_op3, w_and, w_or, w_not, w_test, w_bAnd, w_bOr, w_bNot, w_if, w_lif, w_tup, w_lst, w_alloc, w_vL, w_call, w_aNil, w_aCons, w_lCall, w_append, w_nil, w_lnil, w_seq, w_next, w_ret, w_set, w_expr, w_sif, w_sub, w_unp, w_fn1, w_fn2, w_fn3, w_fn4, w_fn5, w_join, w_vSrc, w_aSrc, w_lSrc, w_catLL, w_catOL, w_repL, w_sortV, w_asI, w_slE0, w_slE1, w_sl, q_srcT, q_srcS, q_srcR, q_zipT, q_slT, w_lc, w_forS, Int.toNat_natCast, v_0, v_S, List.replicate_succ, List.replicate_zero, Nat.reduceSub, List.getElem?_cons_zero, List.getElem?_cons_succ, List.set_cons_zero, List.set_cons_succ, if_true, if_false, Bool.false_eq_true, Bool.not_true, Bool.not_false, q_add, q_addT, q_addS, q_sub, q_eq, q_eqS, q_eqB, q_ne, q_neS, q_neB, q_lt, q_ltS, q_le, q_gt, q_ge, q_in1, q_nin1, q_isN, q_isnN, q_isB, q_isnB, q_isiI0, q_isiI1, q_isiI2, q_isiI3, q_isiI4, q_isiI5, q_isiB0, q_isiB1, q_isiB2, q_isiB3, q_isiB4, q_isiB5, q_isiS0, q_isiS1, q_isiS2, q_isiS3, q_isiS4, q_isiS5, q_isiT0, q_isiT1, q_isiT2, q_isiT3, q_isiT4, q_isiT5, q_isiR0, q_isiR1, q_isiR2, q_isiR3, q_isiR4, q_isiR5, q_isiN0, q_isiN1, q_isiN2, q_isiN3, q_isiN4, q_isiN5, q_lenS, q_lenT, q_lenR, q_min2, q_max2, q_strS, q_tupP, ix_0, ix_1, ix_2, ix_3, lenV_str hb, cast_le]
      by_cases c : lo ≤ s.length <;> simp only [c, decide_true, decide_false, w_bind, w_noX, w_ok, w_C, w_op2, w_asB, w_op3, w_and, w_or, w_not, w_test, w_bAnd, w_bOr, w_bNot, w_if, w_lif, w_tup, w_lst, w_alloc, w_vL, w_call, w_aNil, w_aCons, w_lCall, w_append, w_nil, w_lnil, w_seq, w_next, w_ret, w_set, w_expr, w_sif, w_sub, w_unp, w_fn1, w_fn2, w_fn3, w_fn4, w_fn5, w_join, w_vSrc, w_aSrc, w_lSrc, w_catLL, w_catOL, w_repL, w_sortV, w_asI, w_slE0, w_slE1, w_sl, q_srcT, q_srcS, q_srcR, q_zipT, q_slT, w_lc, w_forS, Int.toNat_natCast, v_0, v_S, List.replicate_succ, List.replicate_zero, Nat.reduceSub, List.getElem?_cons_zero, List.getElem?_cons_succ, List.set_cons_zero, List.set_cons_succ, if_true, if_false, Bool.false_eq_true, Bool.not_true, Bool.not_false, q_add, q_addT, q_addS, q_sub, q_eq, q_eqS, q_eqB, q_ne, q_neS, q_neB, q_lt, q_ltS, q_le, q_gt, q_ge, q_in1, q_nin1, q_isN, q_isnN, q_isB, q_isnB, q_isiI0, q_isiI1, q_isiI2, q_isiI3, q_isiI4, q_isiI5, q_isiB0, q_isiB1, q_isiB2, q_isiB3, q_isiB4, q_isiB5, q_isiS0, q_isiS1, q_isiS2, q_isiS3, q_isiS4, q_isiS5, q_isiT0, q_isiT1, q_isiT2, q_isiT3, q_isiT4, q_isiT5, q_isiR0, q_isiR1, q_isiR2, q_isiR3, q_isiR4, q_isiR5, q_isiN0, q_isiN1, q_isiN2, q_isiN3, q_isiN4, q_isiN5, q_lenS, q_lenT, q_lenR, q_min2, q_max2, q_strS, q_tupP, ix_0, ix_1, ix_2, ix_3, cast_le, Bool.true_and, Bool.false_and, and_self]
  | letters lo hi =>
    simp only [SF.d, w_bind, w_noX, w_ok, w_C, w_op2, w_asB, w_op3, w_and, w_or, w_not, w_test, w_bAnd, w_bOr, w_bNot, w_if, w_lif, w_tup, w_lst, w_alloc, w_vL, w_call, w_aNil, w_aCons, w_lCall, w_append, w_nil, w_lnil, w_seq, w_next, w_ret, w_set, w_expr, w_sif, w_sub, w_unp, w_fn1, w_fn2, w_fn3, w_fn4, w_fn5, w_join, w_vSrc, w_aSrc, w_lSrc, w_catLL, w_catOL, w_repL, w_sortV, w_asI, w_slE0, w_slE1, w_sl, q_srcT, q_srcS, q_srcR, q_zipT, q_slT, w_lc, w_forS, Int.toNat_natCast, v_0, v_S, List.replicate_succ, List.replicate_zero, Nat.reduceSub, List.getElem?_cons_zero, List.getElem?_cons_succ, List.set_cons_zero, List.set_cons_succ, if_true, if_false, Bool.false_eq_true, Bool.not_true, Bool.not_false, q_add, q_addT, q_addS, q_sub, q_eq, q_eqS, q_eqB, q_ne, q_neS, q_neB, q_lt, q_ltS, q_le, q_gt, q_ge, q_in1, q_nin1, q_isN, q_isnN, q_isB, q_isnB, q_isiI0, q_isiI1, q_isiI2, q_isiI3, q_isiI4, q_isiI5, q_isiB0, q_isiB1, q_isiB2, q_isiB3, q_isiB4, q_isiB5, q_isiS0, q_isiS1, q_isiS2, q_isiS3, q_isiS4, q_isiS5, q_isiT0, q_isiT1, q_isiT2, q_isiT3, q_isiT4, q_isiT5, q_isiR0, q_isiR1, q_isiR2, q_isiR3, q_isiR4, q_isiR5, q_isiN0, q_isiN1, q_isiN2, q_isiN3, q_isiN4, q_isiN5, q_lenS, q_lenT, q_lenR, q_min2, q_max2, q_strS, q_tupP, ix_0, ix_1, ix_2, ix_3, List.length_cons, List.length_nil, lim_0, lim_1, lim_2, lim_3, lim_4, lim_5, lim_6, lim_7, lim_8, lim_9, lim_10, lim_11, lim_12, lim_13, lim_14, lim_15, lim_16, lim_17, lim_18, lim_19, lim_20, lim_21, lim_22, lim_23, Nat.reduceAdd, Nat.reduceLeDiff, decide_true, decide_false, List.cons.injEq, reduceCtorEq, and_false, false_and, and_true, true_and, Nat.reduceEqDiff, Int.reduceLE, Int.reduceEq, Int.reduceLT, s_only hb]
    cases d <;> simp only [onlyD, w_bind, w_noX, w_ok, w_C, w_op2, w_asB, w_op3, w_and, w_or, w_not, w_test, w_bAnd, w_bOr, w_bNot, w_if, w_lif, w_tup, w_lst, w_alloc, w_vL, w_call, w_aNil, w_aCons, w_lCall, w_append, w_nil, w_lnil, w_seq, w_next, w_ret, w_set, w_expr, w_sif, w_sub, w_unp, w_fn1, w_fn2, w_fn3, w_fn4, w_fn5, w_join, w_vSrc, w_aSrc, w_lSrc, w_catLL, w_catOL, w_repL, w_sortV, w_asI, w_slE0, w_slE1, w_sl, q_srcT, q_srcS, q_srcR, q_zipT, q_slT, w_lc, w_forS, Int.toNat_natCast, v_0, v_S, List.replicate_succ, List.replicate_zero, Nat.reduceSub, List.getElem?_cons_zero, List.getElem?_cons_succ, List.set_cons_zero, List.set_cons_succ, if_true, if_false, Bool.false_eq_true, Bool.not_true, Bool.not_false, q_add, q_addT, q_addS, q_sub, q_eq, q_eqS, q_eqB, q_ne, q_neS, q_neB, q_lt, q_ltS, q_le, q_gt, q_ge, q_in1, q_nin1, q_isN, q_isnN, q_isB, q_isnB, q_isiI0, q_isiI1, q_isiI2, q_isiI3, q_isiI4, q_isiI5, q_isiB0, q_isiB1, q_isiB2, q_isiB3, q_isiB4, q_isiB5, q_isiS0, q_isiS1, q_isiS2, q_isiS3, q_isiS4, q_isiS5, q_isiT0, q_isiT1, q_isiT2, q_isiT3, q_isiT4, q_isiT5, q_isiR0, q_isiR1, q_isiR2, q_isiR3, q_isiR4, q_isiR5, q_isiN0, q_isiN1, q_isiN2, q_isiN3, q_isiN4, q_isiN5, q_lenS, q_lenT, q_lenR, q_min2, q_max2, q_strS, q_tupP, ix_0, ix_1, ix_2, ix_3, SF.val, and_self]
    rename_i s
    by_cases o : only' s cLet = true
    case neg =>
      rw [Bool.not_eq_true] at o
      simp only [o, w_bind, w_noX, w_ok, w_C, w_op2, w_asB, w_op3, w_and, w_or, w_not, w_test, w_bAnd, w_bOr, w_bNot, w_if, w_lif, w_tup, w_lst, w_alloc, w_vL, w_call, w_aNil, w_aCons, w_lCall, w_append, w_nil, w_lnil, w_seq, w_next, w_ret, w_set, w_expr, w_sif, w_sub, w_unp, w_fn1, w_fn2, w_fn3, w_fn4, w_fn5, w_join, w_vSrc, w_aSrc, w_lSrc, w_catLL, w_catOL, w_repL, w_sortV, w_asI, w_slE0, w_slE1, w_sl, q_srcT, q_srcS, q_srcR, q_zipT, q_slT, w_lc, w_forS, Int.toNat_natCast, v_0, v_S, List.replicate_succ, List.replicate_zero, Nat.reduceSub, List.getElem?_cons_zero, List.getElem?_cons_succ, List.set_cons_zero, List.set_cons_succ, if_true, if_false, Bool.false_eq_true, Bool.not_true, Bool.not_false, q_add, q_addT, q_addS, q_sub, q_eq, q_eqS, q_eqB, q_ne, q_neS, q_neB, q_lt, q_ltS, q_le, q_gt, q_ge, q_in1, q_nin1, q_isN, q_isnN, q_isB, q_isnB, q_isiI0, q_isiI1, q_isiI2, q_isiI3, q_isiI4, q_isiI5, q_isiB0, q_isiB1, q_isiB2, q_isiB3, q_isiB4, q_isiB5, q_isiS0, q_isiS1, q_isiS2, q_isiS3, q_isiS4, q_isiS5, q_isiT0, q_isiT1, q_isiT2, q_isiT3, q_isiT4, q_isiT5, q_isiR0, q_isiR1, q_isiR2, q_isiR3, q_isiR4, q_isiR5, q_isiN0, q_isiN1, q_isiN2, q_isiN3, q_isiN4, q_isiN5, q_lenS, q_lenT, q_lenR, q_min2, q_max2, q_strS, q_tupP, ix_0, ix_1, ix_2, ix_3, Bool.false_and, and_self]
    case pos =>
      simp only [o, w_bind, w_noX, w_ok, w_C, w_op2, w_asB, w_op3, w_and, w_or, w_not, w_test, w_bAnd, w_bOr, w_bNot, w_if, w_lif, w_tup, w_lst, w_alloc, w_vL, w_call, w_aNil, w_aCons, w_lCall, w_append, w_nil, w_lnil, w_seq, w_next, w_ret, w_set, w_expr, w_sif, w_sub, w_unp, w_fn1, w_fn2, w_fn3, w_fn4, w_fn5, w_join, w_vSrc, w_aSrc, w_lSrc, w_catLL, w_catOL, w_repL, w_sortV, w_asI, w_slE0, w_slE1, w_sl, q_srcT, q_srcS, q_srcR, q_zipT, q_slT, w_lc, w_forS, Int.toNat_natCast, v_0, v_S, List.replicate_succ, List.replicate_zero, Nat.reduceSub, List.getElem?_cons_zero, List.getElem?_cons_succ, List.set_cons_zero, List.set_cons_succ, if_true, if_false, Bool.false_eq_true, Bool.not_true, Bool.not_false, q_add, q_addT, q_addS, q_sub, q_eq, q_eqS, q_eqB, q_ne, q_neS, q_neB, q_lt, q_ltS, q_le, q_gt, q_ge, q_in1, q_nin1, q_isN, q_isnN, q_isB, q_isnB, q_isiI0, q_isiI1, q_isiI2, q_isiI3, q_isiI4, q_isiI5, q_isiB0, q_isiB1, q_isiB2, q_isiB3, q_isiB4, q_isiB5, q_isiS0, q_isiS1, q_isiS2, q_isiS3, q_isiS4, q_isiS5, q_isiT0, q_isiT1, q_isiT2, q_isiT3, q_isiT4, q_isiT5, q_isiR0, q_isiR1, q_isiR2, q_isiR3, q_isiR4, q_isiR5, q_isiN0, q_isiN1, q_isiN2, q_isiN3, q_isiN4, q_isiN5, q_lenS, q_lenT, q_lenR, q_min2, q_max2, q_strS, q_tupP, ix_0, ix_1, ix_2, ix_3, lenV_str hb, cast_le]
      by_cases c : lo ≤ s.length <;> simp only [c, decide_true, decide_false, w_bind, w_noX, w_ok, w_C, w_op2, w_asB, w_op3, w_and, w_or, w_not, w_test, w_bAnd, w_bOr, w_bNot, w_if, w_lif, w_tup, w_lst, w_alloc, w_vL, w_call, w_aNil, w_aCons, w_lCall, w_append, w_nil, w_lnil, w_seq, w_next, w_ret, w_set, w_expr, w_sif, w_sub, w_unp, w_fn1, w_fn2, w_fn3, w_fn4, w_fn5, w_join, w_vSrc, w_aSrc, w_lSrc, w_catLL, w_catOL, w_repL, w_sortV, w_asI, w_slE0, w_slE1, w_sl, q_srcT, q_srcS, q_srcR, q_zipT, q_slT, w_lc, w_forS, Int.toNat_natCast, v_0, v_S, List.replicate_succ, List.replicate_zero, Nat.reduceSub, List.getElem?_cons_zero, List.getElem?_cons_succ, List.set_cons_zero, List.set_cons_succ, if_true, if_false, Bool.false_eq_true, Bool.not_true, Bool.not_false, q_add, q_addT, q_addS, q_sub, q_eq, q_eqS, q_eqB, q_ne, q_neS, q_neB, q_lt, q_ltS, q_le, q_gt, q_ge, q_in1, q_nin1, q_isN, q_isnN, q_isB, q_isnB, q_isiI0, q_isiI1, q_isiI2, q_isiI3, q_isiI4, q_isiI5, q_isiB0, q_isiB1, q_isiB2, q_isiB3, q_isiB4, q_isiB5, q_isiS0, q_isiS1, q_isiS2, q_isiS3, q_isiS4, q_isiS5, q_isiT0, q_isiT1, q_isiT2, q_isiT3, q_isiT4, q_isiT5, q_isiR0, q_isiR1, q_isiR2, q_isiR3, q_isiR4, q_isiR5, q_isiN0, q_isiN1, q_isiN2, q_isiN3, q_isiN4, q_isiN5, q_lenS, q_lenT, q_lenR, q_min2, q_max2, q_strS, q_tupP, ix_0, ix_1, ix_2, ix_3, cast_le, Bool.true_and, Bool.false_and, and_self])
theorem s_isval {f : FF} (fo : f.Ok) (hb : Flat h d) : run (k + 3) I_is_value [f.d, d] h = .ok (.bl (f.val d)) h := by
  cases f with
  | one s => exact s_isvalS fo hb.1
  | rep s lo hi =>
    refine Ok.eq ?_
    obtain ⟨f0, f1, f2, f3⟩ := fo
    rw [e_is_value]
    unfold m_is_value
    simp only [FF.d, w_bind, w_noX, w_ok, w_C, w_op2, w_asB, w_op3, w_and, w_or, w_not, w_test, w_bAnd, w_bOr, w_bNot, w_if, w_lif, w_tup, w_lst, w_alloc, w_vL, w_call, w_aNil, w_aCons, w_lCall, w_append, w_nil, w_lnil, w_seq, w_next, w_ret, w_set, w_expr, w_sif, w_sub, w_unp, w_fn1, w_fn2, w_fn3, w_fn4, w_fn5, w_join, w_vSrc, w_aSrc, w_lSrc, w_catLL, w_catOL, w_repL, w_sortV, w_asI, w_slE0, w_slE1, w_sl, q_srcT, q_srcS, q_srcR, q_zipT, q_slT, w_lc, w_forS, Int.toNat_natCast, v_0, v_S, List.replicate_succ, List.replicate_zero, Nat.reduceSub, List.getElem?_cons_zero, List.getElem?_cons_succ, List.set_cons_zero, List.set_cons_succ, if_true, if_false, Bool.false_eq_true, Bool.not_true, Bool.not_false, q_add, q_addT, q_addS, q_sub, q_eq, q_eqS, q_eqB, q_ne, q_neS, q_neB, q_lt, q_ltS, q_le, q_gt, q_ge, q_in1, q_nin1, q_isN, q_isnN, q_isB, q_isnB, q_isiI0, q_isiI1, q_isiI2, q_isiI3, q_isiI4, q_isiI5, q_isiB0, q_isiB1, q_isiB2, q_isiB3, q_isiB4, q_isiB5, q_isiS0, q_isiS1, q_isiS2, q_isiS3, q_isiS4, q_isiS5, q_isiT0, q_isiT1, q_isiT2, q_isiT3, q_isiT4, q_isiT5, q_isiR0, q_isiR1, q_isiR2, q_isiR3, q_isiR4, q_isiR5, q_isiN0, q_isiN1, q_isiN2, q_isiN3, q_isiN4, q_isiN5, q_lenS, q_lenT, q_lenR, q_min2, q_max2, q_strS, q_tupP, ix_0, ix_1, ix_2, ix_3, List.length_cons, List.length_nil, lim_0, lim_1, lim_2, lim_3, lim_4, lim_5, lim_6, lim_7, lim_8, lim_9, lim_10, lim_11, lim_12, lim_13, lim_14, lim_15, lim_16, lim_17, lim_18, lim_19, lim_20, lim_21, lim_22, lim_23, Nat.reduceAdd, Nat.reduceLeDiff, decide_true, decide_false, List.cons.injEq, reduceCtorEq, and_false, false_and, and_true, true_and, Nat.reduceEqDiff, Int.reduceLE, Int.reduceEq, Int.reduceLT, isi_tup hb.1]
    cases d <;> simp only [isTup, w_bind, w_noX, w_ok, w_C, w_op2, w_asB, w_op3, w_and, w_or, w_not, w_test, w_bAnd, w_bOr, w_bNot, w_if, w_lif, w_tup, w_lst, w_alloc, w_vL, w_call, w_aNil, w_aCons, w_lCall, w_append, w_nil, w_lnil, w_seq, w_next, w_ret, w_set, w_expr, w_sif, w_sub, w_unp, w_fn1, w_fn2, w_fn3, w_fn4, w_fn5, w_join, w_vSrc, w_aSrc, w_lSrc, w_catLL, w_catOL, w_repL, w_sortV, w_asI, w_slE0, w_slE1, w_sl, q_srcT, q_srcS, q_srcR, q_zipT, q_slT, w_lc, w_forS, Int.toNat_natCast, v_0, v_S, List.replicate_succ, List.replicate_zero, Nat.reduceSub, List.getElem?_cons_zero, List.getElem?_cons_succ, List.set_cons_zero, List.set_cons_succ, if_true, if_false, Bool.false_eq_true, Bool.not_true, Bool.not_false, q_add, q_addT, q_addS, q_sub, q_eq, q_eqS, q_eqB, q_ne, q_neS, q_neB, q_lt, q_ltS, q_le, q_gt, q_ge, q_in1, q_nin1, q_isN, q_isnN, q_isB, q_isnB, q_isiI0, q_isiI1, q_isiI2, q_isiI3, q_isiI4, q_isiI5, q_isiB0, q_isiB1, q_isiB2, q_isiB3, q_isiB4, q_isiB5, q_isiS0, q_isiS1, q_isiS2, q_isiS3, q_isiS4, q_isiS5, q_isiT0, q_isiT1, q_isiT2, q_isiT3, q_isiT4, q_isiT5, q_isiR0, q_isiR1, q_isiR2, q_isiR3, q_isiR4, q_isiR5, q_isiN0, q_isiN1, q_isiN2, q_isiN3, q_isiN4, q_isiN5, q_lenS, q_lenT, q_lenR, q_min2, q_max2, q_strS, q_tupP, ix_0, ix_1, ix_2, ix_3, FF.val, and_self]
    rename_i ds
    have hl := hb.1.2.2 ds rfl
    simp only [cast_le]
    by_cases c : lo ≤ ds.length <;> simp only [c, decide_true, decide_false, w_bind, w_noX, w_ok, w_C, w_op2, w_asB, w_op3, w_and, w_or, w_not, w_test, w_bAnd, w_bOr, w_bNot, w_if, w_lif, w_tup, w_lst, w_alloc, w_vL, w_call, w_aNil, w_aCons, w_lCall, w_append, w_nil, w_lnil, w_seq, w_next, w_ret, w_set, w_expr, w_sif, w_sub, w_unp, w_fn1, w_fn2, w_fn3, w_fn4, w_fn5, w_join, w_vSrc, w_aSrc, w_lSrc, w_catLL, w_catOL, w_repL, w_sortV, w_asI, w_slE0, w_slE1, w_sl, q_srcT, q_srcS, q_srcR, q_zipT, q_slT, w_lc, w_forS, Int.toNat_natCast, v_0, v_S, List.replicate_succ, List.replicate_zero, Nat.reduceSub, List.getElem?_cons_zero, List.getElem?_cons_succ, List.set_cons_zero, List.set_cons_succ, if_true, if_false, Bool.false_eq_true, Bool.not_true, Bool.not_false, q_add, q_addT, q_addS, q_sub, q_eq, q_eqS, q_eqB, q_ne, q_neS, q_neB, q_lt, q_ltS, q_le, q_gt, q_ge, q_in1, q_nin1, q_isN, q_isnN, q_isB, q_isnB, q_isiI0, q_isiI1, q_isiI2, q_isiI3, q_isiI4, q_isiI5, q_isiB0, q_isiB1, q_isiB2, q_isiB3, q_isiB4, q_isiB5, q_isiS0, q_isiS1, q_isiS2, q_isiS3, q_isiS4, q_isiS5, q_isiT0, q_isiT1, q_isiT2, q_isiT3, q_isiT4, q_isiT5, q_isiR0, q_isiR1, q_isiR2, q_isiR3, q_isiR4, q_isiR5, q_isiN0, q_isiN1, q_isiN2, q_isiN3, q_isiN4, q_isiN5, q_lenS, q_lenT, q_lenR, q_min2, q_max2, q_strS, q_tupP, ix_0, ix_1, ix_2, ix_3, cast_le, Bool.true_and, Bool.false_and, and_self]
    by_cases c2 : ds.length ≤ hi <;> simp only [c2, decide_true, decide_false, w_bind, w_noX, w_ok, w_C, w_op2, w_asB, w_op3, w_and, w_or, w_not, w_test, w_bAnd, w_bOr, w_bNot, w_if, w_lif, w_tup, w_lst, w_alloc, w_vL, w_call, w_aNil, w_aCons, w_lCall, w_append, w_nil, w_lnil, w_seq, w_next, w_ret, w_set, w_expr, w_sif, w_sub, w_unp, w_fn1, w_fn2, w_fn3, w_fn4, w_fn5, w_join, w_vSrc, w_aSrc, w_lSrc, w_catLL, w_catOL, w_repL, w_sortV, w_asI, w_slE0, w_slE1, w_sl, q_srcT, q_srcS, q_srcR, q_zipT, q_slT, w_lc, w_forS, Int.toNat_natCast, v_0, v_S, List.replicate_succ, List.replicate_zero, Nat.reduceSub, List.getElem?_cons_zero, List.getElem?_cons_succ, List.set_cons_zero, List.set_cons_succ, if_true, if_false, Bool.false_eq_true, Bool.not_true, Bool.not_false, q_add, q_addT, q_addS, q_sub, q_eq, q_eqS, q_eqB, q_ne, q_neS, q_neB, q_lt, q_ltS, q_le, q_gt, q_ge, q_in1, q_nin1, q_isN, q_isnN, q_isB, q_isnB, q_isiI0, q_isiI1, q_isiI2, q_isiI3, q_isiI4, q_isiI5, q_isiB0, q_isiB1, q_isiB2, q_isiB3, q_isiB4, q_isiB5, q_isiS0, q_isiS1, q_isiS2, q_isiS3, q_isiS4, q_isiS5, q_isiT0, q_isiT1, q_isiT2, q_isiT3, q_isiT4, q_isiT5, q_isiR0, q_isiR1, q_isiR2, q_isiR3, q_isiR4, q_isiR5, q_isiN0, q_isiN1, q_isiN2, q_isiN3, q_isiN4, q_isiN5, q_lenS, q_lenT, q_lenR, q_min2, q_max2, q_strS, q_tupP, ix_0, ix_1, ix_2, ix_3, cast_le, Bool.true_and, Bool.false_and, and_self]
    rw [w_lcI (by simp only [LIM]; omega)]
    simp only [wipeE, w_bind, w_noX, w_ok, w_C, w_op2, w_asB, w_op3, w_and, w_or, w_not, w_test, w_bAnd, w_bOr, w_bNot, w_if, w_lif, w_tup, w_lst, w_alloc, w_vL, w_call, w_aNil, w_aCons, w_lCall, w_append, w_nil, w_lnil, w_seq, w_next, w_ret, w_set, w_expr, w_sif, w_sub, w_unp, w_fn1, w_fn2, w_fn3, w_fn4, w_fn5, w_join, w_vSrc, w_aSrc, w_lSrc, w_catLL, w_catOL, w_repL, w_sortV, w_asI, w_slE0, w_slE1, w_sl, q_srcT, q_srcS, q_srcR, q_zipT, q_slT, w_lc, w_forS, Int.toNat_natCast, v_0, v_S, List.replicate_succ, List.replicate_zero, Nat.reduceSub, List.getElem?_cons_zero, List.getElem?_cons_succ, List.set_cons_zero, List.set_cons_succ, if_true, if_false, Bool.false_eq_true, Bool.not_true, Bool.not_false, q_add, q_addT, q_addS, q_sub, q_eq, q_eqS, q_eqB, q_ne, q_neS, q_neB, q_lt, q_ltS, q_le, q_gt, q_ge, q_in1, q_nin1, q_isN, q_isnN, q_isB, q_isnB, q_isiI0, q_isiI1, q_isiI2, q_isiI3, q_isiI4, q_isiI5, q_isiB0, q_isiB1, q_isiB2, q_isiB3, q_isiB4, q_isiB5, q_isiS0, q_isiS1, q_isiS2, q_isiS3, q_isiS4, q_isiS5, q_isiT0, q_isiT1, q_isiT2, q_isiT3, q_isiT4, q_isiT5, q_isiR0, q_isiR1, q_isiR2, q_isiR3, q_isiR4, q_isiR5, q_isiN0, q_isiN1, q_isiN2, q_isiN3, q_isiN4, q_isiN5, q_lenS, q_lenT, q_lenR, q_min2, q_max2, q_strS, q_tupP, ix_0, ix_1, ix_2, ix_3]
    have := lcL_map (elt := vCall (run (k + 2) I_is_value) (aCons (op2 ixM (vVar 0) (vC (.int 1))) (aCons (vVar 2) aNil))) (env := [some (D.tup [.str kRepeat, s.d, .int lo, .int hi]), some (.tup ds), none]) (i := 2) (h := h) (xs := ds) (c := fun x => x) (fun x => .bl (s.val x)) fun x hx => Ok.eq (by simp only [w_bind, w_noX, w_ok, w_C, w_op2, w_asB, w_op3, w_and, w_or, w_not, w_test, w_bAnd, w_bOr, w_bNot, w_if, w_lif, w_tup, w_lst, w_alloc, w_vL, w_call, w_aNil, w_aCons, w_lCall, w_append, w_nil, w_lnil, w_seq, w_next, w_ret, w_set, w_expr, w_sif, w_sub, w_unp, w_fn1, w_fn2, w_fn3, w_fn4, w_fn5, w_join, w_vSrc, w_aSrc, w_lSrc, w_catLL, w_catOL, w_repL, w_sortV, w_asI, w_slE0, w_slE1, w_sl, q_srcT, q_srcS, q_srcR, q_zipT, q_slT, w_lc, w_forS, Int.toNat_natCast, v_0, v_S, List.replicate_succ, List.replicate_zero, Nat.reduceSub, List.getElem?_cons_zero, List.getElem?_cons_succ, List.set_cons_zero, List.set_cons_succ, if_true, if_false, Bool.false_eq_true, Bool.not_true, Bool.not_false, q_add, q_addT, q_addS, q_sub, q_eq, q_eqS, q_eqB, q_ne, q_neS, q_neB, q_lt, q_ltS, q_le, q_gt, q_ge, q_in1, q_nin1, q_isN, q_isnN, q_isB, q_isnB, q_isiI0, q_isiI1, q_isiI2, q_isiI3, q_isiI4, q_isiI5, q_isiB0, q_isiB1, q_isiB2, q_isiB3, q_isiB4, q_isiB5, q_isiS0, q_isiS1, q_isiS2, q_isiS3, q_isiS4, q_isiS5, q_isiT0, q_isiT1, q_isiT2, q_isiT3, q_isiT4, q_isiT5, q_isiR0, q_isiR1, q_isiR2, q_isiR3, q_isiR4, q_isiR5, q_isiN0, q_isiN1, q_isiN2, q_isiN3, q_isiN4, q_isiN5, q_lenS, q_lenT, q_lenR, q_min2, q_max2, q_strS, q_tupP, ix_0, ix_1, ix_2, ix_3, s_isvalS f0 (hb.2 ds rfl x hx), and_self])
    rw [List.map_id'] at this
    rw [this, w_ok, all_map, w_ok]
    exact ⟨rfl, rfl⟩
theorem zip_map : ∀ {fs : List FF} {ds : List D}, zipD (fs.map FF.d) ds = (fs.zip ds).map fun p => .tup [p.1.d, p.2]
  | [], _ => by simp [zipD]
  | f :: fs, [] => by simp [zipD]
  | f :: fs, d :: ds => by simp [zipD, zip_map]
theorem vals_zip : ∀ {fs : List FF} {ds : List D}, ds.length = fs.length → ((fs.zip ds).all fun p => p.1.val p.2) = vals fs ds
  | [], [], _ => rfl
  | [], d :: ds, h => by simp at h
  | f :: fs, [], h => by simp at h
  | f :: fs, d :: ds, h => by simp [vals, vals_zip (fs := fs) (ds := ds) (by simpa using h)]
theorem vals_ne : ∀ {fs : List FF} {ds : List D}, ds.length ≠ fs.length → vals fs ds = false
  | [], [], h => by simp at h
  | [], d :: ds, _ => rfl
  | f :: fs, [], _ => rfl
  | f :: fs, d :: ds, h => by simp [vals, vals_ne (fs := fs) (ds := ds) (by simpa using h)]
theorem lcL_mapP {xs : List (FF × D)} {test : E Bool} {elt : E D} {env : Ev} {i j : Nat} (g : FF × D → D) (he : ∀ x ∈ xs, elt ((env.set i (some x.1.d)).set j (some x.2)) h = .ok (g x) h) : lcL (.tp [i, j]) bTrue elt env (xs.map fun p => .tup [p.1.d, p.2]) h = .ok (xs.map g) h := by
  induction xs with
  | nil => rfl
  | cons x xs ih =>
    have h1 := he x (List.mem_cons_self ..)
    have h2 := ih fun y hy => he y (List.mem_cons_of_mem _ hy)
    simp only [List.map_cons]
    unfold lcL
    simp only [tgM, setAll, bTrue, R.noX, R.bind, if_true, h1, h2]
def Good (h : MH) (d : D) : Prop := Bas h d ∧ ∀ ds, d = .tup ds → ∀ x ∈ ds, Flat h x
theorem s_listed {fs : List FF} (fo : FormOk fs) (hb : Good h d) : run (k + 4) I_is_listed [.tup (fs.map FF.d), d] h = .ok (.bl (listed fs d)) h := Ok.eq (by
  obtain ⟨f1, f2, f3⟩ := fo
  rw [e_is_listed]
  unfold m_is_listed
  simp only [w_bind, w_noX, w_ok, w_C, w_op2, w_asB, w_op3, w_and, w_or, w_not, w_test, w_bAnd, w_bOr, w_bNot, w_if, w_lif, w_tup, w_lst, w_alloc, w_vL, w_call, w_aNil, w_aCons, w_lCall, w_append, w_nil, w_lnil, w_seq, w_next, w_ret, w_set, w_expr, w_sif, w_sub, w_unp, w_fn1, w_fn2, w_fn3, w_fn4, w_fn5, w_join, w_vSrc, w_aSrc, w_lSrc, w_catLL, w_catOL, w_repL, w_sortV, w_asI, w_slE0, w_slE1, w_sl, q_srcT, q_srcS, q_srcR, q_zipT, q_slT, w_lc, w_forS, Int.toNat_natCast, v_0, v_S, List.replicate_succ, List.replicate_zero, Nat.reduceSub, List.getElem?_cons_zero, List.getElem?_cons_succ, List.set_cons_zero, List.set_cons_succ, if_true, if_false, Bool.false_eq_true, Bool.not_true, Bool.not_false, q_add, q_addT, q_addS, q_sub, q_eq, q_eqS, q_eqB, q_ne, q_neS, q_neB, q_lt, q_ltS, q_le, q_gt, q_ge, q_in1, q_nin1, q_isN, q_isnN, q_isB, q_isnB, q_isiI0, q_isiI1, q_isiI2, q_isiI3, q_isiI4, q_isiI5, q_isiB0, q_isiB1, q_isiB2, q_isiB3, q_isiB4, q_isiB5, q_isiS0, q_isiS1, q_isiS2, q_isiS3, q_isiS4, q_isiS5, q_isiT0, q_isiT1, q_isiT2, q_isiT3, q_isiT4, q_isiT5, q_isiR0, q_isiR1, q_isiR2, q_isiR3, q_isiR4, q_isiR5, q_isiN0, q_isiN1, q_isiN2, q_isiN3, q_isiN4, q_isiN5, q_lenS, q_lenT, q_lenR, q_min2, q_max2, q_strS, q_tupP, ix_0, ix_1, ix_2, ix_3, isi_tup hb.1]
  cases d <;> simp only [isTup, w_bind, w_noX, w_ok, w_C, w_op2, w_asB, w_op3, w_and, w_or, w_not, w_test, w_bAnd, w_bOr, w_bNot, w_if, w_lif, w_tup, w_lst, w_alloc, w_vL, w_call, w_aNil, w_aCons, w_lCall, w_append, w_nil, w_lnil, w_seq, w_next, w_ret, w_set, w_expr, w_sif, w_sub, w_unp, w_fn1, w_fn2, w_fn3, w_fn4, w_fn5, w_join, w_vSrc, w_aSrc, w_lSrc, w_catLL, w_catOL, w_repL, w_sortV, w_asI, w_slE0, w_slE1, w_sl, q_srcT, q_srcS, q_srcR, q_zipT, q_slT, w_lc, w_forS, Int.toNat_natCast, v_0, v_S, List.replicate_succ, List.replicate_zero, Nat.reduceSub, List.getElem?_cons_zero, List.getElem?_cons_succ, List.set_cons_zero, List.set_cons_succ, if_true, if_false, Bool.false_eq_true, Bool.not_true, Bool.not_false, q_add, q_addT, q_addS, q_sub, q_eq, q_eqS, q_eqB, q_ne, q_neS, q_neB, q_lt, q_ltS, q_le, q_gt, q_ge, q_in1, q_nin1, q_isN, q_isnN, q_isB, q_isnB, q_isiI0, q_isiI1, q_isiI2, q_isiI3, q_isiI4, q_isiI5, q_isiB0, q_isiB1, q_isiB2, q_isiB3, q_isiB4, q_isiB5, q_isiS0, q_isiS1, q_isiS2, q_isiS3, q_isiS4, q_isiS5, q_isiT0, q_isiT1, q_isiT2, q_isiT3, q_isiT4, q_isiT5, q_isiR0, q_isiR1, q_isiR2, q_isiR3, q_isiR4, q_isiR5, q_isiN0, q_isiN1, q_isiN2, q_isiN3, q_isiN4, q_isiN5, q_lenS, q_lenT, q_lenR, q_min2, q_max2, q_strS, q_tupP, ix_0, ix_1, ix_2, ix_3, listed, and_self]
  rename_i ds
  simp only [List.length_map]
  by_cases c : ds.length = fs.length
  · rw [decide_eq_true (show (ds.length : Int) = (fs.length : Int) by omega)]
    simp only [w_bind, w_noX, w_ok, w_C, w_op2, w_asB, w_op3, w_and, w_or, w_not, w_test, w_bAnd, w_bOr, w_bNot, w_if, w_lif, w_tup, w_lst, w_alloc, w_vL, w_call, w_aNil, w_aCons, w_lCall, w_append, w_nil, w_lnil, w_seq, w_next, w_ret, w_set, w_expr, w_sif, w_sub, w_unp, w_fn1, w_fn2, w_fn3, w_fn4, w_fn5, w_join, w_vSrc, w_aSrc, w_lSrc, w_catLL, w_catOL, w_repL, w_sortV, w_asI, w_slE0, w_slE1, w_sl, q_srcT, q_srcS, q_srcR, q_zipT, q_slT, w_lc, w_forS, Int.toNat_natCast, v_0, v_S, List.replicate_succ, List.replicate_zero, Nat.reduceSub, List.getElem?_cons_zero, List.getElem?_cons_succ, List.set_cons_zero, List.set_cons_succ, if_true, if_false, Bool.false_eq_true, Bool.not_true, Bool.not_false, q_add, q_addT, q_addS, q_sub, q_eq, q_eqS, q_eqB, q_ne, q_neS, q_neB, q_lt, q_ltS, q_le, q_gt, q_ge, q_in1, q_nin1, q_isN, q_isnN, q_isB, q_isnB, q_isiI0, q_isiI1, q_isiI2, q_isiI3, q_isiI4, q_isiI5, q_isiB0, q_isiB1, q_isiB2, q_isiB3, q_isiB4, q_isiB5, q_isiS0, q_isiS1, q_isiS2, q_isiS3, q_isiS4, q_isiS5, q_isiT0, q_isiT1, q_isiT2, q_isiT3, q_isiT4, q_isiT5, q_isiR0, q_isiR1, q_isiR2, q_isiR3, q_isiR4, q_isiR5, q_isiN0, q_isiN1, q_isiN2, q_isiN3, q_isiN4, q_isiN5, q_lenS, q_lenT, q_lenR, q_min2, q_max2, q_strS, q_tupP, ix_0, ix_1, ix_2, ix_3]
    rw [w_lcI (by rw [zip_map]; simp only [List.length_map, List.length_zip, LIM]; omega), zip_map]
    simp only [wipeE, w_bind, w_noX, w_ok, w_C, w_op2, w_asB, w_op3, w_and, w_or, w_not, w_test, w_bAnd, w_bOr, w_bNot, w_if, w_lif, w_tup, w_lst, w_alloc, w_vL, w_call, w_aNil, w_aCons, w_lCall, w_append, w_nil, w_lnil, w_seq, w_next, w_ret, w_set, w_expr, w_sif, w_sub, w_unp, w_fn1, w_fn2, w_fn3, w_fn4, w_fn5, w_join, w_vSrc, w_aSrc, w_lSrc, w_catLL, w_catOL, w_repL, w_sortV, w_asI, w_slE0, w_slE1, w_sl, q_srcT, q_srcS, q_srcR, q_zipT, q_slT, w_lc, w_forS, Int.toNat_natCast, v_0, v_S, List.replicate_succ, List.replicate_zero, Nat.reduceSub, List.getElem?_cons_zero, List.getElem?_cons_succ, List.set_cons_zero, List.set_cons_succ, if_true, if_false, Bool.false_eq_true, Bool.not_true, Bool.not_false, q_add, q_addT, q_addS, q_sub, q_eq, q_eqS, q_eqB, q_ne, q_neS, q_neB, q_lt, q_ltS, q_le, q_gt, q_ge, q_in1, q_nin1, q_isN, q_isnN, q_isB, q_isnB, q_isiI0, q_isiI1, q_isiI2, q_isiI3, q_isiI4, q_isiI5, q_isiB0, q_isiB1, q_isiB2, q_isiB3, q_isiB4, q_isiB5, q_isiS0, q_isiS1, q_isiS2, q_isiS3, q_isiS4, q_isiS5, q_isiT0, q_isiT1, q_isiT2, q_isiT3, q_isiT4, q_isiT5, q_isiR0, q_isiR1, q_isiR2, q_isiR3, q_isiR4, q_isiR5, q_isiN0, q_isiN1, q_isiN2, q_isiN3, q_isiN4, q_isiN5, q_lenS, q_lenT, q_lenR, q_min2, q_max2, q_strS, q_tupP, ix_0, ix_1, ix_2, ix_3]
    rw [lcL_mapP (test := bTrue) (fun p => .bl (p.1.val p.2)) fun p hp => Ok.eq (by
      have m1 := (List.of_mem_zip hp)
      simp only [w_bind, w_noX, w_ok, w_C, w_op2, w_asB, w_op3, w_and, w_or, w_not, w_test, w_bAnd, w_bOr, w_bNot, w_if, w_lif, w_tup, w_lst, w_alloc, w_vL, w_call, w_aNil, w_aCons, w_lCall, w_append, w_nil, w_lnil, w_seq, w_next, w_ret, w_set, w_expr, w_sif, w_sub, w_unp, w_fn1, w_fn2, w_fn3, w_fn4, w_fn5, w_join, w_vSrc, w_aSrc, w_lSrc, w_catLL, w_catOL, w_repL, w_sortV, w_asI, w_slE0, w_slE1, w_sl, q_srcT, q_srcS, q_srcR, q_zipT, q_slT, w_lc, w_forS, Int.toNat_natCast, v_0, v_S, List.replicate_succ, List.replicate_zero, Nat.reduceSub, List.getElem?_cons_zero, List.getElem?_cons_succ, List.set_cons_zero, List.set_cons_succ, if_true, if_false, Bool.false_eq_true, Bool.not_true, Bool.not_false, q_add, q_addT, q_addS, q_sub, q_eq, q_eqS, q_eqB, q_ne, q_neS, q_neB, q_lt, q_ltS, q_le, q_gt, q_ge, q_in1, q_nin1, q_isN, q_isnN, q_isB, q_isnB, q_isiI0, q_isiI1, q_isiI2, q_isiI3, q_isiI4, q_isiI5, q_isiB0, q_isiB1, q_isiB2, q_isiB3, q_isiB4, q_isiB5, q_isiS0, q_isiS1, q_isiS2, q_isiS3, q_isiS4, q_isiS5, q_isiT0, q_isiT1, q_isiT2, q_isiT3, q_isiT4, q_isiT5, q_isiR0, q_isiR1, q_isiR2, q_isiR3, q_isiR4, q_isiR5, q_isiN0, q_isiN1, q_isiN2, q_isiN3, q_isiN4, q_isiN5, q_lenS, q_lenT, q_lenR, q_min2, q_max2, q_strS, q_tupP, ix_0, ix_1, ix_2, ix_3, s_isval (f1 _ m1.1) (hb.2 ds rfl _ m1.2), and_self]), w_ok, all_map, w_ok, vals_zip c]
    exact ⟨rfl, rfl⟩
  · rw [decide_eq_false (show ¬(ds.length : Int) = (fs.length : Int) by omega)]
    simp only [w_bind, w_noX, w_ok, w_C, w_op2, w_asB, w_op3, w_and, w_or, w_not, w_test, w_bAnd, w_bOr, w_bNot, w_if, w_lif, w_tup, w_lst, w_alloc, w_vL, w_call, w_aNil, w_aCons, w_lCall, w_append, w_nil, w_lnil, w_seq, w_next, w_ret, w_set, w_expr, w_sif, w_sub, w_unp, w_fn1, w_fn2, w_fn3, w_fn4, w_fn5, w_join, w_vSrc, w_aSrc, w_lSrc, w_catLL, w_catOL, w_repL, w_sortV, w_asI, w_slE0, w_slE1, w_sl, q_srcT, q_srcS, q_srcR, q_zipT, q_slT, w_lc, w_forS, Int.toNat_natCast, v_0, v_S, List.replicate_succ, List.replicate_zero, Nat.reduceSub, List.getElem?_cons_zero, List.getElem?_cons_succ, List.set_cons_zero, List.set_cons_succ, if_true, if_false, Bool.false_eq_true, Bool.not_true, Bool.not_false, q_add, q_addT, q_addS, q_sub, q_eq, q_eqS, q_eqB, q_ne, q_neS, q_neB, q_lt, q_ltS, q_le, q_gt, q_ge, q_in1, q_nin1, q_isN, q_isnN, q_isB, q_isnB, q_isiI0, q_isiI1, q_isiI2, q_isiI3, q_isiI4, q_isiI5, q_isiB0, q_isiB1, q_isiB2, q_isiB3, q_isiB4, q_isiB5, q_isiS0, q_isiS1, q_isiS2, q_isiS3, q_isiS4, q_isiS5, q_isiT0, q_isiT1, q_isiT2, q_isiT3, q_isiT4, q_isiT5, q_isiR0, q_isiR1, q_isiR2, q_isiR3, q_isiR4, q_isiR5, q_isiN0, q_isiN1, q_isiN2, q_isiN3, q_isiN4, q_isiN5, q_lenS, q_lenT, q_lenR, q_min2, q_max2, q_strS, q_tupP, ix_0, ix_1, ix_2, ix_3, vals_ne c, and_self])
theorem s_isrec {fs : List FF} (fo : FormOk fs) (hb : Good h d) : run (k + 7) I_is_record [.tup (fs.map FF.d), d] h = .ok (.bl (listed fs d)) h := Ok.eq (by
  rw [e_is_record]
  unfold m_is_record
  simp only [w_bind, w_noX, w_ok, w_C, w_op2, w_asB, w_op3, w_and, w_or, w_not, w_test, w_bAnd, w_bOr, w_bNot, w_if, w_lif, w_tup, w_lst, w_alloc, w_vL, w_call, w_aNil, w_aCons, w_lCall, w_append, w_nil, w_lnil, w_seq, w_next, w_ret, w_set, w_expr, w_sif, w_sub, w_unp, w_fn1, w_fn2, w_fn3, w_fn4, w_fn5, w_join, w_vSrc, w_aSrc, w_lSrc, w_catLL, w_catOL, w_repL, w_sortV, w_asI, w_slE0, w_slE1, w_sl, q_srcT, q_srcS, q_srcR, q_zipT, q_slT, w_lc, w_forS, Int.toNat_natCast, v_0, v_S, List.replicate_succ, List.replicate_zero, Nat.reduceSub, List.getElem?_cons_zero, List.getElem?_cons_succ, List.set_cons_zero, List.set_cons_succ, if_true, if_false, Bool.false_eq_true, Bool.not_true, Bool.not_false, q_add, q_addT, q_addS, q_sub, q_eq, q_eqS, q_eqB, q_ne, q_neS, q_neB, q_lt, q_ltS, q_le, q_gt, q_ge, q_in1, q_nin1, q_isN, q_isnN, q_isB, q_isnB, q_isiI0, q_isiI1, q_isiI2, q_isiI3, q_isiI4, q_isiI5, q_isiB0, q_isiB1, q_isiB2, q_isiB3, q_isiB4, q_isiB5, q_isiS0, q_isiS1, q_isiS2, q_isiS3, q_isiS4, q_isiS5, q_isiT0, q_isiT1, q_isiT2, q_isiT3, q_isiT4, q_isiT5, q_isiR0, q_isiR1, q_isiR2, q_isiR3, q_isiR4, q_isiR5, q_isiN0, q_isiN1, q_isiN2, q_isiN3, q_isiN4, q_isiN5, q_lenS, q_lenT, q_lenR, q_min2, q_max2, q_strS, q_tupP, ix_0, ix_1, ix_2, ix_3, s_check fo, s_listed fo hb, and_self])
theorem s_chkrec {fs : List FF} (fo : FormOk fs) (hb : Good h d) (hl : listed fs d = true) : run (k + 5) I_check_record [.tup (fs.map FF.d), d] h = .ok .non h := Ok.eq (by
  rw [e_check_record]
  unfold m_check_record
  simp only [w_bind, w_noX, w_ok, w_C, w_op2, w_asB, w_op3, w_and, w_or, w_not, w_test, w_bAnd, w_bOr, w_bNot, w_if, w_lif, w_tup, w_lst, w_alloc, w_vL, w_call, w_aNil, w_aCons, w_lCall, w_append, w_nil, w_lnil, w_seq, w_next, w_ret, w_set, w_expr, w_sif, w_sub, w_unp, w_fn1, w_fn2, w_fn3, w_fn4, w_fn5, w_join, w_vSrc, w_aSrc, w_lSrc, w_catLL, w_catOL, w_repL, w_sortV, w_asI, w_slE0, w_slE1, w_sl, q_srcT, q_srcS, q_srcR, q_zipT, q_slT, w_lc, w_forS, Int.toNat_natCast, v_0, v_S, List.replicate_succ, List.replicate_zero, Nat.reduceSub, List.getElem?_cons_zero, List.getElem?_cons_succ, List.set_cons_zero, List.set_cons_succ, if_true, if_false, Bool.false_eq_true, Bool.not_true, Bool.not_false, q_add, q_addT, q_addS, q_sub, q_eq, q_eqS, q_eqB, q_ne, q_neS, q_neB, q_lt, q_ltS, q_le, q_gt, q_ge, q_in1, q_nin1, q_isN, q_isnN, q_isB, q_isnB, q_isiI0, q_isiI1, q_isiI2, q_isiI3, q_isiI4, q_isiI5, q_isiB0, q_isiB1, q_isiB2, q_isiB3, q_isiB4, q_isiB5, q_isiS0, q_isiS1, q_isiS2, q_isiS3, q_isiS4, q_isiS5, q_isiT0, q_isiT1, q_isiT2, q_isiT3, q_isiT4, q_isiT5, q_isiR0, q_isiR1, q_isiR2, q_isiR3, q_isiR4, q_isiR5, q_isiN0, q_isiN1, q_isiN2, q_isiN3, q_isiN4, q_isiN5, q_lenS, q_lenT, q_lenR, q_min2, q_max2, q_strS, q_tupP, ix_0, ix_1, ix_2, ix_3, s_listed fo hb, hl, and_self])
end
end FT
end
section
set_option maxRecDepth 100000
namespace FT
open PySem L2
set_option autoImplicit false
/-! ### texts and lengths -/
def Leaf (d : D) : Prop := (∃ s : Sg, d = .str s ∧ s.length ≤ 4 ∧ ∀ c ∈ s, c < 1114112) ∨ ∃ i : Int, d = .int i ∧ 0 ≤ i ∧ i < 10000
def Valu (d : D) : Prop := Leaf d ∨ ∃ ds, d = .tup ds ∧ ds.length ≤ 3 ∧ ∀ x ∈ ds, Leaf x
section
variable {k : Nat} {h : MH} {d : D}
theorem only_lt {s cs : Sg} (ho : only' s cs = true) (hc : ∀ c ∈ cs, c < 1114112) : ∀ c ∈ s, c < 1114112 := fun c hcs => by
  unfold only' at ho
  rw [List.all_eq_true] at ho
  exact hc c (of_decide_eq_true (ho c hcs))
theorem leaf_of {f : SF} (fo : f.Ok) (hv : f.val d = true) : Leaf d := by
  cases f <;> cases d <;> first | (cases hv; done) | skip
  · simp only [SF.val, decide_eq_true_eq] at hv
    subst hv
    exact .inl ⟨_, rfl, fo.2.1, txok_lt fo⟩
  · simp only [SF.val, Bool.and_eq_true, decide_eq_true_eq] at hv
    exact .inl ⟨_, rfl, Nat.le_trans hv.2.2 fo.2, only_lt hv.1 (by decide)⟩
  · simp only [SF.val, Bool.and_eq_true, decide_eq_true_eq] at hv
    exact .inl ⟨_, rfl, Nat.le_trans hv.2.2 fo.2, only_lt hv.1 (by decide)⟩
  · rename_i n i
    simp only [SF.val, Bool.and_eq_true, decide_eq_true_eq] at hv
    refine .inr ⟨i, rfl, hv.1, ?_⟩
    have n4 : n = 1 ∨ n = 2 ∨ n = 3 ∨ n = 4 := by have := fo.1; have := fo.2; omega
    have h2 := hv.2
    rcases n4 with rfl | rfl | rfl | rfl <;> simp at h2 <;> omega
  · simp only [SF.val, decide_eq_true_eq] at hv
    have := fo.2.2.1 _ hv
    exact .inl ⟨_, rfl, this.2.1, txok_lt this⟩
theorem valu_of {f : FF} (fo : f.Ok) (hv : f.val d = true) : Valu d := by
  cases f with
  | one s => exact .inl (leaf_of fo hv)
  | rep s lo hi =>
    cases d <;> first | (cases hv; done) | skip
    rename_i ds
    simp only [FF.val, Bool.and_eq_true, decide_eq_true_eq] at hv
    refine .inr ⟨ds, rfl, by have := fo.2.2.2; omega, fun x hx => leaf_of fo.1 (List.all_eq_true.mp hv.2 x hx)⟩
theorem valu_all : ∀ {fs : List FF} {ds : List D}, (∀ f ∈ fs, f.Ok) → vals fs ds = true → ∀ x ∈ ds, Valu x
  | [], [], _, _ => fun x hx => by simp at hx
  | [], d :: ds, _, h => by cases h
  | f :: fs, [], _, h => by cases h
  | f :: fs, d :: ds, fo, h => by
    simp only [vals, Bool.and_eq_true] at h
    intro x hx
    rcases List.mem_cons.mp hx with rfl | hx
    · exact valu_of (fo f (List.mem_cons_self ..)) h.1
    · exact valu_all (fun g hg => fo g (List.mem_cons_of_mem _ hg)) h.2 x hx
theorem Leaf.bas (l : Leaf d) : Bas h d := by
  rcases l with ⟨s, rfl, h1, h2⟩ | ⟨i, rfl, _, _⟩
  · exact bas_str (by omega) h2
  · exact bas_int
theorem Leaf.flat (l : Leaf d) : Flat h d := ⟨l.bas, fun ds e => by
  rcases l with ⟨s, rfl, _, _⟩ | ⟨i, rfl, _, _⟩ <;> cases e⟩
theorem Valu.flat (l : Valu d) : Flat h d := by
  rcases l with l | ⟨ds, rfl, h1, h2⟩
  · exact l.flat
  · exact ⟨bas_tup (by omega), fun es e x hx => by cases e; exact (h2 x hx).bas⟩
theorem Leaf.len (l : Leaf d) : (ptxt d).length ≤ 4 := by
  rcases l with ⟨s, rfl, h1, _⟩ | ⟨i, rfl, h1, h2⟩
  · exact h1
  · exact (decL_len (k := 4) (by decide) (by omega)).2
theorem sum_le {f : D → Sg} {c : Nat} : ∀ ds : List D, (∀ x ∈ ds, (f x).length ≤ c) → ((ds.map f).map List.length).sum ≤ c * ds.length
  | [], _ => by simp
  | d :: ds, h => by
    have a := h d (List.mem_cons_self ..)
    have b := sum_le ds fun x hx => h x (List.mem_cons_of_mem _ hx)
    simp only [List.map_cons, List.sum_cons, List.length_cons, Nat.mul_add]
    omega
theorem Valu.len (l : Valu d) : (vtxt d).length ≤ 12 := by
  rcases l with l | ⟨ds, rfl, h1, h2⟩
  · have := l.len
    rcases l with ⟨s, rfl, _, _⟩ | ⟨i, rfl, _, _⟩ <;> exact Nat.le_trans this (by omega)
  · have := sum_le (f := ptxt) (c := 4) ds fun x hx => (h2 x hx).len
    show ((ds.map ptxt).flatten).length ≤ 12
    rw [flat_len]
    omega
theorem pt_leaf (l : Leaf d) : run (k + 1) I_part_text [d] h = .ok (.str (ptxt d)) h := Ok.eq (by
  rw [e_part_text]
  unfold m_part_text
  rcases l with ⟨s, rfl, h1, h2⟩ | ⟨i, rfl, h1, h2⟩
  · simp only [w_bind, w_noX, w_ok, w_C, w_op2, w_asB, w_op3, w_and, w_or, w_not, w_test, w_bAnd, w_bOr, w_bNot, w_if, w_lif, w_tup, w_lst, w_alloc, w_vL, w_call, w_aNil, w_aCons, w_lCall, w_append, w_nil, w_lnil, w_seq, w_next, w_ret, w_set, w_expr, w_sif, w_sub, w_unp, w_fn1, w_fn2, w_fn3, w_fn4, w_fn5, w_join, w_vSrc, w_aSrc, w_lSrc, w_catLL, w_catOL, w_repL, w_sortV, w_asI, w_slE0, w_slE1, w_sl, q_srcT, q_srcS, q_srcR, q_zipT, q_slT, w_lc, w_forS, Int.toNat_natCast, v_0, v_S, List.replicate_succ, List.replicate_zero, Nat.reduceSub, List.getElem?_cons_zero, List.getElem?_cons_succ, List.set_cons_zero, List.set_cons_succ, if_true, if_false, Bool.false_eq_true, Bool.not_true, Bool.not_false, q_add, q_addT, q_addS, q_sub, q_eq, q_eqS, q_eqB, q_ne, q_neS, q_neB, q_lt, q_ltS, q_le, q_gt, q_ge, q_in1, q_nin1, q_isN, q_isnN, q_isB, q_isnB, q_isiI0, q_isiI1, q_isiI2, q_isiI3, q_isiI4, q_isiI5, q_isiB0, q_isiB1, q_isiB2, q_isiB3, q_isiB4, q_isiB5, q_isiS0, q_isiS1, q_isiS2, q_isiS3, q_isiS4, q_isiS5, q_isiT0, q_isiT1, q_isiT2, q_isiT3, q_isiT4, q_isiT5, q_isiR0, q_isiR1, q_isiR2, q_isiR3, q_isiR4, q_isiR5, q_isiN0, q_isiN1, q_isiN2, q_isiN3, q_isiN4, q_isiN5, q_lenS, q_lenT, q_lenR, q_min2, q_max2, q_strS, q_tupP, ix_0, ix_1, ix_2, ix_3, ptxt, and_self]
  · have lg : i.natAbs.log2 < 1920 := by
      rcases Nat.eq_zero_or_pos i.natAbs with e | e
      · rw [e]; decide
      · exact Nat.lt_of_lt_of_le ((Nat.log2_lt (k := 64) (by omega)).mpr (by omega)) (by omega)
    have : strP [.int i] h = .ok (.str (decL i.toNat)) h := if_pos ⟨h1, lg⟩
    simp only [w_bind, w_noX, w_ok, w_C, w_op2, w_asB, w_op3, w_and, w_or, w_not, w_test, w_bAnd, w_bOr, w_bNot, w_if, w_lif, w_tup, w_lst, w_alloc, w_vL, w_call, w_aNil, w_aCons, w_lCall, w_append, w_nil, w_lnil, w_seq, w_next, w_ret, w_set, w_expr, w_sif, w_sub, w_unp, w_fn1, w_fn2, w_fn3, w_fn4, w_fn5, w_join, w_vSrc, w_aSrc, w_lSrc, w_catLL, w_catOL, w_repL, w_sortV, w_asI, w_slE0, w_slE1, w_sl, q_srcT, q_srcS, q_srcR, q_zipT, q_slT, w_lc, w_forS, Int.toNat_natCast, v_0, v_S, List.replicate_succ, List.replicate_zero, Nat.reduceSub, List.getElem?_cons_zero, List.getElem?_cons_succ, List.set_cons_zero, List.set_cons_succ, if_true, if_false, Bool.false_eq_true, Bool.not_true, Bool.not_false, q_add, q_addT, q_addS, q_sub, q_eq, q_eqS, q_eqB, q_ne, q_neS, q_neB, q_lt, q_ltS, q_le, q_gt, q_ge, q_in1, q_nin1, q_isN, q_isnN, q_isB, q_isnB, q_isiI0, q_isiI1, q_isiI2, q_isiI3, q_isiI4, q_isiI5, q_isiB0, q_isiB1, q_isiB2, q_isiB3, q_isiB4, q_isiB5, q_isiS0, q_isiS1, q_isiS2, q_isiS3, q_isiS4, q_isiS5, q_isiT0, q_isiT1, q_isiT2, q_isiT3, q_isiT4, q_isiT5, q_isiR0, q_isiR1, q_isiR2, q_isiR3, q_isiR4, q_isiR5, q_isiN0, q_isiN1, q_isiN2, q_isiN3, q_isiN4, q_isiN5, q_lenS, q_lenT, q_lenR, q_min2, q_max2, q_strS, q_tupP, ix_0, ix_1, ix_2, ix_3, this, ptxt, and_self])
theorem pt_val (l : Valu d) : run (k + 2) I_part_text [d] h = .ok (.str (vtxt d)) h := by
  rcases l with l | ⟨ds, rfl, h1, h2⟩
  · rcases l with ⟨s, rfl, h1, h2⟩ | ⟨i, rfl, h1, h2⟩
    · exact pt_leaf (.inl ⟨s, rfl, h1, h2⟩)
    · exact pt_leaf (.inr ⟨i, rfl, h1, h2⟩)
  · refine Ok.eq ?_
    rw [e_part_text]
    unfold m_part_text
    simp only [w_bind, w_noX, w_ok, w_C, w_op2, w_asB, w_op3, w_and, w_or, w_not, w_test, w_bAnd, w_bOr, w_bNot, w_if, w_lif, w_tup, w_lst, w_alloc, w_vL, w_call, w_aNil, w_aCons, w_lCall, w_append, w_nil, w_lnil, w_seq, w_next, w_ret, w_set, w_expr, w_sif, w_sub, w_unp, w_fn1, w_fn2, w_fn3, w_fn4, w_fn5, w_join, w_vSrc, w_aSrc, w_lSrc, w_catLL, w_catOL, w_repL, w_sortV, w_asI, w_slE0, w_slE1, w_sl, q_srcT, q_srcS, q_srcR, q_zipT, q_slT, w_lc, w_forS, Int.toNat_natCast, v_0, v_S, List.replicate_succ, List.replicate_zero, Nat.reduceSub, List.getElem?_cons_zero, List.getElem?_cons_succ, List.set_cons_zero, List.set_cons_succ, if_true, if_false, Bool.false_eq_true, Bool.not_true, Bool.not_false, q_add, q_addT, q_addS, q_sub, q_eq, q_eqS, q_eqB, q_ne, q_neS, q_neB, q_lt, q_ltS, q_le, q_gt, q_ge, q_in1, q_nin1, q_isN, q_isnN, q_isB, q_isnB, q_isiI0, q_isiI1, q_isiI2, q_isiI3, q_isiI4, q_isiI5, q_isiB0, q_isiB1, q_isiB2, q_isiB3, q_isiB4, q_isiB5, q_isiS0, q_isiS1, q_isiS2, q_isiS3, q_isiS4, q_isiS5, q_isiT0, q_isiT1, q_isiT2, q_isiT3, q_isiT4, q_isiT5, q_isiR0, q_isiR1, q_isiR2, q_isiR3, q_isiR4, q_isiR5, q_isiN0, q_isiN1, q_isiN2, q_isiN3, q_isiN4, q_isiN5, q_lenS, q_lenT, q_lenR, q_min2, q_max2, q_strS, q_tupP, ix_0, ix_1, ix_2, ix_3]
    rw [w_lcI (by simp only [LIM]; omega)]
    simp only [wipeE, w_bind, w_noX, w_ok, w_C, w_op2, w_asB, w_op3, w_and, w_or, w_not, w_test, w_bAnd, w_bOr, w_bNot, w_if, w_lif, w_tup, w_lst, w_alloc, w_vL, w_call, w_aNil, w_aCons, w_lCall, w_append, w_nil, w_lnil, w_seq, w_next, w_ret, w_set, w_expr, w_sif, w_sub, w_unp, w_fn1, w_fn2, w_fn3, w_fn4, w_fn5, w_join, w_vSrc, w_aSrc, w_lSrc, w_catLL, w_catOL, w_repL, w_sortV, w_asI, w_slE0, w_slE1, w_sl, q_srcT, q_srcS, q_srcR, q_zipT, q_slT, w_lc, w_forS, Int.toNat_natCast, v_0, v_S, List.replicate_succ, List.replicate_zero, Nat.reduceSub, List.getElem?_cons_zero, List.getElem?_cons_succ, List.set_cons_zero, List.set_cons_succ, if_true, if_false, Bool.false_eq_true, Bool.not_true, Bool.not_false, q_add, q_addT, q_addS, q_sub, q_eq, q_eqS, q_eqB, q_ne, q_neS, q_neB, q_lt, q_ltS, q_le, q_gt, q_ge, q_in1, q_nin1, q_isN, q_isnN, q_isB, q_isnB, q_isiI0, q_isiI1, q_isiI2, q_isiI3, q_isiI4, q_isiI5, q_isiB0, q_isiB1, q_isiB2, q_isiB3, q_isiB4, q_isiB5, q_isiS0, q_isiS1, q_isiS2, q_isiS3, q_isiS4, q_isiS5, q_isiT0, q_isiT1, q_isiT2, q_isiT3, q_isiT4, q_isiT5, q_isiR0, q_isiR1, q_isiR2, q_isiR3, q_isiR4, q_isiR5, q_isiN0, q_isiN1, q_isiN2, q_isiN3, q_isiN4, q_isiN5, q_lenS, q_lenT, q_lenR, q_min2, q_max2, q_strS, q_tupP, ix_0, ix_1, ix_2, ix_3]
    have := lcL_map (elt := vCall (run (k + 1) I_part_text) (aCons (vVar 1) aNil)) (env := [some (D.tup ds), none]) (i := 1) (h := h) (xs := ds) (c := fun x => x) (fun x => .str (ptxt x)) fun x hx => Ok.eq (by simp only [w_bind, w_noX, w_ok, w_C, w_op2, w_asB, w_op3, w_and, w_or, w_not, w_test, w_bAnd, w_bOr, w_bNot, w_if, w_lif, w_tup, w_lst, w_alloc, w_vL, w_call, w_aNil, w_aCons, w_lCall, w_append, w_nil, w_lnil, w_seq, w_next, w_ret, w_set, w_expr, w_sif, w_sub, w_unp, w_fn1, w_fn2, w_fn3, w_fn4, w_fn5, w_join, w_vSrc, w_aSrc, w_lSrc, w_catLL, w_catOL, w_repL, w_sortV, w_asI, w_slE0, w_slE1, w_sl, q_srcT, q_srcS, q_srcR, q_zipT, q_slT, w_lc, w_forS, Int.toNat_natCast, v_0, v_S, List.replicate_succ, List.replicate_zero, Nat.reduceSub, List.getElem?_cons_zero, List.getElem?_cons_succ, List.set_cons_zero, List.set_cons_succ, if_true, if_false, Bool.false_eq_true, Bool.not_true, Bool.not_false, q_add, q_addT, q_addS, q_sub, q_eq, q_eqS, q_eqB, q_ne, q_neS, q_neB, q_lt, q_ltS, q_le, q_gt, q_ge, q_in1, q_nin1, q_isN, q_isnN, q_isB, q_isnB, q_isiI0, q_isiI1, q_isiI2, q_isiI3, q_isiI4, q_isiI5, q_isiB0, q_isiB1, q_isiB2, q_isiB3, q_isiB4, q_isiB5, q_isiS0, q_isiS1, q_isiS2, q_isiS3, q_isiS4, q_isiS5, q_isiT0, q_isiT1, q_isiT2, q_isiT3, q_isiT4, q_isiT5, q_isiR0, q_isiR1, q_isiR2, q_isiR3, q_isiR4, q_isiR5, q_isiN0, q_isiN1, q_isiN2, q_isiN3, q_isiN4, q_isiN5, q_lenS, q_lenT, q_lenR, q_min2, q_max2, q_strS, q_tupP, ix_0, ix_1, ix_2, ix_3, pt_leaf (h2 x hx), and_self])
    rw [List.map_id'] at this
    have sl := sum_le (f := ptxt) (c := 4) ds fun x hx => (h2 x hx).len
    have j := join_strs (ps := ds.map ptxt) (h := h) (by simp only [LIM]; omega)
    rw [List.map_map] at j
    rw [this, w_ok]
    show Ok (joinP (.str []) (ds.map (D.str ∘ ptxt)) h) _
    rw [j, w_ok]
    exact ⟨rfl, rfl⟩
theorem pt_rec {ds : List D} (hl : ds.length ≤ 100) (hv : ∀ x ∈ ds, Valu x) : run (k + 3) I_part_text [.tup ds] h = .ok (.str (ds.map vtxt).flatten) h := Ok.eq (by
  rw [e_part_text]
  unfold m_part_text
  simp only [w_bind, w_noX, w_ok, w_C, w_op2, w_asB, w_op3, w_and, w_or, w_not, w_test, w_bAnd, w_bOr, w_bNot, w_if, w_lif, w_tup, w_lst, w_alloc, w_vL, w_call, w_aNil, w_aCons, w_lCall, w_append, w_nil, w_lnil, w_seq, w_next, w_ret, w_set, w_expr, w_sif, w_sub, w_unp, w_fn1, w_fn2, w_fn3, w_fn4, w_fn5, w_join, w_vSrc, w_aSrc, w_lSrc, w_catLL, w_catOL, w_repL, w_sortV, w_asI, w_slE0, w_slE1, w_sl, q_srcT, q_srcS, q_srcR, q_zipT, q_slT, w_lc, w_forS, Int.toNat_natCast, v_0, v_S, List.replicate_succ, List.replicate_zero, Nat.reduceSub, List.getElem?_cons_zero, List.getElem?_cons_succ, List.set_cons_zero, List.set_cons_succ, if_true, if_false, Bool.false_eq_true, Bool.not_true, Bool.not_false, q_add, q_addT, q_addS, q_sub, q_eq, q_eqS, q_eqB, q_ne, q_neS, q_neB, q_lt, q_ltS, q_le, q_gt, q_ge, q_in1, q_nin1, q_isN, q_isnN, q_isB, q_isnB, q_isiI0, q_isiI1, q_isiI2, q_isiI3, q_isiI4, q_isiI5, q_isiB0, q_isiB1, q_isiB2, q_isiB3, q_isiB4, q_isiB5, q_isiS0, q_isiS1, q_isiS2, q_isiS3, q_isiS4, q_isiS5, q_isiT0, q_isiT1, q_isiT2, q_isiT3, q_isiT4, q_isiT5, q_isiR0, q_isiR1, q_isiR2, q_isiR3, q_isiR4, q_isiR5, q_isiN0, q_isiN1, q_isiN2, q_isiN3, q_isiN4, q_isiN5, q_lenS, q_lenT, q_lenR, q_min2, q_max2, q_strS, q_tupP, ix_0, ix_1, ix_2, ix_3]
  rw [w_lcI (by simp only [LIM]; omega)]
  simp only [wipeE, w_bind, w_noX, w_ok, w_C, w_op2, w_asB, w_op3, w_and, w_or, w_not, w_test, w_bAnd, w_bOr, w_bNot, w_if, w_lif, w_tup, w_lst, w_alloc, w_vL, w_call, w_aNil, w_aCons, w_lCall, w_append, w_nil, w_lnil, w_seq, w_next, w_ret, w_set, w_expr, w_sif, w_sub, w_unp, w_fn1, w_fn2, w_fn3, w_fn4, w_fn5, w_join, w_vSrc, w_aSrc, w_lSrc, w_catLL, w_catOL, w_repL, w_sortV, w_asI, w_slE0, w_slE1, w_sl, q_srcT, q_srcS, q_srcR, q_zipT, q_slT, w_lc, w_forS, Int.toNat_natCast, v_0, v_S, List.replicate_succ, List.replicate_zero, Nat.reduceSub, List.getElem?_cons_zero, List.getElem?_cons_succ, List.set_cons_zero, List.set_cons_succ, if_true, if_false, Bool.false_eq_true, Bool.not_true, Bool.not_false, q_add, q_addT, q_addS, q_sub, q_eq, q_eqS, q_eqB, q_ne, q_neS, q_neB, q_lt, q_ltS, q_le, q_gt, q_ge, q_in1, q_nin1, q_isN, q_isnN, q_isB, q_isnB, q_isiI0, q_isiI1, q_isiI2, q_isiI3, q_isiI4, q_isiI5, q_isiB0, q_isiB1, q_isiB2, q_isiB3, q_isiB4, q_isiB5, q_isiS0, q_isiS1, q_isiS2, q_isiS3, q_isiS4, q_isiS5, q_isiT0, q_isiT1, q_isiT2, q_isiT3, q_isiT4, q_isiT5, q_isiR0, q_isiR1, q_isiR2, q_isiR3, q_isiR4, q_isiR5, q_isiN0, q_isiN1, q_isiN2, q_isiN3, q_isiN4, q_isiN5, q_lenS, q_lenT, q_lenR, q_min2, q_max2, q_strS, q_tupP, ix_0, ix_1, ix_2, ix_3]
  have := lcL_map (elt := vCall (run (k + 2) I_part_text) (aCons (vVar 1) aNil)) (env := [some (D.tup ds), none]) (i := 1) (h := h) (xs := ds) (c := fun x => x) (fun x => .str (vtxt x)) fun x hx => Ok.eq (by simp only [w_bind, w_noX, w_ok, w_C, w_op2, w_asB, w_op3, w_and, w_or, w_not, w_test, w_bAnd, w_bOr, w_bNot, w_if, w_lif, w_tup, w_lst, w_alloc, w_vL, w_call, w_aNil, w_aCons, w_lCall, w_append, w_nil, w_lnil, w_seq, w_next, w_ret, w_set, w_expr, w_sif, w_sub, w_unp, w_fn1, w_fn2, w_fn3, w_fn4, w_fn5, w_join, w_vSrc, w_aSrc, w_lSrc, w_catLL, w_catOL, w_repL, w_sortV, w_asI, w_slE0, w_slE1, w_sl, q_srcT, q_srcS, q_srcR, q_zipT, q_slT, w_lc, w_forS, Int.toNat_natCast, v_0, v_S, List.replicate_succ, List.replicate_zero, Nat.reduceSub, List.getElem?_cons_zero, List.getElem?_cons_succ, List.set_cons_zero, List.set_cons_succ, if_true, if_false, Bool.false_eq_true, Bool.not_true, Bool.not_false, q_add, q_addT, q_addS, q_sub, q_eq, q_eqS, q_eqB, q_ne, q_neS, q_neB, q_lt, q_ltS, q_le, q_gt, q_ge, q_in1, q_nin1, q_isN, q_isnN, q_isB, q_isnB, q_isiI0, q_isiI1, q_isiI2, q_isiI3, q_isiI4, q_isiI5, q_isiB0, q_isiB1, q_isiB2, q_isiB3, q_isiB4, q_isiB5, q_isiS0, q_isiS1, q_isiS2, q_isiS3, q_isiS4, q_isiS5, q_isiT0, q_isiT1, q_isiT2, q_isiT3, q_isiT4, q_isiT5, q_isiR0, q_isiR1, q_isiR2, q_isiR3, q_isiR4, q_isiR5, q_isiN0, q_isiN1, q_isiN2, q_isiN3, q_isiN4, q_isiN5, q_lenS, q_lenT, q_lenR, q_min2, q_max2, q_strS, q_tupP, ix_0, ix_1, ix_2, ix_3, pt_val (hv x hx), and_self])
  rw [List.map_id'] at this
  have sl := sum_le (f := vtxt) (c := 12) ds fun x hx => (hv x hx).len
  have j := join_strs (ps := ds.map vtxt) (h := h) (by simp only [LIM]; omega)
  rw [List.map_map] at j
  rw [this, w_ok]
  show Ok (joinP (.str []) (ds.map (D.str ∘ vtxt)) h) _
  rw [j, w_ok]
  exact ⟨rfl, rfl⟩)
theorem lt_leaf (l : Leaf d) : run (k + 1) I__law_text [d] h = .ok (.str (ptxt d)) h := Ok.eq (by
  rw [e__law_text]
  unfold m__law_text
  rcases l with ⟨s, rfl, h1, h2⟩ | ⟨i, rfl, h1, h2⟩
  · simp only [w_bind, w_noX, w_ok, w_C, w_op2, w_asB, w_op3, w_and, w_or, w_not, w_test, w_bAnd, w_bOr, w_bNot, w_if, w_lif, w_tup, w_lst, w_alloc, w_vL, w_call, w_aNil, w_aCons, w_lCall, w_append, w_nil, w_lnil, w_seq, w_next, w_ret, w_set, w_expr, w_sif, w_sub, w_unp, w_fn1, w_fn2, w_fn3, w_fn4, w_fn5, w_join, w_vSrc, w_aSrc, w_lSrc, w_catLL, w_catOL, w_repL, w_sortV, w_asI, w_slE0, w_slE1, w_sl, q_srcT, q_srcS, q_srcR, q_zipT, q_slT, w_lc, w_forS, Int.toNat_natCast, v_0, v_S, List.replicate_succ, List.replicate_zero, Nat.reduceSub, List.getElem?_cons_zero, List.getElem?_cons_succ, List.set_cons_zero, List.set_cons_succ, if_true, if_false, Bool.false_eq_true, Bool.not_true, Bool.not_false, q_add, q_addT, q_addS, q_sub, q_eq, q_eqS, q_eqB, q_ne, q_neS, q_neB, q_lt, q_ltS, q_le, q_gt, q_ge, q_in1, q_nin1, q_isN, q_isnN, q_isB, q_isnB, q_isiI0, q_isiI1, q_isiI2, q_isiI3, q_isiI4, q_isiI5, q_isiB0, q_isiB1, q_isiB2, q_isiB3, q_isiB4, q_isiB5, q_isiS0, q_isiS1, q_isiS2, q_isiS3, q_isiS4, q_isiS5, q_isiT0, q_isiT1, q_isiT2, q_isiT3, q_isiT4, q_isiT5, q_isiR0, q_isiR1, q_isiR2, q_isiR3, q_isiR4, q_isiR5, q_isiN0, q_isiN1, q_isiN2, q_isiN3, q_isiN4, q_isiN5, q_lenS, q_lenT, q_lenR, q_min2, q_max2, q_strS, q_tupP, ix_0, ix_1, ix_2, ix_3, ptxt, and_self]
  · have lg : i.natAbs.log2 < 1920 := by
      rcases Nat.eq_zero_or_pos i.natAbs with e | e
      · rw [e]; decide
      · exact Nat.lt_of_lt_of_le ((Nat.log2_lt (k := 64) (by omega)).mpr (by omega)) (by omega)
    have : strP [.int i] h = .ok (.str (decL i.toNat)) h := if_pos ⟨h1, lg⟩
    simp only [w_bind, w_noX, w_ok, w_C, w_op2, w_asB, w_op3, w_and, w_or, w_not, w_test, w_bAnd, w_bOr, w_bNot, w_if, w_lif, w_tup, w_lst, w_alloc, w_vL, w_call, w_aNil, w_aCons, w_lCall, w_append, w_nil, w_lnil, w_seq, w_next, w_ret, w_set, w_expr, w_sif, w_sub, w_unp, w_fn1, w_fn2, w_fn3, w_fn4, w_fn5, w_join, w_vSrc, w_aSrc, w_lSrc, w_catLL, w_catOL, w_repL, w_sortV, w_asI, w_slE0, w_slE1, w_sl, q_srcT, q_srcS, q_srcR, q_zipT, q_slT, w_lc, w_forS, Int.toNat_natCast, v_0, v_S, List.replicate_succ, List.replicate_zero, Nat.reduceSub, List.getElem?_cons_zero, List.getElem?_cons_succ, List.set_cons_zero, List.set_cons_succ, if_true, if_false, Bool.false_eq_true, Bool.not_true, Bool.not_false, q_add, q_addT, q_addS, q_sub, q_eq, q_eqS, q_eqB, q_ne, q_neS, q_neB, q_lt, q_ltS, q_le, q_gt, q_ge, q_in1, q_nin1, q_isN, q_isnN, q_isB, q_isnB, q_isiI0, q_isiI1, q_isiI2, q_isiI3, q_isiI4, q_isiI5, q_isiB0, q_isiB1, q_isiB2, q_isiB3, q_isiB4, q_isiB5, q_isiS0, q_isiS1, q_isiS2, q_isiS3, q_isiS4, q_isiS5, q_isiT0, q_isiT1, q_isiT2, q_isiT3, q_isiT4, q_isiT5, q_isiR0, q_isiR1, q_isiR2, q_isiR3, q_isiR4, q_isiR5, q_isiN0, q_isiN1, q_isiN2, q_isiN3, q_isiN4, q_isiN5, q_lenS, q_lenT, q_lenR, q_min2, q_max2, q_strS, q_tupP, ix_0, ix_1, ix_2, ix_3, this, ptxt, and_self])
theorem lt_val (l : Valu d) : run (k + 2) I__law_text [d] h = .ok (.str (vtxt d)) h := by
  rcases l with l | ⟨ds, rfl, h1, h2⟩
  · rcases l with ⟨s, rfl, h1, h2⟩ | ⟨i, rfl, h1, h2⟩
    · exact lt_leaf (.inl ⟨s, rfl, h1, h2⟩)
    · exact lt_leaf (.inr ⟨i, rfl, h1, h2⟩)
  · refine Ok.eq ?_
    rw [e__law_text]
    unfold m__law_text
    simp only [w_bind, w_noX, w_ok, w_C, w_op2, w_asB, w_op3, w_and, w_or, w_not, w_test, w_bAnd, w_bOr, w_bNot, w_if, w_lif, w_tup, w_lst, w_alloc, w_vL, w_call, w_aNil, w_aCons, w_lCall, w_append, w_nil, w_lnil, w_seq, w_next, w_ret, w_set, w_expr, w_sif, w_sub, w_unp, w_fn1, w_fn2, w_fn3, w_fn4, w_fn5, w_join, w_vSrc, w_aSrc, w_lSrc, w_catLL, w_catOL, w_repL, w_sortV, w_asI, w_slE0, w_slE1, w_sl, q_srcT, q_srcS, q_srcR, q_zipT, q_slT, w_lc, w_forS, Int.toNat_natCast, v_0, v_S, List.replicate_succ, List.replicate_zero, Nat.reduceSub, List.getElem?_cons_zero, List.getElem?_cons_succ, List.set_cons_zero, List.set_cons_succ, if_true, if_false, Bool.false_eq_true, Bool.not_true, Bool.not_false, q_add, q_addT, q_addS, q_sub, q_eq, q_eqS, q_eqB, q_ne, q_neS, q_neB, q_lt, q_ltS, q_le, q_gt, q_ge, q_in1, q_nin1, q_isN, q_isnN, q_isB, q_isnB, q_isiI0, q_isiI1, q_isiI2, q_isiI3, q_isiI4, q_isiI5, q_isiB0, q_isiB1, q_isiB2, q_isiB3, q_isiB4, q_isiB5, q_isiS0, q_isiS1, q_isiS2, q_isiS3, q_isiS4, q_isiS5, q_isiT0, q_isiT1, q_isiT2, q_isiT3, q_isiT4, q_isiT5, q_isiR0, q_isiR1, q_isiR2, q_isiR3, q_isiR4, q_isiR5, q_isiN0, q_isiN1, q_isiN2, q_isiN3, q_isiN4, q_isiN5, q_lenS, q_lenT, q_lenR, q_min2, q_max2, q_strS, q_tupP, ix_0, ix_1, ix_2, ix_3]
    rw [w_lcI (by simp only [LIM]; omega)]
    simp only [wipeE, w_bind, w_noX, w_ok, w_C, w_op2, w_asB, w_op3, w_and, w_or, w_not, w_test, w_bAnd, w_bOr, w_bNot, w_if, w_lif, w_tup, w_lst, w_alloc, w_vL, w_call, w_aNil, w_aCons, w_lCall, w_append, w_nil, w_lnil, w_seq, w_next, w_ret, w_set, w_expr, w_sif, w_sub, w_unp, w_fn1, w_fn2, w_fn3, w_fn4, w_fn5, w_join, w_vSrc, w_aSrc, w_lSrc, w_catLL, w_catOL, w_repL, w_sortV, w_asI, w_slE0, w_slE1, w_sl, q_srcT, q_srcS, q_srcR, q_zipT, q_slT, w_lc, w_forS, Int.toNat_natCast, v_0, v_S, List.replicate_succ, List.replicate_zero, Nat.reduceSub, List.getElem?_cons_zero, List.getElem?_cons_succ, List.set_cons_zero, List.set_cons_succ, if_true, if_false, Bool.false_eq_true, Bool.not_true, Bool.not_false, q_add, q_addT, q_addS, q_sub, q_eq, q_eqS, q_eqB, q_ne, q_neS, q_neB, q_lt, q_ltS, q_le, q_gt, q_ge, q_in1, q_nin1, q_isN, q_isnN, q_isB, q_isnB, q_isiI0, q_isiI1, q_isiI2, q_isiI3, q_isiI4, q_isiI5, q_isiB0, q_isiB1, q_isiB2, q_isiB3, q_isiB4, q_isiB5, q_isiS0, q_isiS1, q_isiS2, q_isiS3, q_isiS4, q_isiS5, q_isiT0, q_isiT1, q_isiT2, q_isiT3, q_isiT4, q_isiT5, q_isiR0, q_isiR1, q_isiR2, q_isiR3, q_isiR4, q_isiR5, q_isiN0, q_isiN1, q_isiN2, q_isiN3, q_isiN4, q_isiN5, q_lenS, q_lenT, q_lenR, q_min2, q_max2, q_strS, q_tupP, ix_0, ix_1, ix_2, ix_3]
    have := lcL_map (elt := vCall (run (k + 1) I__law_text) (aCons (vVar 1) aNil)) (env := [some (D.tup ds), none]) (i := 1) (h := h) (xs := ds) (c := fun x => x) (fun x => .str (ptxt x)) fun x hx => Ok.eq (by simp only [w_bind, w_noX, w_ok, w_C, w_op2, w_asB, w_op3, w_and, w_or, w_not, w_test, w_bAnd, w_bOr, w_bNot, w_if, w_lif, w_tup, w_lst, w_alloc, w_vL, w_call, w_aNil, w_aCons, w_lCall, w_append, w_nil, w_lnil, w_seq, w_next, w_ret, w_set, w_expr, w_sif, w_sub, w_unp, w_fn1, w_fn2, w_fn3, w_fn4, w_fn5, w_join, w_vSrc, w_aSrc, w_lSrc, w_catLL, w_catOL, w_repL, w_sortV, w_asI, w_slE0, w_slE1, w_sl, q_srcT, q_srcS, q_srcR, q_zipT, q_slT, w_lc, w_forS, Int.toNat_natCast, v_0, v_S, List.replicate_succ, List.replicate_zero, Nat.reduceSub, List.getElem?_cons_zero, List.getElem?_cons_succ, List.set_cons_zero, List.set_cons_succ, if_true, if_false, Bool.false_eq_true, Bool.not_true, Bool.not_false, q_add, q_addT, q_addS, q_sub, q_eq, q_eqS, q_eqB, q_ne, q_neS, q_neB, q_lt, q_ltS, q_le, q_gt, q_ge, q_in1, q_nin1, q_isN, q_isnN, q_isB, q_isnB, q_isiI0, q_isiI1, q_isiI2, q_isiI3, q_isiI4, q_isiI5, q_isiB0, q_isiB1, q_isiB2, q_isiB3, q_isiB4, q_isiB5, q_isiS0, q_isiS1, q_isiS2, q_isiS3, q_isiS4, q_isiS5, q_isiT0, q_isiT1, q_isiT2, q_isiT3, q_isiT4, q_isiT5, q_isiR0, q_isiR1, q_isiR2, q_isiR3, q_isiR4, q_isiR5, q_isiN0, q_isiN1, q_isiN2, q_isiN3, q_isiN4, q_isiN5, q_lenS, q_lenT, q_lenR, q_min2, q_max2, q_strS, q_tupP, ix_0, ix_1, ix_2, ix_3, lt_leaf (h2 x hx), and_self])
    rw [List.map_id'] at this
    have sl := sum_le (f := ptxt) (c := 4) ds fun x hx => (h2 x hx).len
    have j := join_strs (ps := ds.map ptxt) (h := h) (by simp only [LIM]; omega)
    rw [List.map_map] at j
    rw [this, w_ok]
    show Ok (joinP (.str []) (ds.map (D.str ∘ ptxt)) h) _
    rw [j, w_ok]
    exact ⟨rfl, rfl⟩
theorem lt_rec {ds : List D} (hl : ds.length ≤ 100) (hv : ∀ x ∈ ds, Valu x) : run (k + 3) I__law_text [.tup ds] h = .ok (.str (ds.map vtxt).flatten) h := Ok.eq (by
  rw [e__law_text]
  unfold m__law_text
  simp only [w_bind, w_noX, w_ok, w_C, w_op2, w_asB, w_op3, w_and, w_or, w_not, w_test, w_bAnd, w_bOr, w_bNot, w_if, w_lif, w_tup, w_lst, w_alloc, w_vL, w_call, w_aNil, w_aCons, w_lCall, w_append, w_nil, w_lnil, w_seq, w_next, w_ret, w_set, w_expr, w_sif, w_sub, w_unp, w_fn1, w_fn2, w_fn3, w_fn4, w_fn5, w_join, w_vSrc, w_aSrc, w_lSrc, w_catLL, w_catOL, w_repL, w_sortV, w_asI, w_slE0, w_slE1, w_sl, q_srcT, q_srcS, q_srcR, q_zipT, q_slT, w_lc, w_forS, Int.toNat_natCast, v_0, v_S, List.replicate_succ, List.replicate_zero, Nat.reduceSub, List.getElem?_cons_zero, List.getElem?_cons_succ, List.set_cons_zero, List.set_cons_succ, if_true, if_false, Bool.false_eq_true, Bool.not_true, Bool.not_false, q_add, q_addT, q_addS, q_sub, q_eq, q_eqS, q_eqB, q_ne, q_neS, q_neB, q_lt, q_ltS, q_le, q_gt, q_ge, q_in1, q_nin1, q_isN, q_isnN, q_isB, q_isnB, q_isiI0, q_isiI1, q_isiI2, q_isiI3, q_isiI4, q_isiI5, q_isiB0, q_isiB1, q_isiB2, q_isiB3, q_isiB4, q_isiB5, q_isiS0, q_isiS1, q_isiS2, q_isiS3, q_isiS4, q_isiS5, q_isiT0, q_isiT1, q_isiT2, q_isiT3, q_isiT4, q_isiT5, q_isiR0, q_isiR1, q_isiR2, q_isiR3, q_isiR4, q_isiR5, q_isiN0, q_isiN1, q_isiN2, q_isiN3, q_isiN4, q_isiN5, q_lenS, q_lenT, q_lenR, q_min2, q_max2, q_strS, q_tupP, ix_0, ix_1, ix_2, ix_3]
  rw [w_lcI (by simp only [LIM]; omega)]
  simp only [wipeE, w_bind, w_noX, w_ok, w_C, w_op2, w_asB, w_op3, w_and, w_or, w_not, w_test, w_bAnd, w_bOr, w_bNot, w_if, w_lif, w_tup, w_lst, w_alloc, w_vL, w_call, w_aNil, w_aCons, w_lCall, w_append, w_nil, w_lnil, w_seq, w_next, w_ret, w_set, w_expr, w_sif, w_sub, w_unp, w_fn1, w_fn2, w_fn3, w_fn4, w_fn5, w_join, w_vSrc, w_aSrc, w_lSrc, w_catLL, w_catOL, w_repL, w_sortV, w_asI, w_slE0, w_slE1, w_sl, q_srcT, q_srcS, q_srcR, q_zipT, q_slT, w_lc, w_forS, Int.toNat_natCast, v_0, v_S, List.replicate_succ, List.replicate_zero, Nat.reduceSub, List.getElem?_cons_zero, List.getElem?_cons_succ, List.set_cons_zero, List.set_cons_succ, if_true, if_false, Bool.false_eq_true, Bool.not_true, Bool.not_false, q_add, q_addT, q_addS, q_sub, q_eq, q_eqS, q_eqB, q_ne, q_neS, q_neB, q_lt, q_ltS, q_le, q_gt, q_ge, q_in1, q_nin1, q_isN, q_isnN, q_isB, q_isnB, q_isiI0, q_isiI1, q_isiI2, q_isiI3, q_isiI4, q_isiI5, q_isiB0, q_isiB1, q_isiB2, q_isiB3, q_isiB4, q_isiB5, q_isiS0, q_isiS1, q_isiS2, q_isiS3, q_isiS4, q_isiS5, q_isiT0, q_isiT1, q_isiT2, q_isiT3, q_isiT4, q_isiT5, q_isiR0, q_isiR1, q_isiR2, q_isiR3, q_isiR4, q_isiR5, q_isiN0, q_isiN1, q_isiN2, q_isiN3, q_isiN4, q_isiN5, q_lenS, q_lenT, q_lenR, q_min2, q_max2, q_strS, q_tupP, ix_0, ix_1, ix_2, ix_3]
  have := lcL_map (elt := vCall (run (k + 2) I__law_text) (aCons (vVar 1) aNil)) (env := [some (D.tup ds), none]) (i := 1) (h := h) (xs := ds) (c := fun x => x) (fun x => .str (vtxt x)) fun x hx => Ok.eq (by simp only [w_bind, w_noX, w_ok, w_C, w_op2, w_asB, w_op3, w_and, w_or, w_not, w_test, w_bAnd, w_bOr, w_bNot, w_if, w_lif, w_tup, w_lst, w_alloc, w_vL, w_call, w_aNil, w_aCons, w_lCall, w_append, w_nil, w_lnil, w_seq, w_next, w_ret, w_set, w_expr, w_sif, w_sub, w_unp, w_fn1, w_fn2, w_fn3, w_fn4, w_fn5, w_join, w_vSrc, w_aSrc, w_lSrc, w_catLL, w_catOL, w_repL, w_sortV, w_asI, w_slE0, w_slE1, w_sl, q_srcT, q_srcS, q_srcR, q_zipT, q_slT, w_lc, w_forS, Int.toNat_natCast, v_0, v_S, List.replicate_succ, List.replicate_zero, Nat.reduceSub, List.getElem?_cons_zero, List.getElem?_cons_succ, List.set_cons_zero, List.set_cons_succ, if_true, if_false, Bool.false_eq_true, Bool.not_true, Bool.not_false, q_add, q_addT, q_addS, q_sub, q_eq, q_eqS, q_eqB, q_ne, q_neS, q_neB, q_lt, q_ltS, q_le, q_gt, q_ge, q_in1, q_nin1, q_isN, q_isnN, q_isB, q_isnB, q_isiI0, q_isiI1, q_isiI2, q_isiI3, q_isiI4, q_isiI5, q_isiB0, q_isiB1, q_isiB2, q_isiB3, q_isiB4, q_isiB5, q_isiS0, q_isiS1, q_isiS2, q_isiS3, q_isiS4, q_isiS5, q_isiT0, q_isiT1, q_isiT2, q_isiT3, q_isiT4, q_isiT5, q_isiR0, q_isiR1, q_isiR2, q_isiR3, q_isiR4, q_isiR5, q_isiN0, q_isiN1, q_isiN2, q_isiN3, q_isiN4, q_isiN5, q_lenS, q_lenT, q_lenR, q_min2, q_max2, q_strS, q_tupP, ix_0, ix_1, ix_2, ix_3, lt_val (hv x hx), and_self])
  rw [List.map_id'] at this
  have sl := sum_le (f := vtxt) (c := 12) ds fun x hx => (hv x hx).len
  have j := join_strs (ps := ds.map vtxt) (h := h) (by simp only [LIM]; omega)
  rw [List.map_map] at j
  rw [this, w_ok]
  show Ok (joinP (.str []) (ds.map (D.str ∘ vtxt)) h) _
  rw [j, w_ok]
  exact ⟨rfl, rfl⟩)
theorem min_lens {ts : List Sg} (h1 : 1 ≤ ts.length) : minP (ts.map fun s => .int ((fun t : Sg => (t.length : Int)) s)) h = .ok (.int (least (lens ts))) h := by
  unfold minP
  rw [intsOf_map]
  cases ts with
  | nil => simp at h1
  | cons t ts => rfl
theorem max_lens {ts : List Sg} (h1 : 1 ≤ ts.length) : maxP (ts.map fun s => .int ((fun t : Sg => (t.length : Int)) s)) h = .ok (.int (most (lens ts))) h := by
  unfold maxP
  rw [intsOf_map]
  cases ts with
  | nil => simp at h1
  | cons t ts => rfl
theorem bd_S {f : SF} (fo : f.Ok) : run (k + 1) I_bounds_of [f.d] h = .ok (.tup [.int f.lo, .int f.hi]) h := Ok.eq (by
  rw [e_bounds_of]
  unfold m_bounds_of
  cases f with
  | word s =>
    have l := lenV_str (h := h) (bas_str (s := s) (by have := fo.2.1; omega) (txok_lt fo))
    simp only [SF.d, w_bind, w_noX, w_ok, w_C, w_op2, w_asB, w_op3, w_and, w_or, w_not, w_test, w_bAnd, w_bOr, w_bNot, w_if, w_lif, w_tup, w_lst, w_alloc, w_vL, w_call, w_aNil, w_aCons, w_lCall, w_append, w_nil, w_lnil, w_seq, w_next, w_ret, w_set, w_expr, w_sif, w_sub, w_unp, w_fn1, w_fn2, w_fn3, w_fn4, w_fn5, w_join, w_vSrc, w_aSrc, w_lSrc, w_catLL, w_catOL, w_repL, w_sortV, w_asI, w_slE0, w_slE1, w_sl, q_srcT, q_srcS, q_srcR, q_zipT, q_slT, w_lc, w_forS, Int.toNat_natCast, v_0, v_S, List.replicate_succ, List.replicate_zero, Nat.reduceSub, List.getElem?_cons_zero, List.getElem?_cons_succ, List.set_cons_zero, List.set_cons_succ, if_true, if_false, Bool.false_eq_true, Bool.not_true, Bool.not_false, q_add, q_addT, q_addS, q_sub, q_eq, q_eqS, q_eqB, q_ne, q_neS, q_neB, q_lt, q_ltS, q_le, q_gt, q_ge, q_in1, q_nin1, q_isN, q_isnN, q_isB, q_isnB, q_isiI0, q_isiI1, q_isiI2, q_isiI3, q_isiI4, q_isiI5, q_isiB0, q_isiB1, q_isiB2, q_isiB3, q_isiB4, q_isiB5, q_isiS0, q_isiS1, q_isiS2, q_isiS3, q_isiS4, q_isiS5, q_isiT0, q_isiT1, q_isiT2, q_isiT3, q_isiT4, q_isiT5, q_isiR0, q_isiR1, q_isiR2, q_isiR3, q_isiR4, q_isiR5, q_isiN0, q_isiN1, q_isiN2, q_isiN3, q_isiN4, q_isiN5, q_lenS, q_lenT, q_lenR, q_min2, q_max2, q_strS, q_tupP, ix_0, ix_1, ix_2, ix_3, List.length_cons, List.length_nil, lim_0, lim_1, lim_2, lim_3, lim_4, lim_5, lim_6, lim_7, lim_8, lim_9, lim_10, lim_11, lim_12, lim_13, lim_14, lim_15, lim_16, lim_17, lim_18, lim_19, lim_20, lim_21, lim_22, lim_23, Nat.reduceAdd, Nat.reduceLeDiff, decide_true, decide_false, List.cons.injEq, reduceCtorEq, and_false, false_and, and_true, true_and, Nat.reduceEqDiff, Int.reduceLE, Int.reduceEq, Int.reduceLT, l, SF.lo, SF.hi, and_self]
  | digits lo hi => simp only [SF.d, w_bind, w_noX, w_ok, w_C, w_op2, w_asB, w_op3, w_and, w_or, w_not, w_test, w_bAnd, w_bOr, w_bNot, w_if, w_lif, w_tup, w_lst, w_alloc, w_vL, w_call, w_aNil, w_aCons, w_lCall, w_append, w_nil, w_lnil, w_seq, w_next, w_ret, w_set, w_expr, w_sif, w_sub, w_unp, w_fn1, w_fn2, w_fn3, w_fn4, w_fn5, w_join, w_vSrc, w_aSrc, w_lSrc, w_catLL, w_catOL, w_repL, w_sortV, w_asI, w_slE0, w_slE1, w_sl, q_srcT, q_srcS, q_srcR, q_zipT, q_slT, w_lc, w_forS, Int.toNat_natCast, v_0, v_S, List.replicate_succ, List.replicate_zero, Nat.reduceSub, List.getElem?_cons_zero, List.getElem?_cons_succ, List.set_cons_zero, List.set_cons_succ, if_true, if_false, Bool.false_eq_true, Bool.not_true, Bool.not_false, q_add, q_addT, q_addS, q_sub, q_eq, q_eqS, q_eqB, q_ne, q_neS, q_neB, q_lt, q_ltS, q_le, q_gt, q_ge, q_in1, q_nin1, q_isN, q_isnN, q_isB, q_isnB, q_isiI0, q_isiI1, q_isiI2, q_isiI3, q_isiI4, q_isiI5, q_isiB0, q_isiB1, q_isiB2, q_isiB3, q_isiB4, q_isiB5, q_isiS0, q_isiS1, q_isiS2, q_isiS3, q_isiS4, q_isiS5, q_isiT0, q_isiT1, q_isiT2, q_isiT3, q_isiT4, q_isiT5, q_isiR0, q_isiR1, q_isiR2, q_isiR3, q_isiR4, q_isiR5, q_isiN0, q_isiN1, q_isiN2, q_isiN3, q_isiN4, q_isiN5, q_lenS, q_lenT, q_lenR, q_min2, q_max2, q_strS, q_tupP, ix_0, ix_1, ix_2, ix_3, List.length_cons, List.length_nil, lim_0, lim_1, lim_2, lim_3, lim_4, lim_5, lim_6, lim_7, lim_8, lim_9, lim_10, lim_11, lim_12, lim_13, lim_14, lim_15, lim_16, lim_17, lim_18, lim_19, lim_20, lim_21, lim_22, lim_23, Nat.reduceAdd, Nat.reduceLeDiff, decide_true, decide_false, List.cons.injEq, reduceCtorEq, and_false, false_and, and_true, true_and, Nat.reduceEqDiff, Int.reduceLE, Int.reduceEq, Int.reduceLT, SF.lo, SF.hi, and_self]
  | letters lo hi => simp only [SF.d, w_bind, w_noX, w_ok, w_C, w_op2, w_asB, w_op3, w_and, w_or, w_not, w_test, w_bAnd, w_bOr, w_bNot, w_if, w_lif, w_tup, w_lst, w_alloc, w_vL, w_call, w_aNil, w_aCons, w_lCall, w_append, w_nil, w_lnil, w_seq, w_next, w_ret, w_set, w_expr, w_sif, w_sub, w_unp, w_fn1, w_fn2, w_fn3, w_fn4, w_fn5, w_join, w_vSrc, w_aSrc, w_lSrc, w_catLL, w_catOL, w_repL, w_sortV, w_asI, w_slE0, w_slE1, w_sl, q_srcT, q_srcS, q_srcR, q_zipT, q_slT, w_lc, w_forS, Int.toNat_natCast, v_0, v_S, List.replicate_succ, List.replicate_zero, Nat.reduceSub, List.getElem?_cons_zero, List.getElem?_cons_succ, List.set_cons_zero, List.set_cons_succ, if_true, if_false, Bool.false_eq_true, Bool.not_true, Bool.not_false, q_add, q_addT, q_addS, q_sub, q_eq, q_eqS, q_eqB, q_ne, q_neS, q_neB, q_lt, q_ltS, q_le, q_gt, q_ge, q_in1, q_nin1, q_isN, q_isnN, q_isB, q_isnB, q_isiI0, q_isiI1, q_isiI2, q_isiI3, q_isiI4, q_isiI5, q_isiB0, q_isiB1, q_isiB2, q_isiB3, q_isiB4, q_isiB5, q_isiS0, q_isiS1, q_isiS2, q_isiS3, q_isiS4, q_isiS5, q_isiT0, q_isiT1, q_isiT2, q_isiT3, q_isiT4, q_isiT5, q_isiR0, q_isiR1, q_isiR2, q_isiR3, q_isiR4, q_isiR5, q_isiN0, q_isiN1, q_isiN2, q_isiN3, q_isiN4, q_isiN5, q_lenS, q_lenT, q_lenR, q_min2, q_max2, q_strS, q_tupP, ix_0, ix_1, ix_2, ix_3, List.length_cons, List.length_nil, lim_0, lim_1, lim_2, lim_3, lim_4, lim_5, lim_6, lim_7, lim_8, lim_9, lim_10, lim_11, lim_12, lim_13, lim_14, lim_15, lim_16, lim_17, lim_18, lim_19, lim_20, lim_21, lim_22, lim_23, Nat.reduceAdd, Nat.reduceLeDiff, decide_true, decide_false, List.cons.injEq, reduceCtorEq, and_false, false_and, and_true, true_and, Nat.reduceEqDiff, Int.reduceLE, Int.reduceEq, Int.reduceLT, SF.lo, SF.hi, and_self]
  | number n => simp only [SF.d, w_bind, w_noX, w_ok, w_C, w_op2, w_asB, w_op3, w_and, w_or, w_not, w_test, w_bAnd, w_bOr, w_bNot, w_if, w_lif, w_tup, w_lst, w_alloc, w_vL, w_call, w_aNil, w_aCons, w_lCall, w_append, w_nil, w_lnil, w_seq, w_next, w_ret, w_set, w_expr, w_sif, w_sub, w_unp, w_fn1, w_fn2, w_fn3, w_fn4, w_fn5, w_join, w_vSrc, w_aSrc, w_lSrc, w_catLL, w_catOL, w_repL, w_sortV, w_asI, w_slE0, w_slE1, w_sl, q_srcT, q_srcS, q_srcR, q_zipT, q_slT, w_lc, w_forS, Int.toNat_natCast, v_0, v_S, List.replicate_succ, List.replicate_zero, Nat.reduceSub, List.getElem?_cons_zero, List.getElem?_cons_succ, List.set_cons_zero, List.set_cons_succ, if_true, if_false, Bool.false_eq_true, Bool.not_true, Bool.not_false, q_add, q_addT, q_addS, q_sub, q_eq, q_eqS, q_eqB, q_ne, q_neS, q_neB, q_lt, q_ltS, q_le, q_gt, q_ge, q_in1, q_nin1, q_isN, q_isnN, q_isB, q_isnB, q_isiI0, q_isiI1, q_isiI2, q_isiI3, q_isiI4, q_isiI5, q_isiB0, q_isiB1, q_isiB2, q_isiB3, q_isiB4, q_isiB5, q_isiS0, q_isiS1, q_isiS2, q_isiS3, q_isiS4, q_isiS5, q_isiT0, q_isiT1, q_isiT2, q_isiT3, q_isiT4, q_isiT5, q_isiR0, q_isiR1, q_isiR2, q_isiR3, q_isiR4, q_isiR5, q_isiN0, q_isiN1, q_isiN2, q_isiN3, q_isiN4, q_isiN5, q_lenS, q_lenT, q_lenR, q_min2, q_max2, q_strS, q_tupP, ix_0, ix_1, ix_2, ix_3, List.length_cons, List.length_nil, lim_0, lim_1, lim_2, lim_3, lim_4, lim_5, lim_6, lim_7, lim_8, lim_9, lim_10, lim_11, lim_12, lim_13, lim_14, lim_15, lim_16, lim_17, lim_18, lim_19, lim_20, lim_21, lim_22, lim_23, Nat.reduceAdd, Nat.reduceLeDiff, decide_true, decide_false, List.cons.injEq, reduceCtorEq, and_false, false_and, and_true, true_and, Nat.reduceEqDiff, Int.reduceLE, Int.reduceEq, Int.reduceLT, SF.lo, SF.hi, and_self]
  | choice ts =>
    obtain ⟨f1, f2, f3, f4⟩ := fo
    simp only [SF.d, w_bind, w_noX, w_ok, w_C, w_op2, w_asB, w_op3, w_and, w_or, w_not, w_test, w_bAnd, w_bOr, w_bNot, w_if, w_lif, w_tup, w_lst, w_alloc, w_vL, w_call, w_aNil, w_aCons, w_lCall, w_append, w_nil, w_lnil, w_seq, w_next, w_ret, w_set, w_expr, w_sif, w_sub, w_unp, w_fn1, w_fn2, w_fn3, w_fn4, w_fn5, w_join, w_vSrc, w_aSrc, w_lSrc, w_catLL, w_catOL, w_repL, w_sortV, w_asI, w_slE0, w_slE1, w_sl, q_srcT, q_srcS, q_srcR, q_zipT, q_slT, w_lc, w_forS, Int.toNat_natCast, v_0, v_S, List.replicate_succ, List.replicate_zero, Nat.reduceSub, List.getElem?_cons_zero, List.getElem?_cons_succ, List.set_cons_zero, List.set_cons_succ, if_true, if_false, Bool.false_eq_true, Bool.not_true, Bool.not_false, q_add, q_addT, q_addS, q_sub, q_eq, q_eqS, q_eqB, q_ne, q_neS, q_neB, q_lt, q_ltS, q_le, q_gt, q_ge, q_in1, q_nin1, q_isN, q_isnN, q_isB, q_isnB, q_isiI0, q_isiI1, q_isiI2, q_isiI3, q_isiI4, q_isiI5, q_isiB0, q_isiB1, q_isiB2, q_isiB3, q_isiB4, q_isiB5, q_isiS0, q_isiS1, q_isiS2, q_isiS3, q_isiS4, q_isiS5, q_isiT0, q_isiT1, q_isiT2, q_isiT3, q_isiT4, q_isiT5, q_isiR0, q_isiR1, q_isiR2, q_isiR3, q_isiR4, q_isiR5, q_isiN0, q_isiN1, q_isiN2, q_isiN3, q_isiN4, q_isiN5, q_lenS, q_lenT, q_lenR, q_min2, q_max2, q_strS, q_tupP, ix_0, ix_1, ix_2, ix_3, List.length_cons, List.length_nil, lim_0, lim_1, lim_2, lim_3, lim_4, lim_5, lim_6, lim_7, lim_8, lim_9, lim_10, lim_11, lim_12, lim_13, lim_14, lim_15, lim_16, lim_17, lim_18, lim_19, lim_20, lim_21, lim_22, lim_23, Nat.reduceAdd, Nat.reduceLeDiff, decide_true, decide_false, List.cons.injEq, reduceCtorEq, and_false, false_and, and_true, true_and, Nat.reduceEqDiff, Int.reduceLE, Int.reduceEq, Int.reduceLT]
    rw [w_lcI (by simp only [List.length_map, LIM]; omega)]
    simp only [wipeE, w_bind, w_noX, w_ok, w_C, w_op2, w_asB, w_op3, w_and, w_or, w_not, w_test, w_bAnd, w_bOr, w_bNot, w_if, w_lif, w_tup, w_lst, w_alloc, w_vL, w_call, w_aNil, w_aCons, w_lCall, w_append, w_nil, w_lnil, w_seq, w_next, w_ret, w_set, w_expr, w_sif, w_sub, w_unp, w_fn1, w_fn2, w_fn3, w_fn4, w_fn5, w_join, w_vSrc, w_aSrc, w_lSrc, w_catLL, w_catOL, w_repL, w_sortV, w_asI, w_slE0, w_slE1, w_sl, q_srcT, q_srcS, q_srcR, q_zipT, q_slT, w_lc, w_forS, Int.toNat_natCast, v_0, v_S, List.replicate_succ, List.replicate_zero, Nat.reduceSub, List.getElem?_cons_zero, List.getElem?_cons_succ, List.set_cons_zero, List.set_cons_succ, if_true, if_false, Bool.false_eq_true, Bool.not_true, Bool.not_false, q_add, q_addT, q_addS, q_sub, q_eq, q_eqS, q_eqB, q_ne, q_neS, q_neB, q_lt, q_ltS, q_le, q_gt, q_ge, q_in1, q_nin1, q_isN, q_isnN, q_isB, q_isnB, q_isiI0, q_isiI1, q_isiI2, q_isiI3, q_isiI4, q_isiI5, q_isiB0, q_isiB1, q_isiB2, q_isiB3, q_isiB4, q_isiB5, q_isiS0, q_isiS1, q_isiS2, q_isiS3, q_isiS4, q_isiS5, q_isiT0, q_isiT1, q_isiT2, q_isiT3, q_isiT4, q_isiT5, q_isiR0, q_isiR1, q_isiR2, q_isiR3, q_isiR4, q_isiR5, q_isiN0, q_isiN1, q_isiN2, q_isiN3, q_isiN4, q_isiN5, q_lenS, q_lenT, q_lenR, q_min2, q_max2, q_strS, q_tupP, ix_0, ix_1, ix_2, ix_3]
    rw [lcL_map (fun s => .int ((fun t : Sg => (t.length : Int)) s)) fun s hs => Ok.eq (by simp only [w_bind, w_noX, w_ok, w_C, w_op2, w_asB, w_op3, w_and, w_or, w_not, w_test, w_bAnd, w_bOr, w_bNot, w_if, w_lif, w_tup, w_lst, w_alloc, w_vL, w_call, w_aNil, w_aCons, w_lCall, w_append, w_nil, w_lnil, w_seq, w_next, w_ret, w_set, w_expr, w_sif, w_sub, w_unp, w_fn1, w_fn2, w_fn3, w_fn4, w_fn5, w_join, w_vSrc, w_aSrc, w_lSrc, w_catLL, w_catOL, w_repL, w_sortV, w_asI, w_slE0, w_slE1, w_sl, q_srcT, q_srcS, q_srcR, q_zipT, q_slT, w_lc, w_forS, Int.toNat_natCast, v_0, v_S, List.replicate_succ, List.replicate_zero, Nat.reduceSub, List.getElem?_cons_zero, List.getElem?_cons_succ, List.set_cons_zero, List.set_cons_succ, if_true, if_false, Bool.false_eq_true, Bool.not_true, Bool.not_false, q_add, q_addT, q_addS, q_sub, q_eq, q_eqS, q_eqB, q_ne, q_neS, q_neB, q_lt, q_ltS, q_le, q_gt, q_ge, q_in1, q_nin1, q_isN, q_isnN, q_isB, q_isnB, q_isiI0, q_isiI1, q_isiI2, q_isiI3, q_isiI4, q_isiI5, q_isiB0, q_isiB1, q_isiB2, q_isiB3, q_isiB4, q_isiB5, q_isiS0, q_isiS1, q_isiS2, q_isiS3, q_isiS4, q_isiS5, q_isiT0, q_isiT1, q_isiT2, q_isiT3, q_isiT4, q_isiT5, q_isiR0, q_isiR1, q_isiR2, q_isiR3, q_isiR4, q_isiR5, q_isiN0, q_isiN1, q_isiN2, q_isiN3, q_isiN4, q_isiN5, q_lenS, q_lenT, q_lenR, q_min2, q_max2, q_strS, q_tupP, ix_0, ix_1, ix_2, ix_3, lenV_str (bas_str (by have := (f3 s hs).2.1; omega) (txok_lt (f3 s hs))), and_self]), w_ok]
    rw [min_lens f1, w_ok]
    rw [w_lcI (by simp only [List.length_map, LIM]; omega)]
    rw [lcL_map (fun s => .int ((fun t : Sg => (t.length : Int)) s)) fun s hs => Ok.eq (by simp only [w_bind, w_noX, w_ok, w_C, w_op2, w_asB, w_op3, w_and, w_or, w_not, w_test, w_bAnd, w_bOr, w_bNot, w_if, w_lif, w_tup, w_lst, w_alloc, w_vL, w_call, w_aNil, w_aCons, w_lCall, w_append, w_nil, w_lnil, w_seq, w_next, w_ret, w_set, w_expr, w_sif, w_sub, w_unp, w_fn1, w_fn2, w_fn3, w_fn4, w_fn5, w_join, w_vSrc, w_aSrc, w_lSrc, w_catLL, w_catOL, w_repL, w_sortV, w_asI, w_slE0, w_slE1, w_sl, q_srcT, q_srcS, q_srcR, q_zipT, q_slT, w_lc, w_forS, Int.toNat_natCast, v_0, v_S, List.replicate_succ, List.replicate_zero, Nat.reduceSub, List.getElem?_cons_zero, List.getElem?_cons_succ, List.set_cons_zero, List.set_cons_succ, if_true, if_false, Bool.false_eq_true, Bool.not_true, Bool.not_false, q_add, q_addT, q_addS, q_sub, q_eq, q_eqS, q_eqB, q_ne, q_neS, q_neB, q_lt, q_ltS, q_le, q_gt, q_ge, q_in1, q_nin1, q_isN, q_isnN, q_isB, q_isnB, q_isiI0, q_isiI1, q_isiI2, q_isiI3, q_isiI4, q_isiI5, q_isiB0, q_isiB1, q_isiB2, q_isiB3, q_isiB4, q_isiB5, q_isiS0, q_isiS1, q_isiS2, q_isiS3, q_isiS4, q_isiS5, q_isiT0, q_isiT1, q_isiT2, q_isiT3, q_isiT4, q_isiT5, q_isiR0, q_isiR1, q_isiR2, q_isiR3, q_isiR4, q_isiR5, q_isiN0, q_isiN1, q_isiN2, q_isiN3, q_isiN4, q_isiN5, q_lenS, q_lenT, q_lenR, q_min2, q_max2, q_strS, q_tupP, ix_0, ix_1, ix_2, ix_3, lenV_str (bas_str (by have := (f3 s hs).2.1; omega) (txok_lt (f3 s hs))), and_self]), w_ok]
    rw [max_lens f1, w_ok]
    simp only [List.length_cons, List.length_nil, lim_0, lim_1, lim_2, lim_3, lim_4, lim_5, lim_6, lim_7, lim_8, lim_9, lim_10, lim_11, lim_12, lim_13, lim_14, lim_15, lim_16, lim_17, lim_18, lim_19, lim_20, lim_21, lim_22, lim_23, Nat.reduceAdd, Nat.reduceLeDiff, SF.lo, SF.hi, w_bind, w_noX, w_ok, w_C, w_op2, w_asB, w_op3, w_and, w_or, w_not, w_test, w_bAnd, w_bOr, w_bNot, w_if, w_lif, w_tup, w_lst, w_alloc, w_vL, w_call, w_aNil, w_aCons, w_lCall, w_append, w_nil, w_lnil, w_seq, w_next, w_ret, w_set, w_expr, w_sif, w_sub, w_unp, w_fn1, w_fn2, w_fn3, w_fn4, w_fn5, w_join, w_vSrc, w_aSrc, w_lSrc, w_catLL, w_catOL, w_repL, w_sortV, w_asI, w_slE0, w_slE1, w_sl, q_srcT, q_srcS, q_srcR, q_zipT, q_slT, w_lc, w_forS, Int.toNat_natCast, v_0, v_S, List.replicate_succ, List.replicate_zero, Nat.reduceSub, List.getElem?_cons_zero, List.getElem?_cons_succ, List.set_cons_zero, List.set_cons_succ, if_true, if_false, Bool.false_eq_true, Bool.not_true, Bool.not_false, q_add, q_addT, q_addS, q_sub, q_eq, q_eqS, q_eqB, q_ne, q_neS, q_neB, q_lt, q_ltS, q_le, q_gt, q_ge, q_in1, q_nin1, q_isN, q_isnN, q_isB, q_isnB, q_isiI0, q_isiI1, q_isiI2, q_isiI3, q_isiI4, q_isiI5, q_isiB0, q_isiB1, q_isiB2, q_isiB3, q_isiB4, q_isiB5, q_isiS0, q_isiS1, q_isiS2, q_isiS3, q_isiS4, q_isiS5, q_isiT0, q_isiT1, q_isiT2, q_isiT3, q_isiT4, q_isiT5, q_isiR0, q_isiR1, q_isiR2, q_isiR3, q_isiR4, q_isiR5, q_isiN0, q_isiN1, q_isiN2, q_isiN3, q_isiN4, q_isiN5, q_lenS, q_lenT, q_lenR, q_min2, q_max2, q_strS, q_tupP, ix_0, ix_1, ix_2, ix_3, and_self])
theorem bd_F {f : FF} (fo : f.Ok) : run (k + 2) I_bounds_of [f.d] h = .ok (.tup [.int f.lo, .int f.hi]) h := by
  cases f with
  | one s => exact bd_S fo
  | rep s lo hi =>
    refine Ok.eq ?_
    obtain ⟨f0, f1, f2, f3⟩ := fo
    rw [e_bounds_of]
    unfold m_bounds_of
    have m1 : ∀ a : Int, mulOk a (lo : Int) = true := fun a => by simp only [mulOk, Bool.or_eq_true, decide_eq_true_eq]; right; omega
    have m2 : ∀ a : Int, mulOk a (hi : Int) = true := fun a => by simp only [mulOk, Bool.or_eq_true, decide_eq_true_eq]; right; omega
    simp only [FF.d, w_bind, w_noX, w_ok, w_C, w_op2, w_asB, w_op3, w_and, w_or, w_not, w_test, w_bAnd, w_bOr, w_bNot, w_if, w_lif, w_tup, w_lst, w_alloc, w_vL, w_call, w_aNil, w_aCons, w_lCall, w_append, w_nil, w_lnil, w_seq, w_next, w_ret, w_set, w_expr, w_sif, w_sub, w_unp, w_fn1, w_fn2, w_fn3, w_fn4, w_fn5, w_join, w_vSrc, w_aSrc, w_lSrc, w_catLL, w_catOL, w_repL, w_sortV, w_asI, w_slE0, w_slE1, w_sl, q_srcT, q_srcS, q_srcR, q_zipT, q_slT, w_lc, w_forS, Int.toNat_natCast, v_0, v_S, List.replicate_succ, List.replicate_zero, Nat.reduceSub, List.getElem?_cons_zero, List.getElem?_cons_succ, List.set_cons_zero, List.set_cons_succ, if_true, if_false, Bool.false_eq_true, Bool.not_true, Bool.not_false, q_add, q_addT, q_addS, q_sub, q_eq, q_eqS, q_eqB, q_ne, q_neS, q_neB, q_lt, q_ltS, q_le, q_gt, q_ge, q_in1, q_nin1, q_isN, q_isnN, q_isB, q_isnB, q_isiI0, q_isiI1, q_isiI2, q_isiI3, q_isiI4, q_isiI5, q_isiB0, q_isiB1, q_isiB2, q_isiB3, q_isiB4, q_isiB5, q_isiS0, q_isiS1, q_isiS2, q_isiS3, q_isiS4, q_isiS5, q_isiT0, q_isiT1, q_isiT2, q_isiT3, q_isiT4, q_isiT5, q_isiR0, q_isiR1, q_isiR2, q_isiR3, q_isiR4, q_isiR5, q_isiN0, q_isiN1, q_isiN2, q_isiN3, q_isiN4, q_isiN5, q_lenS, q_lenT, q_lenR, q_min2, q_max2, q_strS, q_tupP, ix_0, ix_1, ix_2, ix_3, List.length_cons, List.length_nil, lim_0, lim_1, lim_2, lim_3, lim_4, lim_5, lim_6, lim_7, lim_8, lim_9, lim_10, lim_11, lim_12, lim_13, lim_14, lim_15, lim_16, lim_17, lim_18, lim_19, lim_20, lim_21, lim_22, lim_23, Nat.reduceAdd, Nat.reduceLeDiff, decide_true, decide_false, List.cons.injEq, reduceCtorEq, and_false, false_and, and_true, true_and, Nat.reduceEqDiff, Int.reduceLE, Int.reduceEq, Int.reduceLT, bd_S f0, tgM, setAll, q_mul (m1 _), q_mul (m2 _), FF.lo, FF.hi, and_self]
theorem ll_S {f : SF} (fo : f.Ok) : run (k + 1) I__law_lengths [f.d] h = .ok (.tup [.int f.lo, .int f.hi]) h := Ok.eq (by
  rw [e__law_lengths]
  unfold m__law_lengths
  cases f with
  | word s =>
    have l := lenV_str (h := h) (bas_str (s := s) (by have := fo.2.1; omega) (txok_lt fo))
    simp only [SF.d, w_bind, w_noX, w_ok, w_C, w_op2, w_asB, w_op3, w_and, w_or, w_not, w_test, w_bAnd, w_bOr, w_bNot, w_if, w_lif, w_tup, w_lst, w_alloc, w_vL, w_call, w_aNil, w_aCons, w_lCall, w_append, w_nil, w_lnil, w_seq, w_next, w_ret, w_set, w_expr, w_sif, w_sub, w_unp, w_fn1, w_fn2, w_fn3, w_fn4, w_fn5, w_join, w_vSrc, w_aSrc, w_lSrc, w_catLL, w_catOL, w_repL, w_sortV, w_asI, w_slE0, w_slE1, w_sl, q_srcT, q_srcS, q_srcR, q_zipT, q_slT, w_lc, w_forS, Int.toNat_natCast, v_0, v_S, List.replicate_succ, List.replicate_zero, Nat.reduceSub, List.getElem?_cons_zero, List.getElem?_cons_succ, List.set_cons_zero, List.set_cons_succ, if_true, if_false, Bool.false_eq_true, Bool.not_true, Bool.not_false, q_add, q_addT, q_addS, q_sub, q_eq, q_eqS, q_eqB, q_ne, q_neS, q_neB, q_lt, q_ltS, q_le, q_gt, q_ge, q_in1, q_nin1, q_isN, q_isnN, q_isB, q_isnB, q_isiI0, q_isiI1, q_isiI2, q_isiI3, q_isiI4, q_isiI5, q_isiB0, q_isiB1, q_isiB2, q_isiB3, q_isiB4, q_isiB5, q_isiS0, q_isiS1, q_isiS2, q_isiS3, q_isiS4, q_isiS5, q_isiT0, q_isiT1, q_isiT2, q_isiT3, q_isiT4, q_isiT5, q_isiR0, q_isiR1, q_isiR2, q_isiR3, q_isiR4, q_isiR5, q_isiN0, q_isiN1, q_isiN2, q_isiN3, q_isiN4, q_isiN5, q_lenS, q_lenT, q_lenR, q_min2, q_max2, q_strS, q_tupP, ix_0, ix_1, ix_2, ix_3, List.length_cons, List.length_nil, lim_0, lim_1, lim_2, lim_3, lim_4, lim_5, lim_6, lim_7, lim_8, lim_9, lim_10, lim_11, lim_12, lim_13, lim_14, lim_15, lim_16, lim_17, lim_18, lim_19, lim_20, lim_21, lim_22, lim_23, Nat.reduceAdd, Nat.reduceLeDiff, decide_true, decide_false, List.cons.injEq, reduceCtorEq, and_false, false_and, and_true, true_and, Nat.reduceEqDiff, Int.reduceLE, Int.reduceEq, Int.reduceLT, l, SF.lo, SF.hi, and_self]
  | digits lo hi => simp only [SF.d, w_bind, w_noX, w_ok, w_C, w_op2, w_asB, w_op3, w_and, w_or, w_not, w_test, w_bAnd, w_bOr, w_bNot, w_if, w_lif, w_tup, w_lst, w_alloc, w_vL, w_call, w_aNil, w_aCons, w_lCall, w_append, w_nil, w_lnil, w_seq, w_next, w_ret, w_set, w_expr, w_sif, w_sub, w_unp, w_fn1, w_fn2, w_fn3, w_fn4, w_fn5, w_join, w_vSrc, w_aSrc, w_lSrc, w_catLL, w_catOL, w_repL, w_sortV, w_asI, w_slE0, w_slE1, w_sl, q_srcT, q_srcS, q_srcR, q_zipT, q_slT, w_lc, w_forS, Int.toNat_natCast, v_0, v_S, List.replicate_succ, List.replicate_zero, Nat.reduceSub, List.getElem?_cons_zero, List.getElem?_cons_succ, List.set_cons_zero, List.set_cons_succ, if_true, if_false, Bool.false_eq_true, Bool.not_true, Bool.not_false, q_add, q_addT, q_addS, q_sub, q_eq, q_eqS, q_eqB, q_ne, q_neS, q_neB, q_lt, q_ltS, q_le, q_gt, q_ge, q_in1, q_nin1, q_isN, q_isnN, q_isB, q_isnB, q_isiI0, q_isiI1, q_isiI2, q_isiI3, q_isiI4, q_isiI5, q_isiB0, q_isiB1, q_isiB2, q_isiB3, q_isiB4, q_isiB5, q_isiS0, q_isiS1, q_isiS2, q_isiS3, q_isiS4, q_isiS5, q_isiT0, q_isiT1, q_isiT2, q_isiT3, q_isiT4, q_isiT5, q_isiR0, q_isiR1, q_isiR2, q_isiR3, q_isiR4, q_isiR5, q_isiN0, q_isiN1, q_isiN2, q_isiN3, q_isiN4, q_isiN5, q_lenS, q_lenT, q_lenR, q_min2, q_max2, q_strS, q_tupP, ix_0, ix_1, ix_2, ix_3, List.length_cons, List.length_nil, lim_0, lim_1, lim_2, lim_3, lim_4, lim_5, lim_6, lim_7, lim_8, lim_9, lim_10, lim_11, lim_12, lim_13, lim_14, lim_15, lim_16, lim_17, lim_18, lim_19, lim_20, lim_21, lim_22, lim_23, Nat.reduceAdd, Nat.reduceLeDiff, decide_true, decide_false, List.cons.injEq, reduceCtorEq, and_false, false_and, and_true, true_and, Nat.reduceEqDiff, Int.reduceLE, Int.reduceEq, Int.reduceLT, SF.lo, SF.hi, and_self]
  | letters lo hi => simp only [SF.d, w_bind, w_noX, w_ok, w_C, w_op2, w_asB, w_op3, w_and, w_or, w_not, w_test, w_bAnd, w_bOr, w_bNot, w_if, w_lif, w_tup, w_lst, w_alloc, w_vL, w_call, w_aNil, w_aCons, w_lCall, w_append, w_nil, w_lnil, w_seq, w_next, w_ret, w_set, w_expr, w_sif, w_sub, w_unp, w_fn1, w_fn2, w_fn3, w_fn4, w_fn5, w_join, w_vSrc, w_aSrc, w_lSrc, w_catLL, w_catOL, w_repL, w_sortV, w_asI, w_slE0, w_slE1, w_sl, q_srcT, q_srcS, q_srcR, q_zipT, q_slT, w_lc, w_forS, Int.toNat_natCast, v_0, v_S, List.replicate_succ, List.replicate_zero, Nat.reduceSub, List.getElem?_cons_zero, List.getElem?_cons_succ, List.set_cons_zero, List.set_cons_succ, if_true, if_false, Bool.false_eq_true, Bool.not_true, Bool.not_false, q_add, q_addT, q_addS, q_sub, q_eq, q_eqS, q_eqB, q_ne, q_neS, q_neB, q_lt, q_ltS, q_le, q_gt, q_ge, q_in1, q_nin1, q_isN, q_isnN, q_isB, q_isnB, q_isiI0, q_isiI1, q_isiI2, q_isiI3, q_isiI4, q_isiI5, q_isiB0, q_isiB1, q_isiB2, q_isiB3, q_isiB4, q_isiB5, q_isiS0, q_isiS1, q_isiS2, q_isiS3, q_isiS4, q_isiS5, q_isiT0, q_isiT1, q_isiT2, q_isiT3, q_isiT4, q_isiT5, q_isiR0, q_isiR1, q_isiR2, q_isiR3, q_isiR4, q_isiR5, q_isiN0, q_isiN1, q_isiN2, q_isiN3, q_isiN4, q_isiN5, q_lenS, q_lenT, q_lenR, q_min2, q_max2, q_strS, q_tupP, ix_0, ix_1, ix_2, ix_3, List.length_cons, List.length_nil, lim_0, lim_1, lim_2, lim_3, lim_4, lim_5, lim_6, lim_7, lim_8, lim_9, lim_10, lim_11, lim_12, lim_13, lim_14, lim_15, lim_16, lim_17, lim_18, lim_19, lim_20, lim_21, lim_22, lim_23, Nat.reduceAdd, Nat.reduceLeDiff, decide_true, decide_false, List.cons.injEq, reduceCtorEq, and_false, false_and, and_true, true_and, Nat.reduceEqDiff, Int.reduceLE, Int.reduceEq, Int.reduceLT, SF.lo, SF.hi, and_self]
  | number n => simp only [SF.d, w_bind, w_noX, w_ok, w_C, w_op2, w_asB, w_op3, w_and, w_or, w_not, w_test, w_bAnd, w_bOr, w_bNot, w_if, w_lif, w_tup, w_lst, w_alloc, w_vL, w_call, w_aNil, w_aCons, w_lCall, w_append, w_nil, w_lnil, w_seq, w_next, w_ret, w_set, w_expr, w_sif, w_sub, w_unp, w_fn1, w_fn2, w_fn3, w_fn4, w_fn5, w_join, w_vSrc, w_aSrc, w_lSrc, w_catLL, w_catOL, w_repL, w_sortV, w_asI, w_slE0, w_slE1, w_sl, q_srcT, q_srcS, q_srcR, q_zipT, q_slT, w_lc, w_forS, Int.toNat_natCast, v_0, v_S, List.replicate_succ, List.replicate_zero, Nat.reduceSub, List.getElem?_cons_zero, List.getElem?_cons_succ, List.set_cons_zero, List.set_cons_succ, if_true, if_false, Bool.false_eq_true, Bool.not_true, Bool.not_false, q_add, q_addT, q_addS, q_sub, q_eq, q_eqS, q_eqB, q_ne, q_neS, q_neB, q_lt, q_ltS, q_le, q_gt, q_ge, q_in1, q_nin1, q_isN, q_isnN, q_isB, q_isnB, q_isiI0, q_isiI1, q_isiI2, q_isiI3, q_isiI4, q_isiI5, q_isiB0, q_isiB1, q_isiB2, q_isiB3, q_isiB4, q_isiB5, q_isiS0, q_isiS1, q_isiS2, q_isiS3, q_isiS4, q_isiS5, q_isiT0, q_isiT1, q_isiT2, q_isiT3, q_isiT4, q_isiT5, q_isiR0, q_isiR1, q_isiR2, q_isiR3, q_isiR4, q_isiR5, q_isiN0, q_isiN1, q_isiN2, q_isiN3, q_isiN4, q_isiN5, q_lenS, q_lenT, q_lenR, q_min2, q_max2, q_strS, q_tupP, ix_0, ix_1, ix_2, ix_3, List.length_cons, List.length_nil, lim_0, lim_1, lim_2, lim_3, lim_4, lim_5, lim_6, lim_7, lim_8, lim_9, lim_10, lim_11, lim_12, lim_13, lim_14, lim_15, lim_16, lim_17, lim_18, lim_19, lim_20, lim_21, lim_22, lim_23, Nat.reduceAdd, Nat.reduceLeDiff, decide_true, decide_false, List.cons.injEq, reduceCtorEq, and_false, false_and, and_true, true_and, Nat.reduceEqDiff, Int.reduceLE, Int.reduceEq, Int.reduceLT, SF.lo, SF.hi, and_self]
  | choice ts =>
    obtain ⟨f1, f2, f3, f4⟩ := fo
    simp only [SF.d, w_bind, w_noX, w_ok, w_C, w_op2, w_asB, w_op3, w_and, w_or, w_not, w_test, w_bAnd, w_bOr, w_bNot, w_if, w_lif, w_tup, w_lst, w_alloc, w_vL, w_call, w_aNil, w_aCons, w_lCall, w_append, w_nil, w_lnil, w_seq, w_next, w_ret, w_set, w_expr, w_sif, w_sub, w_unp, w_fn1, w_fn2, w_fn3, w_fn4, w_fn5, w_join, w_vSrc, w_aSrc, w_lSrc, w_catLL, w_catOL, w_repL, w_sortV, w_asI, w_slE0, w_slE1, w_sl, q_srcT, q_srcS, q_srcR, q_zipT, q_slT, w_lc, w_forS, Int.toNat_natCast, v_0, v_S, List.replicate_succ, List.replicate_zero, Nat.reduceSub, List.getElem?_cons_zero, List.getElem?_cons_succ, List.set_cons_zero, List.set_cons_succ, if_true, if_false, Bool.false_eq_true, Bool.not_true, Bool.not_false, q_add, q_addT, q_addS, q_sub, q_eq, q_eqS, q_eqB, q_ne, q_neS, q_neB, q_lt, q_ltS, q_le, q_gt, q_ge, q_in1, q_nin1, q_isN, q_isnN, q_isB, q_isnB, q_isiI0, q_isiI1, q_isiI2, q_isiI3, q_isiI4, q_isiI5, q_isiB0, q_isiB1, q_isiB2, q_isiB3, q_isiB4, q_isiB5, q_isiS0, q_isiS1, q_isiS2, q_isiS3, q_isiS4, q_isiS5, q_isiT0, q_isiT1, q_isiT2, q_isiT3, q_isiT4, q_isiT5, q_isiR0, q_isiR1, q_isiR2, q_isiR3, q_isiR4, q_isiR5, q_isiN0, q_isiN1, q_isiN2, q_isiN3, q_isiN4, q_isiN5, q_lenS, q_lenT, q_lenR, q_min2, q_max2, q_strS, q_tupP, ix_0, ix_1, ix_2, ix_3, List.length_cons, List.length_nil, lim_0, lim_1, lim_2, lim_3, lim_4, lim_5, lim_6, lim_7, lim_8, lim_9, lim_10, lim_11, lim_12, lim_13, lim_14, lim_15, lim_16, lim_17, lim_18, lim_19, lim_20, lim_21, lim_22, lim_23, Nat.reduceAdd, Nat.reduceLeDiff, decide_true, decide_false, List.cons.injEq, reduceCtorEq, and_false, false_and, and_true, true_and, Nat.reduceEqDiff, Int.reduceLE, Int.reduceEq, Int.reduceLT]
    rw [w_lcI (by simp only [List.length_map, LIM]; omega)]
    simp only [wipeE, w_bind, w_noX, w_ok, w_C, w_op2, w_asB, w_op3, w_and, w_or, w_not, w_test, w_bAnd, w_bOr, w_bNot, w_if, w_lif, w_tup, w_lst, w_alloc, w_vL, w_call, w_aNil, w_aCons, w_lCall, w_append, w_nil, w_lnil, w_seq, w_next, w_ret, w_set, w_expr, w_sif, w_sub, w_unp, w_fn1, w_fn2, w_fn3, w_fn4, w_fn5, w_join, w_vSrc, w_aSrc, w_lSrc, w_catLL, w_catOL, w_repL, w_sortV, w_asI, w_slE0, w_slE1, w_sl, q_srcT, q_srcS, q_srcR, q_zipT, q_slT, w_lc, w_forS, Int.toNat_natCast, v_0, v_S, List.replicate_succ, List.replicate_zero, Nat.reduceSub, List.getElem?_cons_zero, List.getElem?_cons_succ, List.set_cons_zero, List.set_cons_succ, if_true, if_false, Bool.false_eq_true, Bool.not_true, Bool.not_false, q_add, q_addT, q_addS, q_sub, q_eq, q_eqS, q_eqB, q_ne, q_neS, q_neB, q_lt, q_ltS, q_le, q_gt, q_ge, q_in1, q_nin1, q_isN, q_isnN, q_isB, q_isnB, q_isiI0, q_isiI1, q_isiI2, q_isiI3, q_isiI4, q_isiI5, q_isiB0, q_isiB1, q_isiB2, q_isiB3, q_isiB4, q_isiB5, q_isiS0, q_isiS1, q_isiS2, q_isiS3, q_isiS4, q_isiS5, q_isiT0, q_isiT1, q_isiT2, q_isiT3, q_isiT4, q_isiT5, q_isiR0, q_isiR1, q_isiR2, q_isiR3, q_isiR4, q_isiR5, q_isiN0, q_isiN1, q_isiN2, q_isiN3, q_isiN4, q_isiN5, q_lenS, q_lenT, q_lenR, q_min2, q_max2, q_strS, q_tupP, ix_0, ix_1, ix_2, ix_3]
    rw [lcL_map (fun s => .int ((fun t : Sg => (t.length : Int)) s)) fun s hs => Ok.eq (by simp only [w_bind, w_noX, w_ok, w_C, w_op2, w_asB, w_op3, w_and, w_or, w_not, w_test, w_bAnd, w_bOr, w_bNot, w_if, w_lif, w_tup, w_lst, w_alloc, w_vL, w_call, w_aNil, w_aCons, w_lCall, w_append, w_nil, w_lnil, w_seq, w_next, w_ret, w_set, w_expr, w_sif, w_sub, w_unp, w_fn1, w_fn2, w_fn3, w_fn4, w_fn5, w_join, w_vSrc, w_aSrc, w_lSrc, w_catLL, w_catOL, w_repL, w_sortV, w_asI, w_slE0, w_slE1, w_sl, q_srcT, q_srcS, q_srcR, q_zipT, q_slT, w_lc, w_forS, Int.toNat_natCast, v_0, v_S, List.replicate_succ, List.replicate_zero, Nat.reduceSub, List.getElem?_cons_zero, List.getElem?_cons_succ, List.set_cons_zero, List.set_cons_succ, if_true, if_false, Bool.false_eq_true, Bool.not_true, Bool.not_false, q_add, q_addT, q_addS, q_sub, q_eq, q_eqS, q_eqB, q_ne, q_neS, q_neB, q_lt, q_ltS, q_le, q_gt, q_ge, q_in1, q_nin1, q_isN, q_isnN, q_isB, q_isnB, q_isiI0, q_isiI1, q_isiI2, q_isiI3, q_isiI4, q_isiI5, q_isiB0, q_isiB1, q_isiB2, q_isiB3, q_isiB4, q_isiB5, q_isiS0, q_isiS1, q_isiS2, q_isiS3, q_isiS4, q_isiS5, q_isiT0, q_isiT1, q_isiT2, q_isiT3, q_isiT4, q_isiT5, q_isiR0, q_isiR1, q_isiR2, q_isiR3, q_isiR4, q_isiR5, q_isiN0, q_isiN1, q_isiN2, q_isiN3, q_isiN4, q_isiN5, q_lenS, q_lenT, q_lenR, q_min2, q_max2, q_strS, q_tupP, ix_0, ix_1, ix_2, ix_3, lenV_str (bas_str (by have := (f3 s hs).2.1; omega) (txok_lt (f3 s hs))), and_self]), w_ok]
    rw [min_lens f1, w_ok]
    rw [w_lcI (by simp only [List.length_map, LIM]; omega)]
    rw [lcL_map (fun s => .int ((fun t : Sg => (t.length : Int)) s)) fun s hs => Ok.eq (by simp only [w_bind, w_noX, w_ok, w_C, w_op2, w_asB, w_op3, w_and, w_or, w_not, w_test, w_bAnd, w_bOr, w_bNot, w_if, w_lif, w_tup, w_lst, w_alloc, w_vL, w_call, w_aNil, w_aCons, w_lCall, w_append, w_nil, w_lnil, w_seq, w_next, w_ret, w_set, w_expr, w_sif, w_sub, w_unp, w_fn1, w_fn2, w_fn3, w_fn4, w_fn5, w_join, w_vSrc, w_aSrc, w_lSrc, w_catLL, w_catOL, w_repL, w_sortV, w_asI, w_slE0, w_slE1, w_sl, q_srcT, q_srcS, q_srcR, q_zipT, q_slT, w_lc, w_forS, Int.toNat_natCast, v_0, v_S, List.replicate_succ, List.replicate_zero, Nat.reduceSub, List.getElem?_cons_zero, List.getElem?_cons_succ, List.set_cons_zero, List.set_cons_succ, if_true, if_false, Bool.false_eq_true, Bool.not_true, Bool.not_false, q_add, q_addT, q_addS, q_sub, q_eq, q_eqS, q_eqB, q_ne, q_neS, q_neB, q_lt, q_ltS, q_le, q_gt, q_ge, q_in1, q_nin1, q_isN, q_isnN, q_isB, q_isnB, q_isiI0, q_isiI1, q_isiI2, q_isiI3, q_isiI4, q_isiI5, q_isiB0, q_isiB1, q_isiB2, q_isiB3, q_isiB4, q_isiB5, q_isiS0, q_isiS1, q_isiS2, q_isiS3, q_isiS4, q_isiS5, q_isiT0, q_isiT1, q_isiT2, q_isiT3, q_isiT4, q_isiT5, q_isiR0, q_isiR1, q_isiR2, q_isiR3, q_isiR4, q_isiR5, q_isiN0, q_isiN1, q_isiN2, q_isiN3, q_isiN4, q_isiN5, q_lenS, q_lenT, q_lenR, q_min2, q_max2, q_strS, q_tupP, ix_0, ix_1, ix_2, ix_3, lenV_str (bas_str (by have := (f3 s hs).2.1; omega) (txok_lt (f3 s hs))), and_self]), w_ok]
    rw [max_lens f1, w_ok]
    simp only [List.length_cons, List.length_nil, lim_0, lim_1, lim_2, lim_3, lim_4, lim_5, lim_6, lim_7, lim_8, lim_9, lim_10, lim_11, lim_12, lim_13, lim_14, lim_15, lim_16, lim_17, lim_18, lim_19, lim_20, lim_21, lim_22, lim_23, Nat.reduceAdd, Nat.reduceLeDiff, SF.lo, SF.hi, w_bind, w_noX, w_ok, w_C, w_op2, w_asB, w_op3, w_and, w_or, w_not, w_test, w_bAnd, w_bOr, w_bNot, w_if, w_lif, w_tup, w_lst, w_alloc, w_vL, w_call, w_aNil, w_aCons, w_lCall, w_append, w_nil, w_lnil, w_seq, w_next, w_ret, w_set, w_expr, w_sif, w_sub, w_unp, w_fn1, w_fn2, w_fn3, w_fn4, w_fn5, w_join, w_vSrc, w_aSrc, w_lSrc, w_catLL, w_catOL, w_repL, w_sortV, w_asI, w_slE0, w_slE1, w_sl, q_srcT, q_srcS, q_srcR, q_zipT, q_slT, w_lc, w_forS, Int.toNat_natCast, v_0, v_S, List.replicate_succ, List.replicate_zero, Nat.reduceSub, List.getElem?_cons_zero, List.getElem?_cons_succ, List.set_cons_zero, List.set_cons_succ, if_true, if_false, Bool.false_eq_true, Bool.not_true, Bool.not_false, q_add, q_addT, q_addS, q_sub, q_eq, q_eqS, q_eqB, q_ne, q_neS, q_neB, q_lt, q_ltS, q_le, q_gt, q_ge, q_in1, q_nin1, q_isN, q_isnN, q_isB, q_isnB, q_isiI0, q_isiI1, q_isiI2, q_isiI3, q_isiI4, q_isiI5, q_isiB0, q_isiB1, q_isiB2, q_isiB3, q_isiB4, q_isiB5, q_isiS0, q_isiS1, q_isiS2, q_isiS3, q_isiS4, q_isiS5, q_isiT0, q_isiT1, q_isiT2, q_isiT3, q_isiT4, q_isiT5, q_isiR0, q_isiR1, q_isiR2, q_isiR3, q_isiR4, q_isiR5, q_isiN0, q_isiN1, q_isiN2, q_isiN3, q_isiN4, q_isiN5, q_lenS, q_lenT, q_lenR, q_min2, q_max2, q_strS, q_tupP, ix_0, ix_1, ix_2, ix_3, and_self])
theorem ll_F {f : FF} (fo : f.Ok) : run (k + 2) I__law_lengths [f.d] h = .ok (.tup [.int f.lo, .int f.hi]) h := by
  cases f with
  | one s => exact ll_S fo
  | rep s lo hi =>
    refine Ok.eq ?_
    obtain ⟨f0, f1, f2, f3⟩ := fo
    rw [e__law_lengths]
    unfold m__law_lengths
    have m1 : ∀ a : Int, mulOk a (lo : Int) = true := fun a => by simp only [mulOk, Bool.or_eq_true, decide_eq_true_eq]; right; omega
    have m2 : ∀ a : Int, mulOk a (hi : Int) = true := fun a => by simp only [mulOk, Bool.or_eq_true, decide_eq_true_eq]; right; omega
    simp only [FF.d, w_bind, w_noX, w_ok, w_C, w_op2, w_asB, w_op3, w_and, w_or, w_not, w_test, w_bAnd, w_bOr, w_bNot, w_if, w_lif, w_tup, w_lst, w_alloc, w_vL, w_call, w_aNil, w_aCons, w_lCall, w_append, w_nil, w_lnil, w_seq, w_next, w_ret, w_set, w_expr, w_sif, w_sub, w_unp, w_fn1, w_fn2, w_fn3, w_fn4, w_fn5, w_join, w_vSrc, w_aSrc, w_lSrc, w_catLL, w_catOL, w_repL, w_sortV, w_asI, w_slE0, w_slE1, w_sl, q_srcT, q_srcS, q_srcR, q_zipT, q_slT, w_lc, w_forS, Int.toNat_natCast, v_0, v_S, List.replicate_succ, List.replicate_zero, Nat.reduceSub, List.getElem?_cons_zero, List.getElem?_cons_succ, List.set_cons_zero, List.set_cons_succ, if_true, if_false, Bool.false_eq_true, Bool.not_true, Bool.not_false, q_add, q_addT, q_addS, q_sub, q_eq, q_eqS, q_eqB, q_ne, q_neS, q_neB, q_lt, q_ltS, q_le, q_gt, q_ge, q_in1, q_nin1, q_isN, q_isnN, q_isB, q_isnB, q_isiI0, q_isiI1, q_isiI2, q_isiI3, q_isiI4, q_isiI5, q_isiB0, q_isiB1, q_isiB2, q_isiB3, q_isiB4, q_isiB5, q_isiS0, q_isiS1, q_isiS2, q_isiS3, q_isiS4, q_isiS5, q_isiT0, q_isiT1, q_isiT2, q_isiT3, q_isiT4, q_isiT5, q_isiR0, q_isiR1, q_isiR2, q_isiR3, q_isiR4, q_isiR5, q_isiN0, q_isiN1, q_isiN2, q_isiN3, q_isiN4, q_isiN5, q_lenS, q_lenT, q_lenR, q_min2, q_max2, q_strS, q_tupP, ix_0, ix_1, ix_2, ix_3, List.length_cons, List.length_nil, lim_0, lim_1, lim_2, lim_3, lim_4, lim_5, lim_6, lim_7, lim_8, lim_9, lim_10, lim_11, lim_12, lim_13, lim_14, lim_15, lim_16, lim_17, lim_18, lim_19, lim_20, lim_21, lim_22, lim_23, Nat.reduceAdd, Nat.reduceLeDiff, decide_true, decide_false, List.cons.injEq, reduceCtorEq, and_false, false_and, and_true, true_and, Nat.reduceEqDiff, Int.reduceLE, Int.reduceEq, Int.reduceLT, ll_S f0, tgM, setAll, q_mul (m1 _), q_mul (m2 _), FF.lo, FF.hi, and_self]
theorem s_short {fs : List FF} (fo : FormOk fs) : run (k + 7) I_shortest_length [.tup (fs.map FF.d)] h = .ok (.int (fs.map FF.lo).sum) h := Ok.eq (by
  rw [e_shortest_length]
  unfold m_shortest_length
  obtain ⟨f1, f2, f3⟩ := fo
  simp only [w_bind, w_noX, w_ok, w_C, w_op2, w_asB, w_op3, w_and, w_or, w_not, w_test, w_bAnd, w_bOr, w_bNot, w_if, w_lif, w_tup, w_lst, w_alloc, w_vL, w_call, w_aNil, w_aCons, w_lCall, w_append, w_nil, w_lnil, w_seq, w_next, w_ret, w_set, w_expr, w_sif, w_sub, w_unp, w_fn1, w_fn2, w_fn3, w_fn4, w_fn5, w_join, w_vSrc, w_aSrc, w_lSrc, w_catLL, w_catOL, w_repL, w_sortV, w_asI, w_slE0, w_slE1, w_sl, q_srcT, q_srcS, q_srcR, q_zipT, q_slT, w_lc, w_forS, Int.toNat_natCast, v_0, v_S, List.replicate_succ, List.replicate_zero, Nat.reduceSub, List.getElem?_cons_zero, List.getElem?_cons_succ, List.set_cons_zero, List.set_cons_succ, if_true, if_false, Bool.false_eq_true, Bool.not_true, Bool.not_false, q_add, q_addT, q_addS, q_sub, q_eq, q_eqS, q_eqB, q_ne, q_neS, q_neB, q_lt, q_ltS, q_le, q_gt, q_ge, q_in1, q_nin1, q_isN, q_isnN, q_isB, q_isnB, q_isiI0, q_isiI1, q_isiI2, q_isiI3, q_isiI4, q_isiI5, q_isiB0, q_isiB1, q_isiB2, q_isiB3, q_isiB4, q_isiB5, q_isiS0, q_isiS1, q_isiS2, q_isiS3, q_isiS4, q_isiS5, q_isiT0, q_isiT1, q_isiT2, q_isiT3, q_isiT4, q_isiT5, q_isiR0, q_isiR1, q_isiR2, q_isiR3, q_isiR4, q_isiR5, q_isiN0, q_isiN1, q_isiN2, q_isiN3, q_isiN4, q_isiN5, q_lenS, q_lenT, q_lenR, q_min2, q_max2, q_strS, q_tupP, ix_0, ix_1, ix_2, ix_3, s_check ⟨f1, f2, f3⟩]
  rw [w_lcI (by simp only [List.length_map, LIM]; omega)]
  simp only [wipeE, w_bind, w_noX, w_ok, w_C, w_op2, w_asB, w_op3, w_and, w_or, w_not, w_test, w_bAnd, w_bOr, w_bNot, w_if, w_lif, w_tup, w_lst, w_alloc, w_vL, w_call, w_aNil, w_aCons, w_lCall, w_append, w_nil, w_lnil, w_seq, w_next, w_ret, w_set, w_expr, w_sif, w_sub, w_unp, w_fn1, w_fn2, w_fn3, w_fn4, w_fn5, w_join, w_vSrc, w_aSrc, w_lSrc, w_catLL, w_catOL, w_repL, w_sortV, w_asI, w_slE0, w_slE1, w_sl, q_srcT, q_srcS, q_srcR, q_zipT, q_slT, w_lc, w_forS, Int.toNat_natCast, v_0, v_S, List.replicate_succ, List.replicate_zero, Nat.reduceSub, List.getElem?_cons_zero, List.getElem?_cons_succ, List.set_cons_zero, List.set_cons_succ, if_true, if_false, Bool.false_eq_true, Bool.not_true, Bool.not_false, q_add, q_addT, q_addS, q_sub, q_eq, q_eqS, q_eqB, q_ne, q_neS, q_neB, q_lt, q_ltS, q_le, q_gt, q_ge, q_in1, q_nin1, q_isN, q_isnN, q_isB, q_isnB, q_isiI0, q_isiI1, q_isiI2, q_isiI3, q_isiI4, q_isiI5, q_isiB0, q_isiB1, q_isiB2, q_isiB3, q_isiB4, q_isiB5, q_isiS0, q_isiS1, q_isiS2, q_isiS3, q_isiS4, q_isiS5, q_isiT0, q_isiT1, q_isiT2, q_isiT3, q_isiT4, q_isiT5, q_isiR0, q_isiR1, q_isiR2, q_isiR3, q_isiR4, q_isiR5, q_isiN0, q_isiN1, q_isiN2, q_isiN3, q_isiN4, q_isiN5, q_lenS, q_lenT, q_lenR, q_min2, q_max2, q_strS, q_tupP, ix_0, ix_1, ix_2, ix_3]
  rw [lcL_map (fun f : FF => .int f.lo) fun f hf => Ok.eq (by simp only [w_bind, w_noX, w_ok, w_C, w_op2, w_asB, w_op3, w_and, w_or, w_not, w_test, w_bAnd, w_bOr, w_bNot, w_if, w_lif, w_tup, w_lst, w_alloc, w_vL, w_call, w_aNil, w_aCons, w_lCall, w_append, w_nil, w_lnil, w_seq, w_next, w_ret, w_set, w_expr, w_sif, w_sub, w_unp, w_fn1, w_fn2, w_fn3, w_fn4, w_fn5, w_join, w_vSrc, w_aSrc, w_lSrc, w_catLL, w_catOL, w_repL, w_sortV, w_asI, w_slE0, w_slE1, w_sl, q_srcT, q_srcS, q_srcR, q_zipT, q_slT, w_lc, w_forS, Int.toNat_natCast, v_0, v_S, List.replicate_succ, List.replicate_zero, Nat.reduceSub, List.getElem?_cons_zero, List.getElem?_cons_succ, List.set_cons_zero, List.set_cons_succ, if_true, if_false, Bool.false_eq_true, Bool.not_true, Bool.not_false, q_add, q_addT, q_addS, q_sub, q_eq, q_eqS, q_eqB, q_ne, q_neS, q_neB, q_lt, q_ltS, q_le, q_gt, q_ge, q_in1, q_nin1, q_isN, q_isnN, q_isB, q_isnB, q_isiI0, q_isiI1, q_isiI2, q_isiI3, q_isiI4, q_isiI5, q_isiB0, q_isiB1, q_isiB2, q_isiB3, q_isiB4, q_isiB5, q_isiS0, q_isiS1, q_isiS2, q_isiS3, q_isiS4, q_isiS5, q_isiT0, q_isiT1, q_isiT2, q_isiT3, q_isiT4, q_isiT5, q_isiR0, q_isiR1, q_isiR2, q_isiR3, q_isiR4, q_isiR5, q_isiN0, q_isiN1, q_isiN2, q_isiN3, q_isiN4, q_isiN5, q_lenS, q_lenT, q_lenR, q_min2, q_max2, q_strS, q_tupP, ix_0, ix_1, ix_2, ix_3, bd_F (f1 f hf), and_self]), w_ok, sum_map, w_ok]
  exact ⟨rfl, rfl⟩)
theorem s_long {fs : List FF} (fo : FormOk fs) : run (k + 7) I_longest_length [.tup (fs.map FF.d)] h = .ok (.int (fs.map FF.hi).sum) h := Ok.eq (by
  rw [e_longest_length]
  unfold m_longest_length
  obtain ⟨f1, f2, f3⟩ := fo
  simp only [w_bind, w_noX, w_ok, w_C, w_op2, w_asB, w_op3, w_and, w_or, w_not, w_test, w_bAnd, w_bOr, w_bNot, w_if, w_lif, w_tup, w_lst, w_alloc, w_vL, w_call, w_aNil, w_aCons, w_lCall, w_append, w_nil, w_lnil, w_seq, w_next, w_ret, w_set, w_expr, w_sif, w_sub, w_unp, w_fn1, w_fn2, w_fn3, w_fn4, w_fn5, w_join, w_vSrc, w_aSrc, w_lSrc, w_catLL, w_catOL, w_repL, w_sortV, w_asI, w_slE0, w_slE1, w_sl, q_srcT, q_srcS, q_srcR, q_zipT, q_slT, w_lc, w_forS, Int.toNat_natCast, v_0, v_S, List.replicate_succ, List.replicate_zero, Nat.reduceSub, List.getElem?_cons_zero, List.getElem?_cons_succ, List.set_cons_zero, List.set_cons_succ, if_true, if_false, Bool.false_eq_true, Bool.not_true, Bool.not_false, q_add, q_addT, q_addS, q_sub, q_eq, q_eqS, q_eqB, q_ne, q_neS, q_neB, q_lt, q_ltS, q_le, q_gt, q_ge, q_in1, q_nin1, q_isN, q_isnN, q_isB, q_isnB, q_isiI0, q_isiI1, q_isiI2, q_isiI3, q_isiI4, q_isiI5, q_isiB0, q_isiB1, q_isiB2, q_isiB3, q_isiB4, q_isiB5, q_isiS0, q_isiS1, q_isiS2, q_isiS3, q_isiS4, q_isiS5, q_isiT0, q_isiT1, q_isiT2, q_isiT3, q_isiT4, q_isiT5, q_isiR0, q_isiR1, q_isiR2, q_isiR3, q_isiR4, q_isiR5, q_isiN0, q_isiN1, q_isiN2, q_isiN3, q_isiN4, q_isiN5, q_lenS, q_lenT, q_lenR, q_min2, q_max2, q_strS, q_tupP, ix_0, ix_1, ix_2, ix_3, s_check ⟨f1, f2, f3⟩]
  rw [w_lcI (by simp only [List.length_map, LIM]; omega)]
  simp only [wipeE, w_bind, w_noX, w_ok, w_C, w_op2, w_asB, w_op3, w_and, w_or, w_not, w_test, w_bAnd, w_bOr, w_bNot, w_if, w_lif, w_tup, w_lst, w_alloc, w_vL, w_call, w_aNil, w_aCons, w_lCall, w_append, w_nil, w_lnil, w_seq, w_next, w_ret, w_set, w_expr, w_sif, w_sub, w_unp, w_fn1, w_fn2, w_fn3, w_fn4, w_fn5, w_join, w_vSrc, w_aSrc, w_lSrc, w_catLL, w_catOL, w_repL, w_sortV, w_asI, w_slE0, w_slE1, w_sl, q_srcT, q_srcS, q_srcR, q_zipT, q_slT, w_lc, w_forS, Int.toNat_natCast, v_0, v_S, List.replicate_succ, List.replicate_zero, Nat.reduceSub, List.getElem?_cons_zero, List.getElem?_cons_succ, List.set_cons_zero, List.set_cons_succ, if_true, if_false, Bool.false_eq_true, Bool.not_true, Bool.not_false, q_add, q_addT, q_addS, q_sub, q_eq, q_eqS, q_eqB, q_ne, q_neS, q_neB, q_lt, q_ltS, q_le, q_gt, q_ge, q_in1, q_nin1, q_isN, q_isnN, q_isB, q_isnB, q_isiI0, q_isiI1, q_isiI2, q_isiI3, q_isiI4, q_isiI5, q_isiB0, q_isiB1, q_isiB2, q_isiB3, q_isiB4, q_isiB5, q_isiS0, q_isiS1, q_isiS2, q_isiS3, q_isiS4, q_isiS5, q_isiT0, q_isiT1, q_isiT2, q_isiT3, q_isiT4, q_isiT5, q_isiR0, q_isiR1, q_isiR2, q_isiR3, q_isiR4, q_isiR5, q_isiN0, q_isiN1, q_isiN2, q_isiN3, q_isiN4, q_isiN5, q_lenS, q_lenT, q_lenR, q_min2, q_max2, q_strS, q_tupP, ix_0, ix_1, ix_2, ix_3]
  rw [lcL_map (fun f : FF => .int f.hi) fun f hf => Ok.eq (by simp only [w_bind, w_noX, w_ok, w_C, w_op2, w_asB, w_op3, w_and, w_or, w_not, w_test, w_bAnd, w_bOr, w_bNot, w_if, w_lif, w_tup, w_lst, w_alloc, w_vL, w_call, w_aNil, w_aCons, w_lCall, w_append, w_nil, w_lnil, w_seq, w_next, w_ret, w_set, w_expr, w_sif, w_sub, w_unp, w_fn1, w_fn2, w_fn3, w_fn4, w_fn5, w_join, w_vSrc, w_aSrc, w_lSrc, w_catLL, w_catOL, w_repL, w_sortV, w_asI, w_slE0, w_slE1, w_sl, q_srcT, q_srcS, q_srcR, q_zipT, q_slT, w_lc, w_forS, Int.toNat_natCast, v_0, v_S, List.replicate_succ, List.replicate_zero, Nat.reduceSub, List.getElem?_cons_zero, List.getElem?_cons_succ, List.set_cons_zero, List.set_cons_succ, if_true, if_false, Bool.false_eq_true, Bool.not_true, Bool.not_false, q_add, q_addT, q_addS, q_sub, q_eq, q_eqS, q_eqB, q_ne, q_neS, q_neB, q_lt, q_ltS, q_le, q_gt, q_ge, q_in1, q_nin1, q_isN, q_isnN, q_isB, q_isnB, q_isiI0, q_isiI1, q_isiI2, q_isiI3, q_isiI4, q_isiI5, q_isiB0, q_isiB1, q_isiB2, q_isiB3, q_isiB4, q_isiB5, q_isiS0, q_isiS1, q_isiS2, q_isiS3, q_isiS4, q_isiS5, q_isiT0, q_isiT1, q_isiT2, q_isiT3, q_isiT4, q_isiT5, q_isiR0, q_isiR1, q_isiR2, q_isiR3, q_isiR4, q_isiR5, q_isiN0, q_isiN1, q_isiN2, q_isiN3, q_isiN4, q_isiN5, q_lenS, q_lenT, q_lenR, q_min2, q_max2, q_strS, q_tupP, ix_0, ix_1, ix_2, ix_3, bd_F (f1 f hf), and_self]), w_ok, sum_map, w_ok]
  exact ⟨rfl, rfl⟩)
theorem good_rec {ds : List D} (hl : ds.length ≤ 100) (hv : ∀ x ∈ ds, Valu x) : Good h (.tup ds) := ⟨bas_tup (by omega), fun es e x hx => by cases e; exact (hv x hx).flat⟩
theorem s_textof {fs : List FF} {ds : List D} (fo : FormOk fs) (hv : vals fs ds = true) : run (k + 7) I_text_of [.tup (fs.map FF.d), .tup ds] h = .ok (.str (ds.map vtxt).flatten) h := Ok.eq (by
  have va := valu_all fo.1 hv
  obtain ⟨_, e, hl, _⟩ := listed_len (fs := fs) (d := .tup ds) hv
  cases e
  have f3 := fo.2.2
  rw [e_text_of]
  unfold m_text_of
  simp only [w_bind, w_noX, w_ok, w_C, w_op2, w_asB, w_op3, w_and, w_or, w_not, w_test, w_bAnd, w_bOr, w_bNot, w_if, w_lif, w_tup, w_lst, w_alloc, w_vL, w_call, w_aNil, w_aCons, w_lCall, w_append, w_nil, w_lnil, w_seq, w_next, w_ret, w_set, w_expr, w_sif, w_sub, w_unp, w_fn1, w_fn2, w_fn3, w_fn4, w_fn5, w_join, w_vSrc, w_aSrc, w_lSrc, w_catLL, w_catOL, w_repL, w_sortV, w_asI, w_slE0, w_slE1, w_sl, q_srcT, q_srcS, q_srcR, q_zipT, q_slT, w_lc, w_forS, Int.toNat_natCast, v_0, v_S, List.replicate_succ, List.replicate_zero, Nat.reduceSub, List.getElem?_cons_zero, List.getElem?_cons_succ, List.set_cons_zero, List.set_cons_succ, if_true, if_false, Bool.false_eq_true, Bool.not_true, Bool.not_false, q_add, q_addT, q_addS, q_sub, q_eq, q_eqS, q_eqB, q_ne, q_neS, q_neB, q_lt, q_ltS, q_le, q_gt, q_ge, q_in1, q_nin1, q_isN, q_isnN, q_isB, q_isnB, q_isiI0, q_isiI1, q_isiI2, q_isiI3, q_isiI4, q_isiI5, q_isiB0, q_isiB1, q_isiB2, q_isiB3, q_isiB4, q_isiB5, q_isiS0, q_isiS1, q_isiS2, q_isiS3, q_isiS4, q_isiS5, q_isiT0, q_isiT1, q_isiT2, q_isiT3, q_isiT4, q_isiT5, q_isiR0, q_isiR1, q_isiR2, q_isiR3, q_isiR4, q_isiR5, q_isiN0, q_isiN1, q_isiN2, q_isiN3, q_isiN4, q_isiN5, q_lenS, q_lenT, q_lenR, q_min2, q_max2, q_strS, q_tupP, ix_0, ix_1, ix_2, ix_3, s_check fo, s_chkrec fo (good_rec (by omega) va) hv, pt_rec (by omega) va, and_self])
end
end FT
end
section
set_option maxRecDepth 100000
namespace FT
open PySem L2
set_option autoImplicit false
/-! ### what the law asks of a value -/
section
variable {k : Nat} {h : MH} {d : D}
theorem all_nn (s cs : Sg) : (s.all fun x => !!decide (x ∈ cs)) = only' s cs := by simp [only']
theorem s_lonly {s cs : Sg} (hl : s.length ≤ 1000000) : run (k + 1) I__law_only [.str s, .str cs] h = .ok (.bl (only' s cs)) h := Ok.eq (by
  rw [e__law_only]
  unfold m__law_only
  simp only [w_bind, w_noX, w_ok, w_C, w_op2, w_asB, w_op3, w_and, w_or, w_not, w_test, w_bAnd, w_bOr, w_bNot, w_if, w_lif, w_tup, w_lst, w_alloc, w_vL, w_call, w_aNil, w_aCons, w_lCall, w_append, w_nil, w_lnil, w_seq, w_next, w_ret, w_set, w_expr, w_sif, w_sub, w_unp, w_fn1, w_fn2, w_fn3, w_fn4, w_fn5, w_join, w_vSrc, w_aSrc, w_lSrc, w_catLL, w_catOL, w_repL, w_sortV, w_asI, w_slE0, w_slE1, w_sl, q_srcT, q_srcS, q_srcR, q_zipT, q_slT, w_lc, w_forS, Int.toNat_natCast, v_0, v_S, List.replicate_succ, List.replicate_zero, Nat.reduceSub, List.getElem?_cons_zero, List.getElem?_cons_succ, List.set_cons_zero, List.set_cons_succ, if_true, if_false, Bool.false_eq_true, Bool.not_true, Bool.not_false, q_add, q_addT, q_addS, q_sub, q_eq, q_eqS, q_eqB, q_ne, q_neS, q_neB, q_lt, q_ltS, q_le, q_gt, q_ge, q_in1, q_nin1, q_isN, q_isnN, q_isB, q_isnB, q_isiI0, q_isiI1, q_isiI2, q_isiI3, q_isiI4, q_isiI5, q_isiB0, q_isiB1, q_isiB2, q_isiB3, q_isiB4, q_isiB5, q_isiS0, q_isiS1, q_isiS2, q_isiS3, q_isiS4, q_isiS5, q_isiT0, q_isiT1, q_isiT2, q_isiT3, q_isiT4, q_isiT5, q_isiR0, q_isiR1, q_isiR2, q_isiR3, q_isiR4, q_isiR5, q_isiN0, q_isiN1, q_isiN2, q_isiN3, q_isiN4, q_isiN5, q_lenS, q_lenT, q_lenR, q_min2, q_max2, q_strS, q_tupP, ix_0, ix_1, ix_2, ix_3]
  rw [w_lcI (by simp only [List.length_map, LIM]; omega)]
  simp only [wipeE, w_bind, w_noX, w_ok, w_C, w_op2, w_asB, w_op3, w_and, w_or, w_not, w_test, w_bAnd, w_bOr, w_bNot, w_if, w_lif, w_tup, w_lst, w_alloc, w_vL, w_call, w_aNil, w_aCons, w_lCall, w_append, w_nil, w_lnil, w_seq, w_next, w_ret, w_set, w_expr, w_sif, w_sub, w_unp, w_fn1, w_fn2, w_fn3, w_fn4, w_fn5, w_join, w_vSrc, w_aSrc, w_lSrc, w_catLL, w_catOL, w_repL, w_sortV, w_asI, w_slE0, w_slE1, w_sl, q_srcT, q_srcS, q_srcR, q_zipT, q_slT, w_lc, w_forS, Int.toNat_natCast, v_0, v_S, List.replicate_succ, List.replicate_zero, Nat.reduceSub, List.getElem?_cons_zero, List.getElem?_cons_succ, List.set_cons_zero, List.set_cons_succ, if_true, if_false, Bool.false_eq_true, Bool.not_true, Bool.not_false, q_add, q_addT, q_addS, q_sub, q_eq, q_eqS, q_eqB, q_ne, q_neS, q_neB, q_lt, q_ltS, q_le, q_gt, q_ge, q_in1, q_nin1, q_isN, q_isnN, q_isB, q_isnB, q_isiI0, q_isiI1, q_isiI2, q_isiI3, q_isiI4, q_isiI5, q_isiB0, q_isiB1, q_isiB2, q_isiB3, q_isiB4, q_isiB5, q_isiS0, q_isiS1, q_isiS2, q_isiS3, q_isiS4, q_isiS5, q_isiT0, q_isiT1, q_isiT2, q_isiT3, q_isiT4, q_isiT5, q_isiR0, q_isiR1, q_isiR2, q_isiR3, q_isiR4, q_isiR5, q_isiN0, q_isiN1, q_isiN2, q_isiN3, q_isiN4, q_isiN5, q_lenS, q_lenT, q_lenR, q_min2, q_max2, q_strS, q_tupP, ix_0, ix_1, ix_2, ix_3]
  rw [lcL_fil (fun c => !decide (c ∈ cs)) (fun c hc => Ok.eq (by simp only [w_bind, w_noX, w_ok, w_C, w_op2, w_asB, w_op3, w_and, w_or, w_not, w_test, w_bAnd, w_bOr, w_bNot, w_if, w_lif, w_tup, w_lst, w_alloc, w_vL, w_call, w_aNil, w_aCons, w_lCall, w_append, w_nil, w_lnil, w_seq, w_next, w_ret, w_set, w_expr, w_sif, w_sub, w_unp, w_fn1, w_fn2, w_fn3, w_fn4, w_fn5, w_join, w_vSrc, w_aSrc, w_lSrc, w_catLL, w_catOL, w_repL, w_sortV, w_asI, w_slE0, w_slE1, w_sl, q_srcT, q_srcS, q_srcR, q_zipT, q_slT, w_lc, w_forS, Int.toNat_natCast, v_0, v_S, List.replicate_succ, List.replicate_zero, Nat.reduceSub, List.getElem?_cons_zero, List.getElem?_cons_succ, List.set_cons_zero, List.set_cons_succ, if_true, if_false, Bool.false_eq_true, Bool.not_true, Bool.not_false, q_add, q_addT, q_addS, q_sub, q_eq, q_eqS, q_eqB, q_ne, q_neS, q_neB, q_lt, q_ltS, q_le, q_gt, q_ge, q_in1, q_nin1, q_isN, q_isnN, q_isB, q_isnB, q_isiI0, q_isiI1, q_isiI2, q_isiI3, q_isiI4, q_isiI5, q_isiB0, q_isiB1, q_isiB2, q_isiB3, q_isiB4, q_isiB5, q_isiS0, q_isiS1, q_isiS2, q_isiS3, q_isiS4, q_isiS5, q_isiT0, q_isiT1, q_isiT2, q_isiT3, q_isiT4, q_isiT5, q_isiR0, q_isiR1, q_isiR2, q_isiR3, q_isiR4, q_isiR5, q_isiN0, q_isiN1, q_isiN2, q_isiN3, q_isiN4, q_isiN5, q_lenS, q_lenT, q_lenR, q_min2, q_max2, q_strS, q_tupP, ix_0, ix_1, ix_2, ix_3, and_self])) (by simp), w_ok]
  simp only [w_bind, w_noX, w_ok, w_C, w_op2, w_asB, w_op3, w_and, w_or, w_not, w_test, w_bAnd, w_bOr, w_bNot, w_if, w_lif, w_tup, w_lst, w_alloc, w_vL, w_call, w_aNil, w_aCons, w_lCall, w_append, w_nil, w_lnil, w_seq, w_next, w_ret, w_set, w_expr, w_sif, w_sub, w_unp, w_fn1, w_fn2, w_fn3, w_fn4, w_fn5, w_join, w_vSrc, w_aSrc, w_lSrc, w_catLL, w_catOL, w_repL, w_sortV, w_asI, w_slE0, w_slE1, w_sl, q_srcT, q_srcS, q_srcR, q_zipT, q_slT, w_lc, w_forS, Int.toNat_natCast, v_0, v_S, List.replicate_succ, List.replicate_zero, Nat.reduceSub, List.getElem?_cons_zero, List.getElem?_cons_succ, List.set_cons_zero, List.set_cons_succ, if_true, if_false, Bool.false_eq_true, Bool.not_true, Bool.not_false, q_add, q_addT, q_addS, q_sub, q_eq, q_eqS, q_eqB, q_ne, q_neS, q_neB, q_lt, q_ltS, q_le, q_gt, q_ge, q_in1, q_nin1, q_isN, q_isnN, q_isB, q_isnB, q_isiI0, q_isiI1, q_isiI2, q_isiI3, q_isiI4, q_isiI5, q_isiB0, q_isiB1, q_isiB2, q_isiB3, q_isiB4, q_isiB5, q_isiS0, q_isiS1, q_isiS2, q_isiS3, q_isiS4, q_isiS5, q_isiT0, q_isiT1, q_isiT2, q_isiT3, q_isiT4, q_isiT5, q_isiR0, q_isiR1, q_isiR2, q_isiR3, q_isiR4, q_isiR5, q_isiN0, q_isiN1, q_isiN2, q_isiN3, q_isiN4, q_isiN5, q_lenS, q_lenT, q_lenR, q_min2, q_max2, q_strS, q_tupP, ix_0, ix_1, ix_2, ix_3, map_nil, filter_nil, all_nn, and_self])
def isNum : SF → Bool
  | .number _ => true
  | _ => false
def fnd (f : SF) (s : Sg) (m : Nat) : List D := ((List.range m).filter fun j => f.val (.str (s.take j))).map fun j => .tup [.str (s.take j), .int j]
theorem fnd_succ {f : SF} {s : Sg} {m : Nat} : fnd f s (m + 1) = if f.val (.str (s.take m)) = true then fnd f s m ++ [.tup [.str (s.take m), .int m]] else fnd f s m := by
  unfold fnd
  rw [List.range_succ, List.filter_append, List.map_append]
  by_cases c : f.val (.str (s.take m)) = true <;> simp [c]
theorem push_last {xs : List D} {y : D} (hl : xs.length < LIM) : pushM (.obj h.length) y (h ++ [.lst xs]) = .ok .non (h ++ [.lst (xs ++ [y])]) := by
  simp only [pushM, getElem?_app, if_pos hl]
  congr 1
  simp [List.set_append]
theorem lst_last {xs : List D} : lstOf (.obj h.length) (h ++ [.lst xs]) = some xs := by simp [lstOf]
theorem fnd_len {f : SF} {s : Sg} {m : Nat} : (fnd f s m).length ≤ m := by
  unfold fnd
  rw [List.length_map]
  exact Nat.le_trans (List.length_filter_le _ _) (by simp)
theorem s_parts {f : SF} {s : Sg} (fo : f.Ok) (fn : isNum f = false) (hl : s.length ≤ 1000000) (hc : ∀ c ∈ s, c < 1114112) : run (k + 2) I__law_parts [f.d, .str s] h = .ok (.obj h.length) (h ++ [.lst (fnd f s (min 4 s.length + 1))]) := Ok.eq (by
  rw [e__law_parts]
  unfold m__law_parts
  simp only [w_bind, w_noX, w_ok, w_C, w_op2, w_asB, w_op3, w_and, w_or, w_not, w_test, w_bAnd, w_bOr, w_bNot, w_if, w_lif, w_tup, w_lst, w_alloc, w_vL, w_call, w_aNil, w_aCons, w_lCall, w_append, w_nil, w_lnil, w_seq, w_next, w_ret, w_set, w_expr, w_sif, w_sub, w_unp, w_fn1, w_fn2, w_fn3, w_fn4, w_fn5, w_join, w_vSrc, w_aSrc, w_lSrc, w_catLL, w_catOL, w_repL, w_sortV, w_asI, w_slE0, w_slE1, w_sl, q_srcT, q_srcS, q_srcR, q_zipT, q_slT, w_lc, w_forS, Int.toNat_natCast, v_0, v_S, List.replicate_succ, List.replicate_zero, Nat.reduceSub, List.getElem?_cons_zero, List.getElem?_cons_succ, List.set_cons_zero, List.set_cons_succ, if_true, if_false, Bool.false_eq_true, Bool.not_true, Bool.not_false, q_add, q_addT, q_addS, q_sub, q_eq, q_eqS, q_eqB, q_ne, q_neS, q_neB, q_lt, q_ltS, q_le, q_gt, q_ge, q_in1, q_nin1, q_isN, q_isnN, q_isB, q_isnB, q_isiI0, q_isiI1, q_isiI2, q_isiI3, q_isiI4, q_isiI5, q_isiB0, q_isiB1, q_isiB2, q_isiB3, q_isiB4, q_isiB5, q_isiS0, q_isiS1, q_isiS2, q_isiS3, q_isiS4, q_isiS5, q_isiT0, q_isiT1, q_isiT2, q_isiT3, q_isiT4, q_isiT5, q_isiR0, q_isiR1, q_isiR2, q_isiR3, q_isiR4, q_isiR5, q_isiN0, q_isiN1, q_isiN2, q_isiN3, q_isiN4, q_isiN5, q_lenS, q_lenT, q_lenR, q_min2, q_max2, q_strS, q_tupP, ix_0, ix_1, ix_2, ix_3, List.length_cons, List.length_nil, lim_0, lim_1, lim_2, lim_3, lim_4, lim_5, lim_6, lim_7, lim_8, lim_9, lim_10, lim_11, lim_12, lim_13, lim_14, lim_15, lim_16, lim_17, lim_18, lim_19, lim_20, lim_21, lim_22, lim_23, Nat.reduceAdd, Nat.reduceLeDiff, q_lenS (show s.length ≤ LIM by simp only [LIM]; omega)]
  have e : (if (s.length : Int) < 4 then (s.length : Int) else 4) + 1 = ((min 4 s.length + 1 : Nat) : Int) := by split <;> omega
  rw [e, q_rng1 (by omega) (by omega)]
  simp only [w_bind, w_noX, w_ok, w_C, w_op2, w_asB, w_op3, w_and, w_or, w_not, w_test, w_bAnd, w_bOr, w_bNot, w_if, w_lif, w_tup, w_lst, w_alloc, w_vL, w_call, w_aNil, w_aCons, w_lCall, w_append, w_nil, w_lnil, w_seq, w_next, w_ret, w_set, w_expr, w_sif, w_sub, w_unp, w_fn1, w_fn2, w_fn3, w_fn4, w_fn5, w_join, w_vSrc, w_aSrc, w_lSrc, w_catLL, w_catOL, w_repL, w_sortV, w_asI, w_slE0, w_slE1, w_sl, q_srcT, q_srcS, q_srcR, q_zipT, q_slT, w_lc, w_forS, Int.toNat_natCast, v_0, v_S, List.replicate_succ, List.replicate_zero, Nat.reduceSub, List.getElem?_cons_zero, List.getElem?_cons_succ, List.set_cons_zero, List.set_cons_succ, if_true, if_false, Bool.false_eq_true, Bool.not_true, Bool.not_false, q_add, q_addT, q_addS, q_sub, q_eq, q_eqS, q_eqB, q_ne, q_neS, q_neB, q_lt, q_ltS, q_le, q_gt, q_ge, q_in1, q_nin1, q_isN, q_isnN, q_isB, q_isnB, q_isiI0, q_isiI1, q_isiI2, q_isiI3, q_isiI4, q_isiI5, q_isiB0, q_isiB1, q_isiB2, q_isiB3, q_isiB4, q_isiB5, q_isiS0, q_isiS1, q_isiS2, q_isiS3, q_isiS4, q_isiS5, q_isiT0, q_isiT1, q_isiT2, q_isiT3, q_isiT4, q_isiT5, q_isiR0, q_isiR1, q_isiR2, q_isiR3, q_isiR4, q_isiR5, q_isiN0, q_isiN1, q_isiN2, q_isiN3, q_isiN4, q_isiN5, q_lenS, q_lenT, q_lenR, q_min2, q_max2, q_strS, q_tupP, ix_0, ix_1, ix_2, ix_3]
  refine for_rng (fun j e h' => h' = h ++ [.lst (fnd f s j)] ∧ ∃ x3 x4 : Option D, e = [some f.d, some (.str s), some (.obj h.length), x3, x4]) ⟨rfl, _, _, rfl⟩ ?_ ?_
  · rintro j e h' hj ⟨rfl, x3, x4, rfl⟩
    have jl : j ≤ s.length := by omega
    have tl : (s.take j).length = j := by simp; omega
    have tc : ∀ c ∈ s.take j, c < 1114112 := fun c h => hc c (List.mem_of_mem_take h)
    have sl : ∀ h : MH, slM (.str s) none (some (j : Int)) h = .ok (.str (s.take j)) h := fun h => by
      rw [q_slS (by simp only [LIM]; omega), cut_take]
    have pl : (fnd f s j).length < LIM := by have := fnd_len (f := f) (s := s) (m := j); simp only [LIM]; omega
    rw [fnd_succ]
    simp only [w_bind, w_noX, w_ok, w_C, w_op2, w_asB, w_op3, w_and, w_or, w_not, w_test, w_bAnd, w_bOr, w_bNot, w_if, w_lif, w_tup, w_lst, w_alloc, w_vL, w_call, w_aNil, w_aCons, w_lCall, w_append, w_nil, w_lnil, w_seq, w_next, w_ret, w_set, w_expr, w_sif, w_sub, w_unp, w_fn1, w_fn2, w_fn3, w_fn4, w_fn5, w_join, w_vSrc, w_aSrc, w_lSrc, w_catLL, w_catOL, w_repL, w_sortV, w_asI, w_slE0, w_slE1, w_sl, q_srcT, q_srcS, q_srcR, q_zipT, q_slT, w_lc, w_forS, Int.toNat_natCast, v_0, v_S, List.replicate_succ, List.replicate_zero, Nat.reduceSub, List.getElem?_cons_zero, List.getElem?_cons_succ, List.set_cons_zero, List.set_cons_succ, if_true, if_false, Bool.false_eq_true, Bool.not_true, Bool.not_false, q_add, q_addT, q_addS, q_sub, q_eq, q_eqS, q_eqB, q_ne, q_neS, q_neB, q_lt, q_ltS, q_le, q_gt, q_ge, q_in1, q_nin1, q_isN, q_isnN, q_isB, q_isnB, q_isiI0, q_isiI1, q_isiI2, q_isiI3, q_isiI4, q_isiI5, q_isiB0, q_isiB1, q_isiB2, q_isiB3, q_isiB4, q_isiB5, q_isiS0, q_isiS1, q_isiS2, q_isiS3, q_isiS4, q_isiS5, q_isiT0, q_isiT1, q_isiT2, q_isiT3, q_isiT4, q_isiT5, q_isiR0, q_isiR1, q_isiR2, q_isiR3, q_isiR4, q_isiR5, q_isiN0, q_isiN1, q_isiN2, q_isiN3, q_isiN4, q_isiN5, q_lenS, q_lenT, q_lenR, q_min2, q_max2, q_strS, q_tupP, ix_0, ix_1, ix_2, ix_3, sl]
    cases f with
    | number n => cases fn
    | word w =>
      simp only [SF.d, w_bind, w_noX, w_ok, w_C, w_op2, w_asB, w_op3, w_and, w_or, w_not, w_test, w_bAnd, w_bOr, w_bNot, w_if, w_lif, w_tup, w_lst, w_alloc, w_vL, w_call, w_aNil, w_aCons, w_lCall, w_append, w_nil, w_lnil, w_seq, w_next, w_ret, w_set, w_expr, w_sif, w_sub, w_unp, w_fn1, w_fn2, w_fn3, w_fn4, w_fn5, w_join, w_vSrc, w_aSrc, w_lSrc, w_catLL, w_catOL, w_repL, w_sortV, w_asI, w_slE0, w_slE1, w_sl, q_srcT, q_srcS, q_srcR, q_zipT, q_slT, w_lc, w_forS, Int.toNat_natCast, v_0, v_S, List.replicate_succ, List.replicate_zero, Nat.reduceSub, List.getElem?_cons_zero, List.getElem?_cons_succ, List.set_cons_zero, List.set_cons_succ, if_true, if_false, Bool.false_eq_true, Bool.not_true, Bool.not_false, q_add, q_addT, q_addS, q_sub, q_eq, q_eqS, q_eqB, q_ne, q_neS, q_neB, q_lt, q_ltS, q_le, q_gt, q_ge, q_in1, q_nin1, q_isN, q_isnN, q_isB, q_isnB, q_isiI0, q_isiI1, q_isiI2, q_isiI3, q_isiI4, q_isiI5, q_isiB0, q_isiB1, q_isiB2, q_isiB3, q_isiB4, q_isiB5, q_isiS0, q_isiS1, q_isiS2, q_isiS3, q_isiS4, q_isiS5, q_isiT0, q_isiT1, q_isiT2, q_isiT3, q_isiT4, q_isiT5, q_isiR0, q_isiR1, q_isiR2, q_isiR3, q_isiR4, q_isiR5, q_isiN0, q_isiN1, q_isiN2, q_isiN3, q_isiN4, q_isiN5, q_lenS, q_lenT, q_lenR, q_min2, q_max2, q_strS, q_tupP, ix_0, ix_1, ix_2, ix_3, List.length_cons, List.length_nil, lim_0, lim_1, lim_2, lim_3, lim_4, lim_5, lim_6, lim_7, lim_8, lim_9, lim_10, lim_11, lim_12, lim_13, lim_14, lim_15, lim_16, lim_17, lim_18, lim_19, lim_20, lim_21, lim_22, lim_23, Nat.reduceAdd, Nat.reduceLeDiff, decide_true, decide_false, List.cons.injEq, reduceCtorEq, and_false, false_and, and_true, true_and, Nat.reduceEqDiff, Int.reduceLE, Int.reduceEq, Int.reduceLT]
      by_cases c : s.take j = w
      · rw [c] at tl tc ⊢
        simp only [w_bind, w_noX, w_ok, w_C, w_op2, w_asB, w_op3, w_and, w_or, w_not, w_test, w_bAnd, w_bOr, w_bNot, w_if, w_lif, w_tup, w_lst, w_alloc, w_vL, w_call, w_aNil, w_aCons, w_lCall, w_append, w_nil, w_lnil, w_seq, w_next, w_ret, w_set, w_expr, w_sif, w_sub, w_unp, w_fn1, w_fn2, w_fn3, w_fn4, w_fn5, w_join, w_vSrc, w_aSrc, w_lSrc, w_catLL, w_catOL, w_repL, w_sortV, w_asI, w_slE0, w_slE1, w_sl, q_srcT, q_srcS, q_srcR, q_zipT, q_slT, w_lc, w_forS, Int.toNat_natCast, v_0, v_S, List.replicate_succ, List.replicate_zero, Nat.reduceSub, List.getElem?_cons_zero, List.getElem?_cons_succ, List.set_cons_zero, List.set_cons_succ, if_true, if_false, Bool.false_eq_true, Bool.not_true, Bool.not_false, q_add, q_addT, q_addS, q_sub, q_eq, q_eqS, q_eqB, q_ne, q_neS, q_neB, q_lt, q_ltS, q_le, q_gt, q_ge, q_in1, q_nin1, q_isN, q_isnN, q_isB, q_isnB, q_isiI0, q_isiI1, q_isiI2, q_isiI3, q_isiI4, q_isiI5, q_isiB0, q_isiB1, q_isiB2, q_isiB3, q_isiB4, q_isiB5, q_isiS0, q_isiS1, q_isiS2, q_isiS3, q_isiS4, q_isiS5, q_isiT0, q_isiT1, q_isiT2, q_isiT3, q_isiT4, q_isiT5, q_isiR0, q_isiR1, q_isiR2, q_isiR3, q_isiR4, q_isiR5, q_isiN0, q_isiN1, q_isiN2, q_isiN3, q_isiN4, q_isiN5, q_lenS, q_lenT, q_lenR, q_min2, q_max2, q_strS, q_tupP, ix_0, ix_1, ix_2, ix_3, List.length_cons, List.length_nil, lim_0, lim_1, lim_2, lim_3, lim_4, lim_5, lim_6, lim_7, lim_8, lim_9, lim_10, lim_11, lim_12, lim_13, lim_14, lim_15, lim_16, lim_17, lim_18, lim_19, lim_20, lim_21, lim_22, lim_23, Nat.reduceAdd, Nat.reduceLeDiff, decide_true, decide_false, List.cons.injEq, reduceCtorEq, and_false, false_and, and_true, true_and, Nat.reduceEqDiff, Int.reduceLE, Int.reduceEq, Int.reduceLT, SF.val, w_isLst, lst_last, push_last pl]
        exact ⟨_, _, rfl, rfl⟩
      · simp only [c, w_bind, w_noX, w_ok, w_C, w_op2, w_asB, w_op3, w_and, w_or, w_not, w_test, w_bAnd, w_bOr, w_bNot, w_if, w_lif, w_tup, w_lst, w_alloc, w_vL, w_call, w_aNil, w_aCons, w_lCall, w_append, w_nil, w_lnil, w_seq, w_next, w_ret, w_set, w_expr, w_sif, w_sub, w_unp, w_fn1, w_fn2, w_fn3, w_fn4, w_fn5, w_join, w_vSrc, w_aSrc, w_lSrc, w_catLL, w_catOL, w_repL, w_sortV, w_asI, w_slE0, w_slE1, w_sl, q_srcT, q_srcS, q_srcR, q_zipT, q_slT, w_lc, w_forS, Int.toNat_natCast, v_0, v_S, List.replicate_succ, List.replicate_zero, Nat.reduceSub, List.getElem?_cons_zero, List.getElem?_cons_succ, List.set_cons_zero, List.set_cons_succ, if_true, if_false, Bool.false_eq_true, Bool.not_true, Bool.not_false, q_add, q_addT, q_addS, q_sub, q_eq, q_eqS, q_eqB, q_ne, q_neS, q_neB, q_lt, q_ltS, q_le, q_gt, q_ge, q_in1, q_nin1, q_isN, q_isnN, q_isB, q_isnB, q_isiI0, q_isiI1, q_isiI2, q_isiI3, q_isiI4, q_isiI5, q_isiB0, q_isiB1, q_isiB2, q_isiB3, q_isiB4, q_isiB5, q_isiS0, q_isiS1, q_isiS2, q_isiS3, q_isiS4, q_isiS5, q_isiT0, q_isiT1, q_isiT2, q_isiT3, q_isiT4, q_isiT5, q_isiR0, q_isiR1, q_isiR2, q_isiR3, q_isiR4, q_isiR5, q_isiN0, q_isiN1, q_isiN2, q_isiN3, q_isiN4, q_isiN5, q_lenS, q_lenT, q_lenR, q_min2, q_max2, q_strS, q_tupP, ix_0, ix_1, ix_2, ix_3, List.length_cons, List.length_nil, lim_0, lim_1, lim_2, lim_3, lim_4, lim_5, lim_6, lim_7, lim_8, lim_9, lim_10, lim_11, lim_12, lim_13, lim_14, lim_15, lim_16, lim_17, lim_18, lim_19, lim_20, lim_21, lim_22, lim_23, Nat.reduceAdd, Nat.reduceLeDiff, decide_true, decide_false, List.cons.injEq, reduceCtorEq, and_false, false_and, and_true, true_and, Nat.reduceEqDiff, Int.reduceLE, Int.reduceEq, Int.reduceLT, SF.val]
        exact ⟨_, _, rfl, rfl⟩
    | choice ts =>
      simp only [SF.d, w_bind, w_noX, w_ok, w_C, w_op2, w_asB, w_op3, w_and, w_or, w_not, w_test, w_bAnd, w_bOr, w_bNot, w_if, w_lif, w_tup, w_lst, w_alloc, w_vL, w_call, w_aNil, w_aCons, w_lCall, w_append, w_nil, w_lnil, w_seq, w_next, w_ret, w_set, w_expr, w_sif, w_sub, w_unp, w_fn1, w_fn2, w_fn3, w_fn4, w_fn5, w_join, w_vSrc, w_aSrc, w_lSrc, w_catLL, w_catOL, w_repL, w_sortV, w_asI, w_slE0, w_slE1, w_sl, q_srcT, q_srcS, q_srcR, q_zipT, q_slT, w_lc, w_forS, Int.toNat_natCast, v_0, v_S, List.replicate_succ, List.replicate_zero, Nat.reduceSub, List.getElem?_cons_zero, List.getElem?_cons_succ, List.set_cons_zero, List.set_cons_succ, if_true, if_false, Bool.false_eq_true, Bool.not_true, Bool.not_false, q_add, q_addT, q_addS, q_sub, q_eq, q_eqS, q_eqB, q_ne, q_neS, q_neB, q_lt, q_ltS, q_le, q_gt, q_ge, q_in1, q_nin1, q_isN, q_isnN, q_isB, q_isnB, q_isiI0, q_isiI1, q_isiI2, q_isiI3, q_isiI4, q_isiI5, q_isiB0, q_isiB1, q_isiB2, q_isiB3, q_isiB4, q_isiB5, q_isiS0, q_isiS1, q_isiS2, q_isiS3, q_isiS4, q_isiS5, q_isiT0, q_isiT1, q_isiT2, q_isiT3, q_isiT4, q_isiT5, q_isiR0, q_isiR1, q_isiR2, q_isiR3, q_isiR4, q_isiR5, q_isiN0, q_isiN1, q_isiN2, q_isiN3, q_isiN4, q_isiN5, q_lenS, q_lenT, q_lenR, q_min2, q_max2, q_strS, q_tupP, ix_0, ix_1, ix_2, ix_3, List.length_cons, List.length_nil, lim_0, lim_1, lim_2, lim_3, lim_4, lim_5, lim_6, lim_7, lim_8, lim_9, lim_10, lim_11, lim_12, lim_13, lim_14, lim_15, lim_16, lim_17, lim_18, lim_19, lim_20, lim_21, lim_22, lim_23, Nat.reduceAdd, Nat.reduceLeDiff, decide_true, decide_false, List.cons.injEq, reduceCtorEq, and_false, false_and, and_true, true_and, Nat.reduceEqDiff, Int.reduceLE, Int.reduceEq, Int.reduceLT]
      rw [in_tup (pl_str tc) (pl_strs fun s hs => txok_lt (fo.2.2.1 s hs)), w_ok, inD_strs]
      by_cases c : s.take j ∈ ts
      · simp only [c, w_bind, w_noX, w_ok, w_C, w_op2, w_asB, w_op3, w_and, w_or, w_not, w_test, w_bAnd, w_bOr, w_bNot, w_if, w_lif, w_tup, w_lst, w_alloc, w_vL, w_call, w_aNil, w_aCons, w_lCall, w_append, w_nil, w_lnil, w_seq, w_next, w_ret, w_set, w_expr, w_sif, w_sub, w_unp, w_fn1, w_fn2, w_fn3, w_fn4, w_fn5, w_join, w_vSrc, w_aSrc, w_lSrc, w_catLL, w_catOL, w_repL, w_sortV, w_asI, w_slE0, w_slE1, w_sl, q_srcT, q_srcS, q_srcR, q_zipT, q_slT, w_lc, w_forS, Int.toNat_natCast, v_0, v_S, List.replicate_succ, List.replicate_zero, Nat.reduceSub, List.getElem?_cons_zero, List.getElem?_cons_succ, List.set_cons_zero, List.set_cons_succ, if_true, if_false, Bool.false_eq_true, Bool.not_true, Bool.not_false, q_add, q_addT, q_addS, q_sub, q_eq, q_eqS, q_eqB, q_ne, q_neS, q_neB, q_lt, q_ltS, q_le, q_gt, q_ge, q_in1, q_nin1, q_isN, q_isnN, q_isB, q_isnB, q_isiI0, q_isiI1, q_isiI2, q_isiI3, q_isiI4, q_isiI5, q_isiB0, q_isiB1, q_isiB2, q_isiB3, q_isiB4, q_isiB5, q_isiS0, q_isiS1, q_isiS2, q_isiS3, q_isiS4, q_isiS5, q_isiT0, q_isiT1, q_isiT2, q_isiT3, q_isiT4, q_isiT5, q_isiR0, q_isiR1, q_isiR2, q_isiR3, q_isiR4, q_isiR5, q_isiN0, q_isiN1, q_isiN2, q_isiN3, q_isiN4, q_isiN5, q_lenS, q_lenT, q_lenR, q_min2, q_max2, q_strS, q_tupP, ix_0, ix_1, ix_2, ix_3, List.length_cons, List.length_nil, lim_0, lim_1, lim_2, lim_3, lim_4, lim_5, lim_6, lim_7, lim_8, lim_9, lim_10, lim_11, lim_12, lim_13, lim_14, lim_15, lim_16, lim_17, lim_18, lim_19, lim_20, lim_21, lim_22, lim_23, Nat.reduceAdd, Nat.reduceLeDiff, decide_true, decide_false, List.cons.injEq, reduceCtorEq, and_false, false_and, and_true, true_and, Nat.reduceEqDiff, Int.reduceLE, Int.reduceEq, Int.reduceLT, SF.val, w_isLst, lst_last, push_last pl]
        exact ⟨_, _, rfl, rfl⟩
      · simp only [c, w_bind, w_noX, w_ok, w_C, w_op2, w_asB, w_op3, w_and, w_or, w_not, w_test, w_bAnd, w_bOr, w_bNot, w_if, w_lif, w_tup, w_lst, w_alloc, w_vL, w_call, w_aNil, w_aCons, w_lCall, w_append, w_nil, w_lnil, w_seq, w_next, w_ret, w_set, w_expr, w_sif, w_sub, w_unp, w_fn1, w_fn2, w_fn3, w_fn4, w_fn5, w_join, w_vSrc, w_aSrc, w_lSrc, w_catLL, w_catOL, w_repL, w_sortV, w_asI, w_slE0, w_slE1, w_sl, q_srcT, q_srcS, q_srcR, q_zipT, q_slT, w_lc, w_forS, Int.toNat_natCast, v_0, v_S, List.replicate_succ, List.replicate_zero, Nat.reduceSub, List.getElem?_cons_zero, List.getElem?_cons_succ, List.set_cons_zero, List.set_cons_succ, if_true, if_false, Bool.false_eq_true, Bool.not_true, Bool.not_false, q_add, q_addT, q_addS, q_sub, q_eq, q_eqS, q_eqB, q_ne, q_neS, q_neB, q_lt, q_ltS, q_le, q_gt, q_ge, q_in1, q_nin1, q_isN, q_isnN, q_isB, q_isnB, q_isiI0, q_isiI1, q_isiI2, q_isiI3, q_isiI4, q_isiI5, q_isiB0, q_isiB1, q_isiB2, q_isiB3, q_isiB4, q_isiB5, q_isiS0, q_isiS1, q_isiS2, q_isiS3, q_isiS4, q_isiS5, q_isiT0, q_isiT1, q_isiT2, q_isiT3, q_isiT4, q_isiT5, q_isiR0, q_isiR1, q_isiR2, q_isiR3, q_isiR4, q_isiR5, q_isiN0, q_isiN1, q_isiN2, q_isiN3, q_isiN4, q_isiN5, q_lenS, q_lenT, q_lenR, q_min2, q_max2, q_strS, q_tupP, ix_0, ix_1, ix_2, ix_3, List.length_cons, List.length_nil, lim_0, lim_1, lim_2, lim_3, lim_4, lim_5, lim_6, lim_7, lim_8, lim_9, lim_10, lim_11, lim_12, lim_13, lim_14, lim_15, lim_16, lim_17, lim_18, lim_19, lim_20, lim_21, lim_22, lim_23, Nat.reduceAdd, Nat.reduceLeDiff, decide_true, decide_false, List.cons.injEq, reduceCtorEq, and_false, false_and, and_true, true_and, Nat.reduceEqDiff, Int.reduceLE, Int.reduceEq, Int.reduceLT, SF.val]
        exact ⟨_, _, rfl, rfl⟩
    | digits lo hi =>
      simp only [SF.d, w_bind, w_noX, w_ok, w_C, w_op2, w_asB, w_op3, w_and, w_or, w_not, w_test, w_bAnd, w_bOr, w_bNot, w_if, w_lif, w_tup, w_lst, w_alloc, w_vL, w_call, w_aNil, w_aCons, w_lCall, w_append, w_nil, w_lnil, w_seq, w_next, w_ret, w_set, w_expr, w_sif, w_sub, w_unp, w_fn1, w_fn2, w_fn3, w_fn4, w_fn5, w_join, w_vSrc, w_aSrc, w_lSrc, w_catLL, w_catOL, w_repL, w_sortV, w_asI, w_slE0, w_slE1, w_sl, q_srcT, q_srcS, q_srcR, q_zipT, q_slT, w_lc, w_forS, Int.toNat_natCast, v_0, v_S, List.replicate_succ, List.replicate_zero, Nat.reduceSub, List.getElem?_cons_zero, List.getElem?_cons_succ, List.set_cons_zero, List.set_cons_succ, if_true, if_false, Bool.false_eq_true, Bool.not_true, Bool.not_false, q_add, q_addT, q_addS, q_sub, q_eq, q_eqS, q_eqB, q_ne, q_neS, q_neB, q_lt, q_ltS, q_le, q_gt, q_ge, q_in1, q_nin1, q_isN, q_isnN, q_isB, q_isnB, q_isiI0, q_isiI1, q_isiI2, q_isiI3, q_isiI4, q_isiI5, q_isiB0, q_isiB1, q_isiB2, q_isiB3, q_isiB4, q_isiB5, q_isiS0, q_isiS1, q_isiS2, q_isiS3, q_isiS4, q_isiS5, q_isiT0, q_isiT1, q_isiT2, q_isiT3, q_isiT4, q_isiT5, q_isiR0, q_isiR1, q_isiR2, q_isiR3, q_isiR4, q_isiR5, q_isiN0, q_isiN1, q_isiN2, q_isiN3, q_isiN4, q_isiN5, q_lenS, q_lenT, q_lenR, q_min2, q_max2, q_strS, q_tupP, ix_0, ix_1, ix_2, ix_3, List.length_cons, List.length_nil, lim_0, lim_1, lim_2, lim_3, lim_4, lim_5, lim_6, lim_7, lim_8, lim_9, lim_10, lim_11, lim_12, lim_13, lim_14, lim_15, lim_16, lim_17, lim_18, lim_19, lim_20, lim_21, lim_22, lim_23, Nat.reduceAdd, Nat.reduceLeDiff, decide_true, decide_false, List.cons.injEq, reduceCtorEq, and_false, false_and, and_true, true_and, Nat.reduceEqDiff, Int.reduceLE, Int.reduceEq, Int.reduceLT, cast_le]
      have cv : SF.val (.digits lo hi) (.str (s.take j)) = (only' (s.take j) cDig && (decide (lo ≤ j) && decide (j ≤ hi))) := by simp only [SF.val, tl]
      rw [cv]
      by_cases c1 : lo ≤ j
      · by_cases c2 : j ≤ hi
        · by_cases c3 : only' (s.take j) cDig = true
          · simp only [c1, c2, c3, w_bind, w_noX, w_ok, w_C, w_op2, w_asB, w_op3, w_and, w_or, w_not, w_test, w_bAnd, w_bOr, w_bNot, w_if, w_lif, w_tup, w_lst, w_alloc, w_vL, w_call, w_aNil, w_aCons, w_lCall, w_append, w_nil, w_lnil, w_seq, w_next, w_ret, w_set, w_expr, w_sif, w_sub, w_unp, w_fn1, w_fn2, w_fn3, w_fn4, w_fn5, w_join, w_vSrc, w_aSrc, w_lSrc, w_catLL, w_catOL, w_repL, w_sortV, w_asI, w_slE0, w_slE1, w_sl, q_srcT, q_srcS, q_srcR, q_zipT, q_slT, w_lc, w_forS, Int.toNat_natCast, v_0, v_S, List.replicate_succ, List.replicate_zero, Nat.reduceSub, List.getElem?_cons_zero, List.getElem?_cons_succ, List.set_cons_zero, List.set_cons_succ, if_true, if_false, Bool.false_eq_true, Bool.not_true, Bool.not_false, q_add, q_addT, q_addS, q_sub, q_eq, q_eqS, q_eqB, q_ne, q_neS, q_neB, q_lt, q_ltS, q_le, q_gt, q_ge, q_in1, q_nin1, q_isN, q_isnN, q_isB, q_isnB, q_isiI0, q_isiI1, q_isiI2, q_isiI3, q_isiI4, q_isiI5, q_isiB0, q_isiB1, q_isiB2, q_isiB3, q_isiB4, q_isiB5, q_isiS0, q_isiS1, q_isiS2, q_isiS3, q_isiS4, q_isiS5, q_isiT0, q_isiT1, q_isiT2, q_isiT3, q_isiT4, q_isiT5, q_isiR0, q_isiR1, q_isiR2, q_isiR3, q_isiR4, q_isiR5, q_isiN0, q_isiN1, q_isiN2, q_isiN3, q_isiN4, q_isiN5, q_lenS, q_lenT, q_lenR, q_min2, q_max2, q_strS, q_tupP, ix_0, ix_1, ix_2, ix_3, List.length_cons, List.length_nil, lim_0, lim_1, lim_2, lim_3, lim_4, lim_5, lim_6, lim_7, lim_8, lim_9, lim_10, lim_11, lim_12, lim_13, lim_14, lim_15, lim_16, lim_17, lim_18, lim_19, lim_20, lim_21, lim_22, lim_23, Nat.reduceAdd, Nat.reduceLeDiff, decide_true, decide_false, List.cons.injEq, reduceCtorEq, and_false, false_and, and_true, true_and, Nat.reduceEqDiff, Int.reduceLE, Int.reduceEq, Int.reduceLT, cast_le, s_lonly (show (s.take j).length ≤ 1000000 by omega), w_isLst, lst_last, push_last pl, Bool.and_self]
            exact ⟨_, _, rfl, rfl⟩
          · rw [Bool.not_eq_true] at c3
            simp only [c1, c2, c3, w_bind, w_noX, w_ok, w_C, w_op2, w_asB, w_op3, w_and, w_or, w_not, w_test, w_bAnd, w_bOr, w_bNot, w_if, w_lif, w_tup, w_lst, w_alloc, w_vL, w_call, w_aNil, w_aCons, w_lCall, w_append, w_nil, w_lnil, w_seq, w_next, w_ret, w_set, w_expr, w_sif, w_sub, w_unp, w_fn1, w_fn2, w_fn3, w_fn4, w_fn5, w_join, w_vSrc, w_aSrc, w_lSrc, w_catLL, w_catOL, w_repL, w_sortV, w_asI, w_slE0, w_slE1, w_sl, q_srcT, q_srcS, q_srcR, q_zipT, q_slT, w_lc, w_forS, Int.toNat_natCast, v_0, v_S, List.replicate_succ, List.replicate_zero, Nat.reduceSub, List.getElem?_cons_zero, List.getElem?_cons_succ, List.set_cons_zero, List.set_cons_succ, if_true, if_false, Bool.false_eq_true, Bool.not_true, Bool.not_false, q_add, q_addT, q_addS, q_sub, q_eq, q_eqS, q_eqB, q_ne, q_neS, q_neB, q_lt, q_ltS, q_le, q_gt, q_ge, q_in1, q_nin1, q_isN, q_isnN, q_isB, q_isnB, q_isiI0, q_isiI1, q_isiI2, q_isiI3, q_isiI4, q_isiI5, q_isiB0, q_isiB1, q_isiB2, q_isiB3, q_isiB4, q_isiB5, q_isiS0, q_isiS1, q_isiS2, q_isiS3, q_isiS4, q_isiS5, q_isiT0, q_isiT1, q_isiT2, q_isiT3, q_isiT4, q_isiT5, q_isiR0, q_isiR1, q_isiR2, q_isiR3, q_isiR4, q_isiR5, q_isiN0, q_isiN1, q_isiN2, q_isiN3, q_isiN4, q_isiN5, q_lenS, q_lenT, q_lenR, q_min2, q_max2, q_strS, q_tupP, ix_0, ix_1, ix_2, ix_3, List.length_cons, List.length_nil, lim_0, lim_1, lim_2, lim_3, lim_4, lim_5, lim_6, lim_7, lim_8, lim_9, lim_10, lim_11, lim_12, lim_13, lim_14, lim_15, lim_16, lim_17, lim_18, lim_19, lim_20, lim_21, lim_22, lim_23, Nat.reduceAdd, Nat.reduceLeDiff, decide_true, decide_false, List.cons.injEq, reduceCtorEq, and_false, false_and, and_true, true_and, Nat.reduceEqDiff, Int.reduceLE, Int.reduceEq, Int.reduceLT, cast_le, s_lonly (show (s.take j).length ≤ 1000000 by omega), Bool.false_and]
            exact ⟨_, _, rfl, rfl⟩
        · simp only [c1, c2, w_bind, w_noX, w_ok, w_C, w_op2, w_asB, w_op3, w_and, w_or, w_not, w_test, w_bAnd, w_bOr, w_bNot, w_if, w_lif, w_tup, w_lst, w_alloc, w_vL, w_call, w_aNil, w_aCons, w_lCall, w_append, w_nil, w_lnil, w_seq, w_next, w_ret, w_set, w_expr, w_sif, w_sub, w_unp, w_fn1, w_fn2, w_fn3, w_fn4, w_fn5, w_join, w_vSrc, w_aSrc, w_lSrc, w_catLL, w_catOL, w_repL, w_sortV, w_asI, w_slE0, w_slE1, w_sl, q_srcT, q_srcS, q_srcR, q_zipT, q_slT, w_lc, w_forS, Int.toNat_natCast, v_0, v_S, List.replicate_succ, List.replicate_zero, Nat.reduceSub, List.getElem?_cons_zero, List.getElem?_cons_succ, List.set_cons_zero, List.set_cons_succ, if_true, if_false, Bool.false_eq_true, Bool.not_true, Bool.not_false, q_add, q_addT, q_addS, q_sub, q_eq, q_eqS, q_eqB, q_ne, q_neS, q_neB, q_lt, q_ltS, q_le, q_gt, q_ge, q_in1, q_nin1, q_isN, q_isnN, q_isB, q_isnB, q_isiI0, q_isiI1, q_isiI2, q_isiI3, q_isiI4, q_isiI5, q_isiB0, q_isiB1, q_isiB2, q_isiB3, q_isiB4, q_isiB5, q_isiS0, q_isiS1, q_isiS2, q_isiS3, q_isiS4, q_isiS5, q_isiT0, q_isiT1, q_isiT2, q_isiT3, q_isiT4, q_isiT5, q_isiR0, q_isiR1, q_isiR2, q_isiR3, q_isiR4, q_isiR5, q_isiN0, q_isiN1, q_isiN2, q_isiN3, q_isiN4, q_isiN5, q_lenS, q_lenT, q_lenR, q_min2, q_max2, q_strS, q_tupP, ix_0, ix_1, ix_2, ix_3, List.length_cons, List.length_nil, lim_0, lim_1, lim_2, lim_3, lim_4, lim_5, lim_6, lim_7, lim_8, lim_9, lim_10, lim_11, lim_12, lim_13, lim_14, lim_15, lim_16, lim_17, lim_18, lim_19, lim_20, lim_21, lim_22, lim_23, Nat.reduceAdd, Nat.reduceLeDiff, decide_true, decide_false, List.cons.injEq, reduceCtorEq, and_false, false_and, and_true, true_and, Nat.reduceEqDiff, Int.reduceLE, Int.reduceEq, Int.reduceLT, cast_le, Bool.and_false]
          exact ⟨_, _, rfl, rfl⟩
      · simp only [c1, w_bind, w_noX, w_ok, w_C, w_op2, w_asB, w_op3, w_and, w_or, w_not, w_test, w_bAnd, w_bOr, w_bNot, w_if, w_lif, w_tup, w_lst, w_alloc, w_vL, w_call, w_aNil, w_aCons, w_lCall, w_append, w_nil, w_lnil, w_seq, w_next, w_ret, w_set, w_expr, w_sif, w_sub, w_unp, w_fn1, w_fn2, w_fn3, w_fn4, w_fn5, w_join, w_vSrc, w_aSrc, w_lSrc, w_catLL, w_catOL, w_repL, w_sortV, w_asI, w_slE0, w_slE1, w_sl, q_srcT, q_srcS, q_srcR, q_zipT, q_slT, w_lc, w_forS, Int.toNat_natCast, v_0, v_S, List.replicate_succ, List.replicate_zero, Nat.reduceSub, List.getElem?_cons_zero, List.getElem?_cons_succ, List.set_cons_zero, List.set_cons_succ, if_true, if_false, Bool.false_eq_true, Bool.not_true, Bool.not_false, q_add, q_addT, q_addS, q_sub, q_eq, q_eqS, q_eqB, q_ne, q_neS, q_neB, q_lt, q_ltS, q_le, q_gt, q_ge, q_in1, q_nin1, q_isN, q_isnN, q_isB, q_isnB, q_isiI0, q_isiI1, q_isiI2, q_isiI3, q_isiI4, q_isiI5, q_isiB0, q_isiB1, q_isiB2, q_isiB3, q_isiB4, q_isiB5, q_isiS0, q_isiS1, q_isiS2, q_isiS3, q_isiS4, q_isiS5, q_isiT0, q_isiT1, q_isiT2, q_isiT3, q_isiT4, q_isiT5, q_isiR0, q_isiR1, q_isiR2, q_isiR3, q_isiR4, q_isiR5, q_isiN0, q_isiN1, q_isiN2, q_isiN3, q_isiN4, q_isiN5, q_lenS, q_lenT, q_lenR, q_min2, q_max2, q_strS, q_tupP, ix_0, ix_1, ix_2, ix_3, List.length_cons, List.length_nil, lim_0, lim_1, lim_2, lim_3, lim_4, lim_5, lim_6, lim_7, lim_8, lim_9, lim_10, lim_11, lim_12, lim_13, lim_14, lim_15, lim_16, lim_17, lim_18, lim_19, lim_20, lim_21, lim_22, lim_23, Nat.reduceAdd, Nat.reduceLeDiff, decide_true, decide_false, List.cons.injEq, reduceCtorEq, and_false, false_and, and_true, true_and, Nat.reduceEqDiff, Int.reduceLE, Int.reduceEq, Int.reduceLT, Bool.false_and, Bool.and_false]
        exact ⟨_, _, rfl, rfl⟩
    | letters lo hi =>
      simp only [SF.d, w_bind, w_noX, w_ok, w_C, w_op2, w_asB, w_op3, w_and, w_or, w_not, w_test, w_bAnd, w_bOr, w_bNot, w_if, w_lif, w_tup, w_lst, w_alloc, w_vL, w_call, w_aNil, w_aCons, w_lCall, w_append, w_nil, w_lnil, w_seq, w_next, w_ret, w_set, w_expr, w_sif, w_sub, w_unp, w_fn1, w_fn2, w_fn3, w_fn4, w_fn5, w_join, w_vSrc, w_aSrc, w_lSrc, w_catLL, w_catOL, w_repL, w_sortV, w_asI, w_slE0, w_slE1, w_sl, q_srcT, q_srcS, q_srcR, q_zipT, q_slT, w_lc, w_forS, Int.toNat_natCast, v_0, v_S, List.replicate_succ, List.replicate_zero, Nat.reduceSub, List.getElem?_cons_zero, List.getElem?_cons_succ, List.set_cons_zero, List.set_cons_succ, if_true, if_false, Bool.false_eq_true, Bool.not_true, Bool.not_false, q_add, q_addT, q_addS, q_sub, q_eq, q_eqS, q_eqB, q_ne, q_neS, q_neB, q_lt, q_ltS, q_le, q_gt, q_ge, q_in1, q_nin1, q_isN, q_isnN, q_isB, q_isnB, q_isiI0, q_isiI1, q_isiI2, q_isiI3, q_isiI4, q_isiI5, q_isiB0, q_isiB1, q_isiB2, q_isiB3, q_isiB4, q_isiB5, q_isiS0, q_isiS1, q_isiS2, q_isiS3, q_isiS4, q_isiS5, q_isiT0, q_isiT1, q_isiT2, q_isiT3, q_isiT4, q_isiT5, q_isiR0, q_isiR1, q_isiR2, q_isiR3, q_isiR4, q_isiR5, q_isiN0, q_isiN1, q_isiN2, q_isiN3, q_isiN4, q_isiN5, q_lenS, q_lenT, q_lenR, q_min2, q_max2, q_strS, q_tupP, ix_0, ix_1, ix_2, ix_3, List.length_cons, List.length_nil, lim_0, lim_1, lim_2, lim_3, lim_4, lim_5, lim_6, lim_7, lim_8, lim_9, lim_10, lim_11, lim_12, lim_13, lim_14, lim_15, lim_16, lim_17, lim_18, lim_19, lim_20, lim_21, lim_22, lim_23, Nat.reduceAdd, Nat.reduceLeDiff, decide_true, decide_false, List.cons.injEq, reduceCtorEq, and_false, false_and, and_true, true_and, Nat.reduceEqDiff, Int.reduceLE, Int.reduceEq, Int.reduceLT, cast_le]
      have cv : SF.val (.letters lo hi) (.str (s.take j)) = (only' (s.take j) cLet && (decide (lo ≤ j) && decide (j ≤ hi))) := by simp only [SF.val, tl]
      rw [cv]
      by_cases c1 : lo ≤ j
      · by_cases c2 : j ≤ hi
        · by_cases c3 : only' (s.take j) cLet = true
          · simp only [c1, c2, c3, w_bind, w_noX, w_ok, w_C, w_op2, w_asB, w_op3, w_and, w_or, w_not, w_test, w_bAnd, w_bOr, w_bNot, w_if, w_lif, w_tup, w_lst, w_alloc, w_vL, w_call, w_aNil, w_aCons, w_lCall, w_append, w_nil, w_lnil, w_seq, w_next, w_ret, w_set, w_expr, w_sif, w_sub, w_unp, w_fn1, w_fn2, w_fn3, w_fn4, w_fn5, w_join, w_vSrc, w_aSrc, w_lSrc, w_catLL, w_catOL, w_repL, w_sortV, w_asI, w_slE0, w_slE1, w_sl, q_srcT, q_srcS, q_srcR, q_zipT, q_slT, w_lc, w_forS, Int.toNat_natCast, v_0, v_S, List.replicate_succ, List.replicate_zero, Nat.reduceSub, List.getElem?_cons_zero, List.getElem?_cons_succ, List.set_cons_zero, List.set_cons_succ, if_true, if_false, Bool.false_eq_true, Bool.not_true, Bool.not_false, q_add, q_addT, q_addS, q_sub, q_eq, q_eqS, q_eqB, q_ne, q_neS, q_neB, q_lt, q_ltS, q_le, q_gt, q_ge, q_in1, q_nin1, q_isN, q_isnN, q_isB, q_isnB, q_isiI0, q_isiI1, q_isiI2, q_isiI3, q_isiI4, q_isiI5, q_isiB0, q_isiB1, q_isiB2, q_isiB3, q_isiB4, q_isiB5, q_isiS0, q_isiS1, q_isiS2, q_isiS3, q_isiS4, q_isiS5, q_isiT0, q_isiT1, q_isiT2, q_isiT3, q_isiT4, q_isiT5, q_isiR0, q_isiR1, q_isiR2, q_isiR3, q_isiR4, q_isiR5, q_isiN0, q_isiN1, q_isiN2, q_isiN3, q_isiN4, q_isiN5, q_lenS, q_lenT, q_lenR, q_min2, q_max2, q_strS, q_tupP, ix_0, ix_1, ix_2, ix_3, List.length_cons, List.length_nil, lim_0, lim_1, lim_2, lim_3, lim_4, lim_5, lim_6, lim_7, lim_8, lim_9, lim_10, lim_11, lim_12, lim_13, lim_14, lim_15, lim_16, lim_17, lim_18, lim_19, lim_20, lim_21, lim_22, lim_23, Nat.reduceAdd, Nat.reduceLeDiff, decide_true, decide_false, List.cons.injEq, reduceCtorEq, and_false, false_and, and_true, true_and, Nat.reduceEqDiff, Int.reduceLE, Int.reduceEq, Int.reduceLT, cast_le, s_lonly (show (s.take j).length ≤ 1000000 by omega), w_isLst, lst_last, push_last pl, Bool.and_self]
            exact ⟨_, _, rfl, rfl⟩
          · rw [Bool.not_eq_true] at c3
            simp only [c1, c2, c3, w_bind, w_noX, w_ok, w_C, w_op2, w_asB, w_op3, w_and, w_or, w_not, w_test, w_bAnd, w_bOr, w_bNot, w_if, w_lif, w_tup, w_lst, w_alloc, w_vL, w_call, w_aNil, w_aCons, w_lCall, w_append, w_nil, w_lnil, w_seq, w_next, w_ret, w_set, w_expr, w_sif, w_sub, w_unp, w_fn1, w_fn2, w_fn3, w_fn4, w_fn5, w_join, w_vSrc, w_aSrc, w_lSrc, w_catLL, w_catOL, w_repL, w_sortV, w_asI, w_slE0, w_slE1, w_sl, q_srcT, q_srcS, q_srcR, q_zipT, q_slT, w_lc, w_forS, Int.toNat_natCast, v_0, v_S, List.replicate_succ, List.replicate_zero, Nat.reduceSub, List.getElem?_cons_zero, List.getElem?_cons_succ, List.set_cons_zero, List.set_cons_succ, if_true, if_false, Bool.false_eq_true, Bool.not_true, Bool.not_false, q_add, q_addT, q_addS, q_sub, q_eq, q_eqS, q_eqB, q_ne, q_neS, q_neB, q_lt, q_ltS, q_le, q_gt, q_ge, q_in1, q_nin1, q_isN, q_isnN, q_isB, q_isnB, q_isiI0, q_isiI1, q_isiI2, q_isiI3, q_isiI4, q_isiI5, q_isiB0, q_isiB1, q_isiB2, q_isiB3, q_isiB4, q_isiB5, q_isiS0, q_isiS1, q_isiS2, q_isiS3, q_isiS4, q_isiS5, q_isiT0, q_isiT1, q_isiT2, q_isiT3, q_isiT4, q_isiT5, q_isiR0, q_isiR1, q_isiR2, q_isiR3, q_isiR4, q_isiR5, q_isiN0, q_isiN1, q_isiN2, q_isiN3, q_isiN4, q_isiN5, q_lenS, q_lenT, q_lenR, q_min2, q_max2, q_strS, q_tupP, ix_0, ix_1, ix_2, ix_3, List.length_cons, List.length_nil, lim_0, lim_1, lim_2, lim_3, lim_4, lim_5, lim_6, lim_7, lim_8, lim_9, lim_10, lim_11, lim_12, lim_13, lim_14, lim_15, lim_16, lim_17, lim_18, lim_19, lim_20, lim_21, lim_22, lim_23, Nat.reduceAdd, Nat.reduceLeDiff, decide_true, decide_false, List.cons.injEq, reduceCtorEq, and_false, false_and, and_true, true_and, Nat.reduceEqDiff, Int.reduceLE, Int.reduceEq, Int.reduceLT, cast_le, s_lonly (show (s.take j).length ≤ 1000000 by omega), Bool.false_and]
            exact ⟨_, _, rfl, rfl⟩
        · simp only [c1, c2, w_bind, w_noX, w_ok, w_C, w_op2, w_asB, w_op3, w_and, w_or, w_not, w_test, w_bAnd, w_bOr, w_bNot, w_if, w_lif, w_tup, w_lst, w_alloc, w_vL, w_call, w_aNil, w_aCons, w_lCall, w_append, w_nil, w_lnil, w_seq, w_next, w_ret, w_set, w_expr, w_sif, w_sub, w_unp, w_fn1, w_fn2, w_fn3, w_fn4, w_fn5, w_join, w_vSrc, w_aSrc, w_lSrc, w_catLL, w_catOL, w_repL, w_sortV, w_asI, w_slE0, w_slE1, w_sl, q_srcT, q_srcS, q_srcR, q_zipT, q_slT, w_lc, w_forS, Int.toNat_natCast, v_0, v_S, List.replicate_succ, List.replicate_zero, Nat.reduceSub, List.getElem?_cons_zero, List.getElem?_cons_succ, List.set_cons_zero, List.set_cons_succ, if_true, if_false, Bool.false_eq_true, Bool.not_true, Bool.not_false, q_add, q_addT, q_addS, q_sub, q_eq, q_eqS, q_eqB, q_ne, q_neS, q_neB, q_lt, q_ltS, q_le, q_gt, q_ge, q_in1, q_nin1, q_isN, q_isnN, q_isB, q_isnB, q_isiI0, q_isiI1, q_isiI2, q_isiI3, q_isiI4, q_isiI5, q_isiB0, q_isiB1, q_isiB2, q_isiB3, q_isiB4, q_isiB5, q_isiS0, q_isiS1, q_isiS2, q_isiS3, q_isiS4, q_isiS5, q_isiT0, q_isiT1, q_isiT2, q_isiT3, q_isiT4, q_isiT5, q_isiR0, q_isiR1, q_isiR2, q_isiR3, q_isiR4, q_isiR5, q_isiN0, q_isiN1, q_isiN2, q_isiN3, q_isiN4, q_isiN5, q_lenS, q_lenT, q_lenR, q_min2, q_max2, q_strS, q_tupP, ix_0, ix_1, ix_2, ix_3, List.length_cons, List.length_nil, lim_0, lim_1, lim_2, lim_3, lim_4, lim_5, lim_6, lim_7, lim_8, lim_9, lim_10, lim_11, lim_12, lim_13, lim_14, lim_15, lim_16, lim_17, lim_18, lim_19, lim_20, lim_21, lim_22, lim_23, Nat.reduceAdd, Nat.reduceLeDiff, decide_true, decide_false, List.cons.injEq, reduceCtorEq, and_false, false_and, and_true, true_and, Nat.reduceEqDiff, Int.reduceLE, Int.reduceEq, Int.reduceLT, cast_le, Bool.and_false]
          exact ⟨_, _, rfl, rfl⟩
      · simp only [c1, w_bind, w_noX, w_ok, w_C, w_op2, w_asB, w_op3, w_and, w_or, w_not, w_test, w_bAnd, w_bOr, w_bNot, w_if, w_lif, w_tup, w_lst, w_alloc, w_vL, w_call, w_aNil, w_aCons, w_lCall, w_append, w_nil, w_lnil, w_seq, w_next, w_ret, w_set, w_expr, w_sif, w_sub, w_unp, w_fn1, w_fn2, w_fn3, w_fn4, w_fn5, w_join, w_vSrc, w_aSrc, w_lSrc, w_catLL, w_catOL, w_repL, w_sortV, w_asI, w_slE0, w_slE1, w_sl, q_srcT, q_srcS, q_srcR, q_zipT, q_slT, w_lc, w_forS, Int.toNat_natCast, v_0, v_S, List.replicate_succ, List.replicate_zero, Nat.reduceSub, List.getElem?_cons_zero, List.getElem?_cons_succ, List.set_cons_zero, List.set_cons_succ, if_true, if_false, Bool.false_eq_true, Bool.not_true, Bool.not_false, q_add, q_addT, q_addS, q_sub, q_eq, q_eqS, q_eqB, q_ne, q_neS, q_neB, q_lt, q_ltS, q_le, q_gt, q_ge, q_in1, q_nin1, q_isN, q_isnN, q_isB, q_isnB, q_isiI0, q_isiI1, q_isiI2, q_isiI3, q_isiI4, q_isiI5, q_isiB0, q_isiB1, q_isiB2, q_isiB3, q_isiB4, q_isiB5, q_isiS0, q_isiS1, q_isiS2, q_isiS3, q_isiS4, q_isiS5, q_isiT0, q_isiT1, q_isiT2, q_isiT3, q_isiT4, q_isiT5, q_isiR0, q_isiR1, q_isiR2, q_isiR3, q_isiR4, q_isiR5, q_isiN0, q_isiN1, q_isiN2, q_isiN3, q_isiN4, q_isiN5, q_lenS, q_lenT, q_lenR, q_min2, q_max2, q_strS, q_tupP, ix_0, ix_1, ix_2, ix_3, List.length_cons, List.length_nil, lim_0, lim_1, lim_2, lim_3, lim_4, lim_5, lim_6, lim_7, lim_8, lim_9, lim_10, lim_11, lim_12, lim_13, lim_14, lim_15, lim_16, lim_17, lim_18, lim_19, lim_20, lim_21, lim_22, lim_23, Nat.reduceAdd, Nat.reduceLeDiff, decide_true, decide_false, List.cons.injEq, reduceCtorEq, and_false, false_and, and_true, true_and, Nat.reduceEqDiff, Int.reduceLE, Int.reduceEq, Int.reduceLT, Bool.false_and, Bool.and_false]
        exact ⟨_, _, rfl, rfl⟩
  · rintro e h' ⟨rfl, x3, x4, rfl⟩
    simp only [w_bind, w_noX, w_ok, w_C, w_op2, w_asB, w_op3, w_and, w_or, w_not, w_test, w_bAnd, w_bOr, w_bNot, w_if, w_lif, w_tup, w_lst, w_alloc, w_vL, w_call, w_aNil, w_aCons, w_lCall, w_append, w_nil, w_lnil, w_seq, w_next, w_ret, w_set, w_expr, w_sif, w_sub, w_unp, w_fn1, w_fn2, w_fn3, w_fn4, w_fn5, w_join, w_vSrc, w_aSrc, w_lSrc, w_catLL, w_catOL, w_repL, w_sortV, w_asI, w_slE0, w_slE1, w_sl, q_srcT, q_srcS, q_srcR, q_zipT, q_slT, w_lc, w_forS, Int.toNat_natCast, v_0, v_S, List.replicate_succ, List.replicate_zero, Nat.reduceSub, List.getElem?_cons_zero, List.getElem?_cons_succ, List.set_cons_zero, List.set_cons_succ, if_true, if_false, Bool.false_eq_true, Bool.not_true, Bool.not_false, q_add, q_addT, q_addS, q_sub, q_eq, q_eqS, q_eqB, q_ne, q_neS, q_neB, q_lt, q_ltS, q_le, q_gt, q_ge, q_in1, q_nin1, q_isN, q_isnN, q_isB, q_isnB, q_isiI0, q_isiI1, q_isiI2, q_isiI3, q_isiI4, q_isiI5, q_isiB0, q_isiB1, q_isiB2, q_isiB3, q_isiB4, q_isiB5, q_isiS0, q_isiS1, q_isiS2, q_isiS3, q_isiS4, q_isiS5, q_isiT0, q_isiT1, q_isiT2, q_isiT3, q_isiT4, q_isiT5, q_isiR0, q_isiR1, q_isiR2, q_isiR3, q_isiR4, q_isiR5, q_isiN0, q_isiN1, q_isiN2, q_isiN3, q_isiN4, q_isiN5, q_lenS, q_lenT, q_lenR, q_min2, q_max2, q_strS, q_tupP, ix_0, ix_1, ix_2, ix_3, and_self])
theorem val_len {f : SF} {s : Sg} (fo : f.Ok) (hv : f.val (.str s) = true) : s.length ≤ 4 := by
  rcases leaf_of fo hv with ⟨t, e, h1, _⟩ | ⟨i, e, _⟩
  · cases e; exact h1
  · cases e
theorem fnd_in {f : SF} {s : Sg} (fo : f.Ok) : inD (.tup [.str s, .int s.length]) (fnd f s (min 4 s.length + 1)) = f.val (.str s) := by
  rw [Bool.eq_iff_iff, inD_iff]
  unfold fnd
  rw [List.mem_map]
  constructor
  · rintro ⟨j, hj, e⟩
    rw [List.mem_filter] at hj
    simp only [D.tup.injEq, List.cons.injEq, D.str.injEq] at e
    rw [e.1] at hj
    exact hj.2
  · intro hv
    have l := val_len fo hv
    exact ⟨s.length, by rw [List.mem_filter]; exact ⟨by simp; omega, by rw [List.take_length]; exact hv⟩, by simp⟩
theorem fnd_pl {f : SF} {s : Sg} {m n : Nat} (hc : ∀ c ∈ s, c < 1114112) : (fnd f s m).all (plN (n + 2)) = true := by
  rw [List.all_eq_true]
  intro x hx
  obtain ⟨j, _, rfl⟩ := List.mem_map.mp hx
  have := pl_str (s := s.take j) (n := n) fun c h => hc c (List.mem_of_mem_take h)
  show ([D.str (s.take j), .int j].all (plN (n + 1))) = true
  rw [List.all_cons, List.all_cons, this]
  rfl
theorem pow10b {n : Nat} (h1 : 1 ≤ n) (h2 : n ≤ 4) {h : MH} : ixM (.tup [.int 10, .int 100, .int 1000, .int 10000]) (.int ((n : Int) - 1)) h = .ok (.int ((10 : Int) ^ n)) h := by
  have n4 : n = 1 ∨ n = 2 ∨ n = 3 ∨ n = 4 := by omega
  rcases n4 with rfl | rfl | rfl | rfl
  · simp [ixM, atI_0]
  · simp [ixM, atI_1]
  · simp [ixM, atI_2]
  · simp [ixM, atI_3]
theorem s_lvalS {f : SF} (fo : f.Ok) (hb : Bas h d) : ∃ l : MH, run (k + 3) I__law_is_value [f.d, d] h = .ok (.bl (f.val d)) (h ++ l) := by
  by_cases fn : isNum f = true
  · refine ⟨[], ?_⟩
    rw [List.append_nil]
    refine Ok.eq ?_
    rw [e__law_is_value]
    unfold m__law_is_value
    cases f with
    | number n =>
      simp only [SF.d, w_bind, w_noX, w_ok, w_C, w_op2, w_asB, w_op3, w_and, w_or, w_not, w_test, w_bAnd, w_bOr, w_bNot, w_if, w_lif, w_tup, w_lst, w_alloc, w_vL, w_call, w_aNil, w_aCons, w_lCall, w_append, w_nil, w_lnil, w_seq, w_next, w_ret, w_set, w_expr, w_sif, w_sub, w_unp, w_fn1, w_fn2, w_fn3, w_fn4, w_fn5, w_join, w_vSrc, w_aSrc, w_lSrc, w_catLL, w_catOL, w_repL, w_sortV, w_asI, w_slE0, w_slE1, w_sl, q_srcT, q_srcS, q_srcR, q_zipT, q_slT, w_lc, w_forS, Int.toNat_natCast, v_0, v_S, List.replicate_succ, List.replicate_zero, Nat.reduceSub, List.getElem?_cons_zero, List.getElem?_cons_succ, List.set_cons_zero, List.set_cons_succ, if_true, if_false, Bool.false_eq_true, Bool.not_true, Bool.not_false, q_add, q_addT, q_addS, q_sub, q_eq, q_eqS, q_eqB, q_ne, q_neS, q_neB, q_lt, q_ltS, q_le, q_gt, q_ge, q_in1, q_nin1, q_isN, q_isnN, q_isB, q_isnB, q_isiI0, q_isiI1, q_isiI2, q_isiI3, q_isiI4, q_isiI5, q_isiB0, q_isiB1, q_isiB2, q_isiB3, q_isiB4, q_isiB5, q_isiS0, q_isiS1, q_isiS2, q_isiS3, q_isiS4, q_isiS5, q_isiT0, q_isiT1, q_isiT2, q_isiT3, q_isiT4, q_isiT5, q_isiR0, q_isiR1, q_isiR2, q_isiR3, q_isiR4, q_isiR5, q_isiN0, q_isiN1, q_isiN2, q_isiN3, q_isiN4, q_isiN5, q_lenS, q_lenT, q_lenR, q_min2, q_max2, q_strS, q_tupP, ix_0, ix_1, ix_2, ix_3, List.length_cons, List.length_nil, lim_0, lim_1, lim_2, lim_3, lim_4, lim_5, lim_6, lim_7, lim_8, lim_9, lim_10, lim_11, lim_12, lim_13, lim_14, lim_15, lim_16, lim_17, lim_18, lim_19, lim_20, lim_21, lim_22, lim_23, Nat.reduceAdd, Nat.reduceLeDiff, decide_true, decide_false, List.cons.injEq, reduceCtorEq, and_false, false_and, and_true, true_and, Nat.reduceEqDiff, Int.reduceLE, Int.reduceEq, Int.reduceLT, pow10b fo.1 fo.2, isi_int hb]
      cases d <;> simp only [isInt, isBl, isi_bl hb, w_bind, w_noX, w_ok, w_C, w_op2, w_asB, w_op3, w_and, w_or, w_not, w_test, w_bAnd, w_bOr, w_bNot, w_if, w_lif, w_tup, w_lst, w_alloc, w_vL, w_call, w_aNil, w_aCons, w_lCall, w_append, w_nil, w_lnil, w_seq, w_next, w_ret, w_set, w_expr, w_sif, w_sub, w_unp, w_fn1, w_fn2, w_fn3, w_fn4, w_fn5, w_join, w_vSrc, w_aSrc, w_lSrc, w_catLL, w_catOL, w_repL, w_sortV, w_asI, w_slE0, w_slE1, w_sl, q_srcT, q_srcS, q_srcR, q_zipT, q_slT, w_lc, w_forS, Int.toNat_natCast, v_0, v_S, List.replicate_succ, List.replicate_zero, Nat.reduceSub, List.getElem?_cons_zero, List.getElem?_cons_succ, List.set_cons_zero, List.set_cons_succ, if_true, if_false, Bool.false_eq_true, Bool.not_true, Bool.not_false, q_add, q_addT, q_addS, q_sub, q_eq, q_eqS, q_eqB, q_ne, q_neS, q_neB, q_lt, q_ltS, q_le, q_gt, q_ge, q_in1, q_nin1, q_isN, q_isnN, q_isB, q_isnB, q_isiI0, q_isiI1, q_isiI2, q_isiI3, q_isiI4, q_isiI5, q_isiB0, q_isiB1, q_isiB2, q_isiB3, q_isiB4, q_isiB5, q_isiS0, q_isiS1, q_isiS2, q_isiS3, q_isiS4, q_isiS5, q_isiT0, q_isiT1, q_isiT2, q_isiT3, q_isiT4, q_isiT5, q_isiR0, q_isiR1, q_isiR2, q_isiR3, q_isiR4, q_isiR5, q_isiN0, q_isiN1, q_isiN2, q_isiN3, q_isiN4, q_isiN5, q_lenS, q_lenT, q_lenR, q_min2, q_max2, q_strS, q_tupP, ix_0, ix_1, ix_2, ix_3, decide_true, decide_false, List.cons.injEq, reduceCtorEq, and_false, false_and, and_true, true_and, Nat.reduceEqDiff, Int.reduceLE, Int.reduceEq, Int.reduceLT, SF.val, and_self]
      rename_i i
      by_cases c : 0 ≤ i <;> simp only [c, w_bind, w_noX, w_ok, w_C, w_op2, w_asB, w_op3, w_and, w_or, w_not, w_test, w_bAnd, w_bOr, w_bNot, w_if, w_lif, w_tup, w_lst, w_alloc, w_vL, w_call, w_aNil, w_aCons, w_lCall, w_append, w_nil, w_lnil, w_seq, w_next, w_ret, w_set, w_expr, w_sif, w_sub, w_unp, w_fn1, w_fn2, w_fn3, w_fn4, w_fn5, w_join, w_vSrc, w_aSrc, w_lSrc, w_catLL, w_catOL, w_repL, w_sortV, w_asI, w_slE0, w_slE1, w_sl, q_srcT, q_srcS, q_srcR, q_zipT, q_slT, w_lc, w_forS, Int.toNat_natCast, v_0, v_S, List.replicate_succ, List.replicate_zero, Nat.reduceSub, List.getElem?_cons_zero, List.getElem?_cons_succ, List.set_cons_zero, List.set_cons_succ, if_true, if_false, Bool.false_eq_true, Bool.not_true, Bool.not_false, q_add, q_addT, q_addS, q_sub, q_eq, q_eqS, q_eqB, q_ne, q_neS, q_neB, q_lt, q_ltS, q_le, q_gt, q_ge, q_in1, q_nin1, q_isN, q_isnN, q_isB, q_isnB, q_isiI0, q_isiI1, q_isiI2, q_isiI3, q_isiI4, q_isiI5, q_isiB0, q_isiB1, q_isiB2, q_isiB3, q_isiB4, q_isiB5, q_isiS0, q_isiS1, q_isiS2, q_isiS3, q_isiS4, q_isiS5, q_isiT0, q_isiT1, q_isiT2, q_isiT3, q_isiT4, q_isiT5, q_isiR0, q_isiR1, q_isiR2, q_isiR3, q_isiR4, q_isiR5, q_isiN0, q_isiN1, q_isiN2, q_isiN3, q_isiN4, q_isiN5, q_lenS, q_lenT, q_lenR, q_min2, q_max2, q_strS, q_tupP, ix_0, ix_1, ix_2, ix_3, decide_true, decide_false, List.cons.injEq, reduceCtorEq, and_false, false_and, and_true, true_and, Nat.reduceEqDiff, Int.reduceLE, Int.reduceEq, Int.reduceLT, Bool.true_and, Bool.false_and, and_self]
    | _ => cases fn
  · rw [Bool.not_eq_true] at fn
    by_cases c : isStr d = true
    · cases d <;> first | (cases c; done) | skip
      rename_i s
      obtain ⟨h1, h2⟩ := hb.2.1 s rfl
      refine ⟨_, Ok.eq (h := h ++ [.lst (fnd f s (min 4 s.length + 1))]) ?_⟩
      rw [e__law_is_value]
      unfold m__law_is_value
      have sp := s_parts (k := k) (h := h) fo fn h1 h2
      have ii := in_lst (h := h ++ [.lst (fnd f s (min 4 s.length + 1))]) (x := .tup [.str s, .int s.length]) getElem?_app (by
        show ([D.str s, .int s.length].all (plN 38)) = true
        rw [List.all_cons, List.all_cons, pl_str h2]; rfl) (fnd_pl h2)
      rw [fnd_in fo] at ii
      cases f <;> first | (cases fn; done) | skip
      all_goals
        simp only [SF.d] at sp
        simp only [SF.d, w_bind, w_noX, w_ok, w_C, w_op2, w_asB, w_op3, w_and, w_or, w_not, w_test, w_bAnd, w_bOr, w_bNot, w_if, w_lif, w_tup, w_lst, w_alloc, w_vL, w_call, w_aNil, w_aCons, w_lCall, w_append, w_nil, w_lnil, w_seq, w_next, w_ret, w_set, w_expr, w_sif, w_sub, w_unp, w_fn1, w_fn2, w_fn3, w_fn4, w_fn5, w_join, w_vSrc, w_aSrc, w_lSrc, w_catLL, w_catOL, w_repL, w_sortV, w_asI, w_slE0, w_slE1, w_sl, q_srcT, q_srcS, q_srcR, q_zipT, q_slT, w_lc, w_forS, Int.toNat_natCast, v_0, v_S, List.replicate_succ, List.replicate_zero, Nat.reduceSub, List.getElem?_cons_zero, List.getElem?_cons_succ, List.set_cons_zero, List.set_cons_succ, if_true, if_false, Bool.false_eq_true, Bool.not_true, Bool.not_false, q_add, q_addT, q_addS, q_sub, q_eq, q_eqS, q_eqB, q_ne, q_neS, q_neB, q_lt, q_ltS, q_le, q_gt, q_ge, q_in1, q_nin1, q_isN, q_isnN, q_isB, q_isnB, q_isiI0, q_isiI1, q_isiI2, q_isiI3, q_isiI4, q_isiI5, q_isiB0, q_isiB1, q_isiB2, q_isiB3, q_isiB4, q_isiB5, q_isiS0, q_isiS1, q_isiS2, q_isiS3, q_isiS4, q_isiS5, q_isiT0, q_isiT1, q_isiT2, q_isiT3, q_isiT4, q_isiT5, q_isiR0, q_isiR1, q_isiR2, q_isiR3, q_isiR4, q_isiR5, q_isiN0, q_isiN1, q_isiN2, q_isiN3, q_isiN4, q_isiN5, q_lenS, q_lenT, q_lenR, q_min2, q_max2, q_strS, q_tupP, ix_0, ix_1, ix_2, ix_3, List.length_cons, List.length_nil, lim_0, lim_1, lim_2, lim_3, lim_4, lim_5, lim_6, lim_7, lim_8, lim_9, lim_10, lim_11, lim_12, lim_13, lim_14, lim_15, lim_16, lim_17, lim_18, lim_19, lim_20, lim_21, lim_22, lim_23, Nat.reduceAdd, Nat.reduceLeDiff, decide_true, decide_false, List.cons.injEq, reduceCtorEq, and_false, false_and, and_true, true_and, Nat.reduceEqDiff, Int.reduceLE, Int.reduceEq, Int.reduceLT, lenV_str hb, sp, ii, and_self]
    · refine ⟨[], ?_⟩
      rw [List.append_nil]
      refine Ok.eq ?_
      rw [e__law_is_value]
      unfold m__law_is_value
      rw [Bool.not_eq_true] at c
      have is := isi_str hb
      rw [c] at is
      have z : f.val d = false := by cases f <;> cases d <;> first | rfl | (cases fn; done) | (cases c; done)
      rw [z]
      cases f <;> first | (cases fn; done) | skip
      all_goals simp only [SF.d, w_bind, w_noX, w_ok, w_C, w_op2, w_asB, w_op3, w_and, w_or, w_not, w_test, w_bAnd, w_bOr, w_bNot, w_if, w_lif, w_tup, w_lst, w_alloc, w_vL, w_call, w_aNil, w_aCons, w_lCall, w_append, w_nil, w_lnil, w_seq, w_next, w_ret, w_set, w_expr, w_sif, w_sub, w_unp, w_fn1, w_fn2, w_fn3, w_fn4, w_fn5, w_join, w_vSrc, w_aSrc, w_lSrc, w_catLL, w_catOL, w_repL, w_sortV, w_asI, w_slE0, w_slE1, w_sl, q_srcT, q_srcS, q_srcR, q_zipT, q_slT, w_lc, w_forS, Int.toNat_natCast, v_0, v_S, List.replicate_succ, List.replicate_zero, Nat.reduceSub, List.getElem?_cons_zero, List.getElem?_cons_succ, List.set_cons_zero, List.set_cons_succ, if_true, if_false, Bool.false_eq_true, Bool.not_true, Bool.not_false, q_add, q_addT, q_addS, q_sub, q_eq, q_eqS, q_eqB, q_ne, q_neS, q_neB, q_lt, q_ltS, q_le, q_gt, q_ge, q_in1, q_nin1, q_isN, q_isnN, q_isB, q_isnB, q_isiI0, q_isiI1, q_isiI2, q_isiI3, q_isiI4, q_isiI5, q_isiB0, q_isiB1, q_isiB2, q_isiB3, q_isiB4, q_isiB5, q_isiS0, q_isiS1, q_isiS2, q_isiS3, q_isiS4, q_isiS5, q_isiT0, q_isiT1, q_isiT2, q_isiT3, q_isiT4, q_isiT5, q_isiR0, q_isiR1, q_isiR2, q_isiR3, q_isiR4, q_isiR5, q_isiN0, q_isiN1, q_isiN2, q_isiN3, q_isiN4, q_isiN5, q_lenS, q_lenT, q_lenR, q_min2, q_max2, q_strS, q_tupP, ix_0, ix_1, ix_2, ix_3, List.length_cons, List.length_nil, lim_0, lim_1, lim_2, lim_3, lim_4, lim_5, lim_6, lim_7, lim_8, lim_9, lim_10, lim_11, lim_12, lim_13, lim_14, lim_15, lim_16, lim_17, lim_18, lim_19, lim_20, lim_21, lim_22, lim_23, Nat.reduceAdd, Nat.reduceLeDiff, decide_true, decide_false, List.cons.injEq, reduceCtorEq, and_false, false_and, and_true, true_and, Nat.reduceEqDiff, Int.reduceLE, Int.reduceEq, Int.reduceLT, is, and_self]
theorem Bas.app {l : MH} (a : Bas h d) : Bas (h ++ l) d := by
  obtain ⟨⟨t, e, ht⟩, b, c⟩ := a
  refine ⟨⟨t, ?_, ht⟩, b, c⟩
  cases d with
  | obj n =>
    simp only [tyOf] at e ⊢
    cases q : h[n]? with
    | none => rw [q] at e; cases e
    | some o => rw [q] at e; rw [get_app q]; exact e
  | _ => exact e
theorem s_lval {f : FF} (fo : f.Ok) (hb : Flat h d) : ∃ l : MH, run (k + 4) I__law_is_value [f.d, d] h = .ok (.bl (f.val d)) (h ++ l) := by
  cases f with
  | one s => exact s_lvalS fo hb.1
  | rep s lo hi =>
    obtain ⟨f0, f1, f2, f3⟩ := fo
    have key : Ok (run (k + 4) I__law_is_value [(FF.rep s lo hi).d, d] h) fun v h' => v = .bl ((FF.rep s lo hi).val d) ∧ ∃ l, h' = h ++ l := by
      rw [e__law_is_value]
      unfold m__law_is_value
      simp only [FF.d, w_bind, w_noX, w_ok, w_C, w_op2, w_asB, w_op3, w_and, w_or, w_not, w_test, w_bAnd, w_bOr, w_bNot, w_if, w_lif, w_tup, w_lst, w_alloc, w_vL, w_call, w_aNil, w_aCons, w_lCall, w_append, w_nil, w_lnil, w_seq, w_next, w_ret, w_set, w_expr, w_sif, w_sub, w_unp, w_fn1, w_fn2, w_fn3, w_fn4, w_fn5, w_join, w_vSrc, w_aSrc, w_lSrc, w_catLL, w_catOL, w_repL, w_sortV, w_asI, w_slE0, w_slE1, w_sl, q_srcT, q_srcS, q_srcR, q_zipT, q_slT, w_lc, w_forS, Int.toNat_natCast, v_0, v_S, List.replicate_succ, List.replicate_zero, Nat.reduceSub, List.getElem?_cons_zero, List.getElem?_cons_succ, List.set_cons_zero, List.set_cons_succ, if_true, if_false, Bool.false_eq_true, Bool.not_true, Bool.not_false, q_add, q_addT, q_addS, q_sub, q_eq, q_eqS, q_eqB, q_ne, q_neS, q_neB, q_lt, q_ltS, q_le, q_gt, q_ge, q_in1, q_nin1, q_isN, q_isnN, q_isB, q_isnB, q_isiI0, q_isiI1, q_isiI2, q_isiI3, q_isiI4, q_isiI5, q_isiB0, q_isiB1, q_isiB2, q_isiB3, q_isiB4, q_isiB5, q_isiS0, q_isiS1, q_isiS2, q_isiS3, q_isiS4, q_isiS5, q_isiT0, q_isiT1, q_isiT2, q_isiT3, q_isiT4, q_isiT5, q_isiR0, q_isiR1, q_isiR2, q_isiR3, q_isiR4, q_isiR5, q_isiN0, q_isiN1, q_isiN2, q_isiN3, q_isiN4, q_isiN5, q_lenS, q_lenT, q_lenR, q_min2, q_max2, q_strS, q_tupP, ix_0, ix_1, ix_2, ix_3, List.length_cons, List.length_nil, lim_0, lim_1, lim_2, lim_3, lim_4, lim_5, lim_6, lim_7, lim_8, lim_9, lim_10, lim_11, lim_12, lim_13, lim_14, lim_15, lim_16, lim_17, lim_18, lim_19, lim_20, lim_21, lim_22, lim_23, Nat.reduceAdd, Nat.reduceLeDiff, decide_true, decide_false, List.cons.injEq, reduceCtorEq, and_false, false_and, and_true, true_and, Nat.reduceEqDiff, Int.reduceLE, Int.reduceEq, Int.reduceLT, isi_tup hb.1]
      cases d <;> first | (simp only [isTup, w_bind, w_noX, w_ok, w_C, w_op2, w_asB, w_op3, w_and, w_or, w_not, w_test, w_bAnd, w_bOr, w_bNot, w_if, w_lif, w_tup, w_lst, w_alloc, w_vL, w_call, w_aNil, w_aCons, w_lCall, w_append, w_nil, w_lnil, w_seq, w_next, w_ret, w_set, w_expr, w_sif, w_sub, w_unp, w_fn1, w_fn2, w_fn3, w_fn4, w_fn5, w_join, w_vSrc, w_aSrc, w_lSrc, w_catLL, w_catOL, w_repL, w_sortV, w_asI, w_slE0, w_slE1, w_sl, q_srcT, q_srcS, q_srcR, q_zipT, q_slT, w_lc, w_forS, Int.toNat_natCast, v_0, v_S, List.replicate_succ, List.replicate_zero, Nat.reduceSub, List.getElem?_cons_zero, List.getElem?_cons_succ, List.set_cons_zero, List.set_cons_succ, if_true, if_false, Bool.false_eq_true, Bool.not_true, Bool.not_false, q_add, q_addT, q_addS, q_sub, q_eq, q_eqS, q_eqB, q_ne, q_neS, q_neB, q_lt, q_ltS, q_le, q_gt, q_ge, q_in1, q_nin1, q_isN, q_isnN, q_isB, q_isnB, q_isiI0, q_isiI1, q_isiI2, q_isiI3, q_isiI4, q_isiI5, q_isiB0, q_isiB1, q_isiB2, q_isiB3, q_isiB4, q_isiB5, q_isiS0, q_isiS1, q_isiS2, q_isiS3, q_isiS4, q_isiS5, q_isiT0, q_isiT1, q_isiT2, q_isiT3, q_isiT4, q_isiT5, q_isiR0, q_isiR1, q_isiR2, q_isiR3, q_isiR4, q_isiR5, q_isiN0, q_isiN1, q_isiN2, q_isiN3, q_isiN4, q_isiN5, q_lenS, q_lenT, q_lenR, q_min2, q_max2, q_strS, q_tupP, ix_0, ix_1, ix_2, ix_3, FF.val]; exact ⟨trivial, [], (List.append_nil h).symm⟩) | skip
      rename_i ds
      have hl := hb.1.2.2 ds rfl
      simp only [isTup, w_bind, w_noX, w_ok, w_C, w_op2, w_asB, w_op3, w_and, w_or, w_not, w_test, w_bAnd, w_bOr, w_bNot, w_if, w_lif, w_tup, w_lst, w_alloc, w_vL, w_call, w_aNil, w_aCons, w_lCall, w_append, w_nil, w_lnil, w_seq, w_next, w_ret, w_set, w_expr, w_sif, w_sub, w_unp, w_fn1, w_fn2, w_fn3, w_fn4, w_fn5, w_join, w_vSrc, w_aSrc, w_lSrc, w_catLL, w_catOL, w_repL, w_sortV, w_asI, w_slE0, w_slE1, w_sl, q_srcT, q_srcS, q_srcR, q_zipT, q_slT, w_lc, w_forS, Int.toNat_natCast, v_0, v_S, List.replicate_succ, List.replicate_zero, Nat.reduceSub, List.getElem?_cons_zero, List.getElem?_cons_succ, List.set_cons_zero, List.set_cons_succ, if_true, if_false, Bool.false_eq_true, Bool.not_true, Bool.not_false, q_add, q_addT, q_addS, q_sub, q_eq, q_eqS, q_eqB, q_ne, q_neS, q_neB, q_lt, q_ltS, q_le, q_gt, q_ge, q_in1, q_nin1, q_isN, q_isnN, q_isB, q_isnB, q_isiI0, q_isiI1, q_isiI2, q_isiI3, q_isiI4, q_isiI5, q_isiB0, q_isiB1, q_isiB2, q_isiB3, q_isiB4, q_isiB5, q_isiS0, q_isiS1, q_isiS2, q_isiS3, q_isiS4, q_isiS5, q_isiT0, q_isiT1, q_isiT2, q_isiT3, q_isiT4, q_isiT5, q_isiR0, q_isiR1, q_isiR2, q_isiR3, q_isiR4, q_isiR5, q_isiN0, q_isiN1, q_isiN2, q_isiN3, q_isiN4, q_isiN5, q_lenS, q_lenT, q_lenR, q_min2, q_max2, q_strS, q_tupP, ix_0, ix_1, ix_2, ix_3, cast_le, FF.val]
      by_cases c : lo ≤ ds.length
      case neg => simp only [c, w_bind, w_noX, w_ok, w_C, w_op2, w_asB, w_op3, w_and, w_or, w_not, w_test, w_bAnd, w_bOr, w_bNot, w_if, w_lif, w_tup, w_lst, w_alloc, w_vL, w_call, w_aNil, w_aCons, w_lCall, w_append, w_nil, w_lnil, w_seq, w_next, w_ret, w_set, w_expr, w_sif, w_sub, w_unp, w_fn1, w_fn2, w_fn3, w_fn4, w_fn5, w_join, w_vSrc, w_aSrc, w_lSrc, w_catLL, w_catOL, w_repL, w_sortV, w_asI, w_slE0, w_slE1, w_sl, q_srcT, q_srcS, q_srcR, q_zipT, q_slT, w_lc, w_forS, Int.toNat_natCast, v_0, v_S, List.replicate_succ, List.replicate_zero, Nat.reduceSub, List.getElem?_cons_zero, List.getElem?_cons_succ, List.set_cons_zero, List.set_cons_succ, if_true, if_false, Bool.false_eq_true, Bool.not_true, Bool.not_false, q_add, q_addT, q_addS, q_sub, q_eq, q_eqS, q_eqB, q_ne, q_neS, q_neB, q_lt, q_ltS, q_le, q_gt, q_ge, q_in1, q_nin1, q_isN, q_isnN, q_isB, q_isnB, q_isiI0, q_isiI1, q_isiI2, q_isiI3, q_isiI4, q_isiI5, q_isiB0, q_isiB1, q_isiB2, q_isiB3, q_isiB4, q_isiB5, q_isiS0, q_isiS1, q_isiS2, q_isiS3, q_isiS4, q_isiS5, q_isiT0, q_isiT1, q_isiT2, q_isiT3, q_isiT4, q_isiT5, q_isiR0, q_isiR1, q_isiR2, q_isiR3, q_isiR4, q_isiR5, q_isiN0, q_isiN1, q_isiN2, q_isiN3, q_isiN4, q_isiN5, q_lenS, q_lenT, q_lenR, q_min2, q_max2, q_strS, q_tupP, ix_0, ix_1, ix_2, ix_3, decide_true, decide_false, List.cons.injEq, reduceCtorEq, and_false, false_and, and_true, true_and, Nat.reduceEqDiff, Int.reduceLE, Int.reduceEq, Int.reduceLT, Bool.false_and]; exact ⟨[], (List.append_nil h).symm⟩
      by_cases c2 : ds.length ≤ hi
      case neg => simp only [c, c2, w_bind, w_noX, w_ok, w_C, w_op2, w_asB, w_op3, w_and, w_or, w_not, w_test, w_bAnd, w_bOr, w_bNot, w_if, w_lif, w_tup, w_lst, w_alloc, w_vL, w_call, w_aNil, w_aCons, w_lCall, w_append, w_nil, w_lnil, w_seq, w_next, w_ret, w_set, w_expr, w_sif, w_sub, w_unp, w_fn1, w_fn2, w_fn3, w_fn4, w_fn5, w_join, w_vSrc, w_aSrc, w_lSrc, w_catLL, w_catOL, w_repL, w_sortV, w_asI, w_slE0, w_slE1, w_sl, q_srcT, q_srcS, q_srcR, q_zipT, q_slT, w_lc, w_forS, Int.toNat_natCast, v_0, v_S, List.replicate_succ, List.replicate_zero, Nat.reduceSub, List.getElem?_cons_zero, List.getElem?_cons_succ, List.set_cons_zero, List.set_cons_succ, if_true, if_false, Bool.false_eq_true, Bool.not_true, Bool.not_false, q_add, q_addT, q_addS, q_sub, q_eq, q_eqS, q_eqB, q_ne, q_neS, q_neB, q_lt, q_ltS, q_le, q_gt, q_ge, q_in1, q_nin1, q_isN, q_isnN, q_isB, q_isnB, q_isiI0, q_isiI1, q_isiI2, q_isiI3, q_isiI4, q_isiI5, q_isiB0, q_isiB1, q_isiB2, q_isiB3, q_isiB4, q_isiB5, q_isiS0, q_isiS1, q_isiS2, q_isiS3, q_isiS4, q_isiS5, q_isiT0, q_isiT1, q_isiT2, q_isiT3, q_isiT4, q_isiT5, q_isiR0, q_isiR1, q_isiR2, q_isiR3, q_isiR4, q_isiR5, q_isiN0, q_isiN1, q_isiN2, q_isiN3, q_isiN4, q_isiN5, q_lenS, q_lenT, q_lenR, q_min2, q_max2, q_strS, q_tupP, ix_0, ix_1, ix_2, ix_3, decide_true, decide_false, List.cons.injEq, reduceCtorEq, and_false, false_and, and_true, true_and, Nat.reduceEqDiff, Int.reduceLE, Int.reduceEq, Int.reduceLT, cast_le, Bool.false_and, Bool.and_false]; exact ⟨[], (List.append_nil h).symm⟩
      simp only [c, c2, w_bind, w_noX, w_ok, w_C, w_op2, w_asB, w_op3, w_and, w_or, w_not, w_test, w_bAnd, w_bOr, w_bNot, w_if, w_lif, w_tup, w_lst, w_alloc, w_vL, w_call, w_aNil, w_aCons, w_lCall, w_append, w_nil, w_lnil, w_seq, w_next, w_ret, w_set, w_expr, w_sif, w_sub, w_unp, w_fn1, w_fn2, w_fn3, w_fn4, w_fn5, w_join, w_vSrc, w_aSrc, w_lSrc, w_catLL, w_catOL, w_repL, w_sortV, w_asI, w_slE0, w_slE1, w_sl, q_srcT, q_srcS, q_srcR, q_zipT, q_slT, w_lc, w_forS, Int.toNat_natCast, v_0, v_S, List.replicate_succ, List.replicate_zero, Nat.reduceSub, List.getElem?_cons_zero, List.getElem?_cons_succ, List.set_cons_zero, List.set_cons_succ, if_true, if_false, Bool.false_eq_true, Bool.not_true, Bool.not_false, q_add, q_addT, q_addS, q_sub, q_eq, q_eqS, q_eqB, q_ne, q_neS, q_neB, q_lt, q_ltS, q_le, q_gt, q_ge, q_in1, q_nin1, q_isN, q_isnN, q_isB, q_isnB, q_isiI0, q_isiI1, q_isiI2, q_isiI3, q_isiI4, q_isiI5, q_isiB0, q_isiB1, q_isiB2, q_isiB3, q_isiB4, q_isiB5, q_isiS0, q_isiS1, q_isiS2, q_isiS3, q_isiS4, q_isiS5, q_isiT0, q_isiT1, q_isiT2, q_isiT3, q_isiT4, q_isiT5, q_isiR0, q_isiR1, q_isiR2, q_isiR3, q_isiR4, q_isiR5, q_isiN0, q_isiN1, q_isiN2, q_isiN3, q_isiN4, q_isiN5, q_lenS, q_lenT, q_lenR, q_min2, q_max2, q_strS, q_tupP, ix_0, ix_1, ix_2, ix_3, decide_true, decide_false, List.cons.injEq, reduceCtorEq, and_false, false_and, and_true, true_and, Nat.reduceEqDiff, Int.reduceLE, Int.reduceEq, Int.reduceLT, cast_le, Bool.true_and, Bool.and_self]
      rw [w_lcI (by simp only [LIM]; omega)]
      have := w_lcL (t := .nm 3) (test := bNot (vTest (vCall (run (k + 3) I__law_is_value) (aCons (op2 ixM (vVar 0) (vC (.int 1))) (aCons (vVar 3) aNil))))) (elt := vVar 3) (env := wipeE [some (D.tup [.str kRepeat, s.d, .int lo, .int hi]), some (.tup ds), none, none] [3]) (QL := fun xs h' => D.bl xs.isEmpty = .bl (ds.all s.val) ∧ ∃ l, h' = h ++ l)
        (fun r acc h' => (∃ l, h' = h ++ l) ∧ ∃ as, as ++ r = ds ∧ acc = as.filter fun x => !s.val x) ds [] h ⟨⟨[], (List.append_nil h).symm⟩, [], rfl, rfl⟩ ?_ ?_
      · simpa using this
      · rintro x r acc h' ⟨⟨l, rfl⟩, as, e1, rfl⟩
        refine ⟨_, rfl, ?_⟩
        obtain ⟨l2, e2⟩ := s_lvalS (k := k) f0 (Bas.app (l := l) (hb.2 ds rfl x (by rw [← e1]; simp)))
        simp only [wipeE, w_bind, w_noX, w_ok, w_C, w_op2, w_asB, w_op3, w_and, w_or, w_not, w_test, w_bAnd, w_bOr, w_bNot, w_if, w_lif, w_tup, w_lst, w_alloc, w_vL, w_call, w_aNil, w_aCons, w_lCall, w_append, w_nil, w_lnil, w_seq, w_next, w_ret, w_set, w_expr, w_sif, w_sub, w_unp, w_fn1, w_fn2, w_fn3, w_fn4, w_fn5, w_join, w_vSrc, w_aSrc, w_lSrc, w_catLL, w_catOL, w_repL, w_sortV, w_asI, w_slE0, w_slE1, w_sl, q_srcT, q_srcS, q_srcR, q_zipT, q_slT, w_lc, w_forS, Int.toNat_natCast, v_0, v_S, List.replicate_succ, List.replicate_zero, Nat.reduceSub, List.getElem?_cons_zero, List.getElem?_cons_succ, List.set_cons_zero, List.set_cons_succ, if_true, if_false, Bool.false_eq_true, Bool.not_true, Bool.not_false, q_add, q_addT, q_addS, q_sub, q_eq, q_eqS, q_eqB, q_ne, q_neS, q_neB, q_lt, q_ltS, q_le, q_gt, q_ge, q_in1, q_nin1, q_isN, q_isnN, q_isB, q_isnB, q_isiI0, q_isiI1, q_isiI2, q_isiI3, q_isiI4, q_isiI5, q_isiB0, q_isiB1, q_isiB2, q_isiB3, q_isiB4, q_isiB5, q_isiS0, q_isiS1, q_isiS2, q_isiS3, q_isiS4, q_isiS5, q_isiT0, q_isiT1, q_isiT2, q_isiT3, q_isiT4, q_isiT5, q_isiR0, q_isiR1, q_isiR2, q_isiR3, q_isiR4, q_isiR5, q_isiN0, q_isiN1, q_isiN2, q_isiN3, q_isiN4, q_isiN5, q_lenS, q_lenT, q_lenR, q_min2, q_max2, q_strS, q_tupP, ix_0, ix_1, ix_2, ix_3, e2]
        cases z : s.val x with
        | true =>
          simp only [w_bind, w_noX, w_ok, w_C, w_op2, w_asB, w_op3, w_and, w_or, w_not, w_test, w_bAnd, w_bOr, w_bNot, w_if, w_lif, w_tup, w_lst, w_alloc, w_vL, w_call, w_aNil, w_aCons, w_lCall, w_append, w_nil, w_lnil, w_seq, w_next, w_ret, w_set, w_expr, w_sif, w_sub, w_unp, w_fn1, w_fn2, w_fn3, w_fn4, w_fn5, w_join, w_vSrc, w_aSrc, w_lSrc, w_catLL, w_catOL, w_repL, w_sortV, w_asI, w_slE0, w_slE1, w_sl, q_srcT, q_srcS, q_srcR, q_zipT, q_slT, w_lc, w_forS, Int.toNat_natCast, v_0, v_S, List.replicate_succ, List.replicate_zero, Nat.reduceSub, List.getElem?_cons_zero, List.getElem?_cons_succ, List.set_cons_zero, List.set_cons_succ, if_true, if_false, Bool.false_eq_true, Bool.not_true, Bool.not_false, q_add, q_addT, q_addS, q_sub, q_eq, q_eqS, q_eqB, q_ne, q_neS, q_neB, q_lt, q_ltS, q_le, q_gt, q_ge, q_in1, q_nin1, q_isN, q_isnN, q_isB, q_isnB, q_isiI0, q_isiI1, q_isiI2, q_isiI3, q_isiI4, q_isiI5, q_isiB0, q_isiB1, q_isiB2, q_isiB3, q_isiB4, q_isiB5, q_isiS0, q_isiS1, q_isiS2, q_isiS3, q_isiS4, q_isiS5, q_isiT0, q_isiT1, q_isiT2, q_isiT3, q_isiT4, q_isiT5, q_isiR0, q_isiR1, q_isiR2, q_isiR3, q_isiR4, q_isiR5, q_isiN0, q_isiN1, q_isiN2, q_isiN3, q_isiN4, q_isiN5, q_lenS, q_lenT, q_lenR, q_min2, q_max2, q_strS, q_tupP, ix_0, ix_1, ix_2, ix_3]
          exact ⟨⟨l ++ l2, by rw [List.append_assoc]⟩, as ++ [x], by simp [← e1], by simp [z]⟩
        | false =>
          simp only [w_bind, w_noX, w_ok, w_C, w_op2, w_asB, w_op3, w_and, w_or, w_not, w_test, w_bAnd, w_bOr, w_bNot, w_if, w_lif, w_tup, w_lst, w_alloc, w_vL, w_call, w_aNil, w_aCons, w_lCall, w_append, w_nil, w_lnil, w_seq, w_next, w_ret, w_set, w_expr, w_sif, w_sub, w_unp, w_fn1, w_fn2, w_fn3, w_fn4, w_fn5, w_join, w_vSrc, w_aSrc, w_lSrc, w_catLL, w_catOL, w_repL, w_sortV, w_asI, w_slE0, w_slE1, w_sl, q_srcT, q_srcS, q_srcR, q_zipT, q_slT, w_lc, w_forS, Int.toNat_natCast, v_0, v_S, List.replicate_succ, List.replicate_zero, Nat.reduceSub, List.getElem?_cons_zero, List.getElem?_cons_succ, List.set_cons_zero, List.set_cons_succ, if_true, if_false, Bool.false_eq_true, Bool.not_true, Bool.not_false, q_add, q_addT, q_addS, q_sub, q_eq, q_eqS, q_eqB, q_ne, q_neS, q_neB, q_lt, q_ltS, q_le, q_gt, q_ge, q_in1, q_nin1, q_isN, q_isnN, q_isB, q_isnB, q_isiI0, q_isiI1, q_isiI2, q_isiI3, q_isiI4, q_isiI5, q_isiB0, q_isiB1, q_isiB2, q_isiB3, q_isiB4, q_isiB5, q_isiS0, q_isiS1, q_isiS2, q_isiS3, q_isiS4, q_isiS5, q_isiT0, q_isiT1, q_isiT2, q_isiT3, q_isiT4, q_isiT5, q_isiR0, q_isiR1, q_isiR2, q_isiR3, q_isiR4, q_isiR5, q_isiN0, q_isiN1, q_isiN2, q_isiN3, q_isiN4, q_isiN5, q_lenS, q_lenT, q_lenR, q_min2, q_max2, q_strS, q_tupP, ix_0, ix_1, ix_2, ix_3]
          exact ⟨⟨l ++ l2, by rw [List.append_assoc]⟩, as ++ [x], by simp [← e1], by simp [z]⟩
      · rintro acc h' ⟨hl2, as, e1, rfl⟩
        rw [List.append_nil] at e1
        subst e1
        exact ⟨by rw [filter_nil]; simp, hl2⟩
    obtain ⟨v, h', e, rfl, l, rfl⟩ := key.ex
    exact ⟨l, e⟩
end
end FT
end
section
set_option maxRecDepth 100000
namespace FT
open PySem L2
set_option autoImplicit false
theorem s_town {k : Nat} {ns : List Int} {h : MH} (hn : ns.length ≤ 63) : run (k + 1) I__law_town [.rol (ns.map .int)] h = .ok (.obj h.length) (h ++ [MO.lst (.int 0 :: ns.map .int)]) := Ok.eq (by
  rw [e__law_town]
  unfold m__law_town
  have l : listP [.rol (ns.map .int)] h = .ok (ns.map .int) h := rfl
  simp only [w_bind, w_noX, w_ok, w_C, w_op2, w_asB, w_op3, w_and, w_or, w_not, w_test, w_bAnd, w_bOr, w_bNot, w_if, w_lif, w_tup, w_lst, w_alloc, w_vL, w_call, w_aNil, w_aCons, w_lCall, w_append, w_nil, w_lnil, w_seq, w_next, w_ret, w_set, w_expr, w_sif, w_sub, w_unp, w_fn1, w_fn2, w_fn3, w_fn4, w_fn5, w_join, w_vSrc, w_aSrc, w_lSrc, w_catLL, w_catOL, w_repL, w_sortV, w_asI, w_slE0, w_slE1, w_sl, q_srcT, q_srcS, q_srcR, q_zipT, q_slT, w_lc, w_forS, Int.toNat_natCast, v_0, v_S, List.replicate_succ, List.replicate_zero, Nat.reduceSub, List.getElem?_cons_zero, List.getElem?_cons_succ, List.set_cons_zero, List.set_cons_succ, if_true, if_false, Bool.false_eq_true, Bool.not_true, Bool.not_false, q_add, q_addT, q_addS, q_sub, q_eq, q_eqS, q_eqB, q_ne, q_neS, q_neB, q_lt, q_ltS, q_le, q_gt, q_ge, q_in1, q_nin1, q_isN, q_isnN, q_isB, q_isnB, q_isiI0, q_isiI1, q_isiI2, q_isiI3, q_isiI4, q_isiI5, q_isiB0, q_isiB1, q_isiB2, q_isiB3, q_isiB4, q_isiB5, q_isiS0, q_isiS1, q_isiS2, q_isiS3, q_isiS4, q_isiS5, q_isiT0, q_isiT1, q_isiT2, q_isiT3, q_isiT4, q_isiT5, q_isiR0, q_isiR1, q_isiR2, q_isiR3, q_isiR4, q_isiR5, q_isiN0, q_isiN1, q_isiN2, q_isiN3, q_isiN4, q_isiN5, q_lenS, q_lenT, q_lenR, q_min2, q_max2, q_strS, q_tupP, ix_0, ix_1, ix_2, ix_3, List.length_cons, List.length_nil, lim_0, lim_1, lim_2, lim_3, lim_4, lim_5, lim_6, lim_7, lim_8, lim_9, lim_10, lim_11, lim_12, lim_13, lim_14, lim_15, lim_16, lim_17, lim_18, lim_19, lim_20, lim_21, lim_22, lim_23, Nat.reduceAdd, Nat.reduceLeDiff, l]
  rw [if_pos (by simp only [List.length_map, LIM]; omega), w_ok]
  exact ⟨rfl, rfl⟩)
theorem twn_new {ns : List Int} {h : MH} : Twn ns h.length 0 (h ++ [MO.lst (.int 0 :: ns.map .int)]) := ⟨0, ns, by simp, rfl, Nat.le_refl _⟩
theorem Flat.app {h l : MH} {d : D} (a : Flat h d) : Flat (h ++ l) d := ⟨a.1.app, fun ds e x hx => (a.2 ds e x hx).app⟩
def oth (n : Nat) : List D := [.non, .int 5, .int 0, .int (-1), .int 10000, .bl true, .str [], .str [97], .str [45], .str [48, 48], .str [97, 97, 97, 97, 97], .str [53], .tup [], .tup [.str [97]], .tup [.str [], .str []], .tup [.int 5], .obj n, .tup [.str [97], .str [97], .str [97], .str [97]], .str [103]]
theorem flat_int {h : MH} {i : Int} : Flat h (.int i) := ⟨bas_int, fun ds e => by cases e⟩
theorem flat_str {h : MH} {s : Sg} (hl : s.length ≤ 1000000) (hc : ∀ c ∈ s, c < 1114112) : Flat h (.str s) := ⟨bas_str hl hc, fun ds e => by cases e⟩
theorem flat_tup {h : MH} {ds : List D} (hl : ds.length < 1000000) (hd : ∀ x ∈ ds, Bas h x) : Flat h (.tup ds) := ⟨bas_tup hl, fun es e x hx => by cases e; exact hd x hx⟩
theorem bas_s {h : MH} {s : Sg} (hl : s.length ≤ 10 := by decide) (hc : ∀ c ∈ s, c < 1000 := by decide) : Bas h (.str s) := bas_str (by omega) fun c h => by have := hc c h; omega
theorem flat_s {h : MH} {s : Sg} (hl : s.length ≤ 10 := by decide) (hc : ∀ c ∈ s, c < 1000 := by decide) : Flat h (.str s) := ⟨bas_s hl hc, fun ds e => by cases e⟩
theorem flat_non {h : MH} : Flat h .non := ⟨⟨⟨6, rfl, by decide⟩, fun s e => (by cases e), fun s e => (by cases e)⟩, fun ds e => by cases e⟩
theorem flat_bl {h : MH} {b : Bool} : Flat h (.bl b) := ⟨⟨⟨1, rfl, by decide⟩, fun s e => (by cases e), fun s e => (by cases e)⟩, fun ds e => by cases e⟩
theorem flat_obj {h : MH} {n : Nat} {xs : List D} (e : h[n]? = some (MO.lst xs)) : Flat h (.obj n) := ⟨⟨⟨4, by simp [tyOf, e], by decide⟩, fun s e => (by cases e), fun s e => (by cases e)⟩, fun ds e => by cases e⟩
theorem oth_flat {h : MH} {n : Nat} (e : h[n]? = some (MO.lst [.int 5])) : ∀ x ∈ oth n, Flat h x := by
  intro x hx
  simp only [oth, List.mem_cons, List.not_mem_nil, or_false] at hx
  rcases hx with rfl | rfl | rfl | rfl | rfl | rfl | rfl | rfl | rfl | rfl | rfl | rfl | rfl | rfl | rfl | rfl | rfl | rfl | rfl
  · exact flat_non
  · exact flat_int
  · exact flat_int
  · exact flat_int
  · exact flat_int
  · exact flat_bl
  · exact flat_s
  · exact flat_s
  · exact flat_s
  · exact flat_s
  · exact flat_s
  · exact flat_s
  · exact flat_tup (by simp) fun x hx => by simp at hx
  · exact flat_tup (by simp) fun x hx => by simp at hx; subst hx; exact bas_s
  · exact flat_tup (by simp) fun x hx => by simp at hx; subst hx; exact bas_s
  · exact flat_tup (by simp) fun x hx => by simp at hx; subst hx; exact bas_int
  · exact flat_obj e
  · exact flat_tup (by simp) fun x hx => by simp at hx; subst hx; exact bas_s
  · exact flat_s
theorem chr_lt (c : Char) : c.toNat < 1114112 := by
  have h : c.toNat.isValidChar := c.valid
  rcases h with h | h
  · omega
  · exact h.2
theorem Leaf.signs {d : D} (l : Leaf d) : ∀ c ∈ ptxt d, c < 1114112 := by
  rcases l with ⟨s, rfl, _, h2⟩ | ⟨i, rfl, _, _⟩
  · exact h2
  · intro c hc
    obtain ⟨x, _, rfl⟩ := List.mem_map.mp (show c ∈ (Nat.toDigits 10 i.toNat).map Char.toNat from hc)
    exact chr_lt x
theorem Valu.signs {d : D} (l : Valu d) : ∀ c ∈ vtxt d, c < 1114112 := by
  rcases l with l | ⟨ds, rfl, _, h2⟩
  · have := l.signs
    rcases l with ⟨s, rfl, _, _⟩ | ⟨i, rfl, _, _⟩ <;> exact this
  · intro c hc
    obtain ⟨y, hy, hc⟩ := List.mem_flatten.mp (show c ∈ (ds.map ptxt).flatten from hc)
    obtain ⟨x, hx, rfl⟩ := List.mem_map.mp hy
    exact (h2 x hx).signs c hc
theorem good_all {h : MH} {ds : List D} (hl : ds.length ≤ 1000) (hv : ∀ x ∈ ds, Flat h x) : Good h (.tup ds) := ⟨bas_tup (by omega), fun es e x hx => by cases e; exact hv x hx⟩
theorem good_of {h : MH} {d : D} (hf : Flat h d) (ht : ∀ ds, d ≠ .tup ds) : Good h d := ⟨hf.1, fun ds e => absurd e (ht ds)⟩
theorem law_run {k : Nat} {ns : List Int} (hn : ns.length ≤ 63) : Ok (run (k + 10) I_law [.rol (ns.map .int)] []) fun v _ => v = .bl true := by
  rw [e_law]
  unfold m_law
  simp only [w_bind, w_noX, w_ok, w_C, w_op2, w_asB, w_op3, w_and, w_or, w_not, w_test, w_bAnd, w_bOr, w_bNot, w_if, w_lif, w_tup, w_lst, w_alloc, w_vL, w_call, w_aNil, w_aCons, w_lCall, w_append, w_nil, w_lnil, w_seq, w_next, w_ret, w_set, w_expr, w_sif, w_sub, w_unp, w_fn1, w_fn2, w_fn3, w_fn4, w_fn5, w_join, w_vSrc, w_aSrc, w_lSrc, w_catLL, w_catOL, w_repL, w_sortV, w_asI, w_slE0, w_slE1, w_sl, q_srcT, q_srcS, q_srcR, q_zipT, q_slT, w_lc, w_forS, Int.toNat_natCast, v_0, v_S, List.replicate_succ, List.replicate_zero, Nat.reduceSub, List.getElem?_cons_zero, List.getElem?_cons_succ, List.set_cons_zero, List.set_cons_succ, if_true, if_false, Bool.false_eq_true, Bool.not_true, Bool.not_false, q_add, q_addT, q_addS, q_sub, q_eq, q_eqS, q_eqB, q_ne, q_neS, q_neB, q_lt, q_ltS, q_le, q_gt, q_ge, q_in1, q_nin1, q_isN, q_isnN, q_isB, q_isnB, q_isiI0, q_isiI1, q_isiI2, q_isiI3, q_isiI4, q_isiI5, q_isiB0, q_isiB1, q_isiB2, q_isiB3, q_isiB4, q_isiB5, q_isiS0, q_isiS1, q_isiS2, q_isiS3, q_isiS4, q_isiS5, q_isiT0, q_isiT1, q_isiT2, q_isiT3, q_isiT4, q_isiT5, q_isiR0, q_isiR1, q_isiR2, q_isiR3, q_isiR4, q_isiR5, q_isiN0, q_isiN1, q_isiN2, q_isiN3, q_isiN4, q_isiN5, q_lenS, q_lenT, q_lenR, q_min2, q_max2, q_strS, q_tupP, ix_0, ix_1, ix_2, ix_3, s_town hn]
  have T0 := twn_new (ns := ns) (h := [])
  simp only [List.length_nil, List.nil_append] at T0 ⊢
  generalize ([MO.lst (.int 0 :: ns.map .int)] : MH) = h0 at *
  have sf := s_form (k := k + 3) (n := 6) (m := 4) T0 (by omega) (by omega) (by omega) (by omega) (by omega)
  refine sf.imp fun v h1 p => ?_
  obtain ⟨⟨fs, rfl, fo, f1, f6⟩, T1, F1⟩ := p
  have FO : FormOk fs := ⟨fo, f1, f6⟩
  refine (s_record T1 (by omega) fo (by omega)).imp fun v h2 p => ?_
  obtain ⟨p, T2, F2⟩ := p
  obtain ⟨ds, rfl, dl, dv⟩ := listed_len p
  have va := valu_all fo dv
  have gr : ∀ h : MH, Good h (.tup ds) := fun h => good_rec (by omega) va
  have tlen := sum_le (f := vtxt) (c := 12) ds fun x hx => (va x hx).len
  rw [← flat_len] at tlen
  simp only [w_bind, w_noX, w_ok, w_C, w_op2, w_asB, w_op3, w_and, w_or, w_not, w_test, w_bAnd, w_bOr, w_bNot, w_if, w_lif, w_tup, w_lst, w_alloc, w_vL, w_call, w_aNil, w_aCons, w_lCall, w_append, w_nil, w_lnil, w_seq, w_next, w_ret, w_set, w_expr, w_sif, w_sub, w_unp, w_fn1, w_fn2, w_fn3, w_fn4, w_fn5, w_join, w_vSrc, w_aSrc, w_lSrc, w_catLL, w_catOL, w_repL, w_sortV, w_asI, w_slE0, w_slE1, w_sl, q_srcT, q_srcS, q_srcR, q_zipT, q_slT, w_lc, w_forS, Int.toNat_natCast, v_0, v_S, List.replicate_succ, List.replicate_zero, Nat.reduceSub, List.getElem?_cons_zero, List.getElem?_cons_succ, List.set_cons_zero, List.set_cons_succ, if_true, if_false, Bool.false_eq_true, Bool.not_true, Bool.not_false, q_add, q_addT, q_addS, q_sub, q_eq, q_eqS, q_eqB, q_ne, q_neS, q_neB, q_lt, q_ltS, q_le, q_gt, q_ge, q_in1, q_nin1, q_isN, q_isnN, q_isB, q_isnB, q_isiI0, q_isiI1, q_isiI2, q_isiI3, q_isiI4, q_isiI5, q_isiB0, q_isiB1, q_isiB2, q_isiB3, q_isiB4, q_isiB5, q_isiS0, q_isiS1, q_isiS2, q_isiS3, q_isiS4, q_isiS5, q_isiT0, q_isiT1, q_isiT2, q_isiT3, q_isiT4, q_isiT5, q_isiR0, q_isiR1, q_isiR2, q_isiR3, q_isiR4, q_isiR5, q_isiN0, q_isiN1, q_isiN2, q_isiN3, q_isiN4, q_isiN5, q_lenS, q_lenT, q_lenR, q_min2, q_max2, q_strS, q_tupP, ix_0, ix_1, ix_2, ix_3, lt_rec (show ds.length ≤ 100 by omega) va, s_isrec FO (gr _), p, decide_true, decide_false, List.cons.injEq, reduceCtorEq, and_false, false_and, and_true, true_and, Nat.reduceEqDiff, Int.reduceLE, Int.reduceEq, Int.reduceLT, s_textof FO dv]
  rw [w_lcI (by simp only [List.length_map, LIM]; omega)]
  simp only [wipeE, w_bind, w_noX, w_ok, w_C, w_op2, w_asB, w_op3, w_and, w_or, w_not, w_test, w_bAnd, w_bOr, w_bNot, w_if, w_lif, w_tup, w_lst, w_alloc, w_vL, w_call, w_aNil, w_aCons, w_lCall, w_append, w_nil, w_lnil, w_seq, w_next, w_ret, w_set, w_expr, w_sif, w_sub, w_unp, w_fn1, w_fn2, w_fn3, w_fn4, w_fn5, w_join, w_vSrc, w_aSrc, w_lSrc, w_catLL, w_catOL, w_repL, w_sortV, w_asI, w_slE0, w_slE1, w_sl, q_srcT, q_srcS, q_srcR, q_zipT, q_slT, w_lc, w_forS, Int.toNat_natCast, v_0, v_S, List.replicate_succ, List.replicate_zero, Nat.reduceSub, List.getElem?_cons_zero, List.getElem?_cons_succ, List.set_cons_zero, List.set_cons_succ, if_true, if_false, Bool.false_eq_true, Bool.not_true, Bool.not_false, q_add, q_addT, q_addS, q_sub, q_eq, q_eqS, q_eqB, q_ne, q_neS, q_neB, q_lt, q_ltS, q_le, q_gt, q_ge, q_in1, q_nin1, q_isN, q_isnN, q_isB, q_isnB, q_isiI0, q_isiI1, q_isiI2, q_isiI3, q_isiI4, q_isiI5, q_isiB0, q_isiB1, q_isiB2, q_isiB3, q_isiB4, q_isiB5, q_isiS0, q_isiS1, q_isiS2, q_isiS3, q_isiS4, q_isiS5, q_isiT0, q_isiT1, q_isiT2, q_isiT3, q_isiT4, q_isiT5, q_isiR0, q_isiR1, q_isiR2, q_isiR3, q_isiR4, q_isiR5, q_isiN0, q_isiN1, q_isiN2, q_isiN3, q_isiN4, q_isiN5, q_lenS, q_lenT, q_lenR, q_min2, q_max2, q_strS, q_tupP, ix_0, ix_1, ix_2, ix_3]
  rw [lcL_map (fun f : FF => .int f.lo) fun f hf => Ok.eq (by simp only [w_bind, w_noX, w_ok, w_C, w_op2, w_asB, w_op3, w_and, w_or, w_not, w_test, w_bAnd, w_bOr, w_bNot, w_if, w_lif, w_tup, w_lst, w_alloc, w_vL, w_call, w_aNil, w_aCons, w_lCall, w_append, w_nil, w_lnil, w_seq, w_next, w_ret, w_set, w_expr, w_sif, w_sub, w_unp, w_fn1, w_fn2, w_fn3, w_fn4, w_fn5, w_join, w_vSrc, w_aSrc, w_lSrc, w_catLL, w_catOL, w_repL, w_sortV, w_asI, w_slE0, w_slE1, w_sl, q_srcT, q_srcS, q_srcR, q_zipT, q_slT, w_lc, w_forS, Int.toNat_natCast, v_0, v_S, List.replicate_succ, List.replicate_zero, Nat.reduceSub, List.getElem?_cons_zero, List.getElem?_cons_succ, List.set_cons_zero, List.set_cons_succ, if_true, if_false, Bool.false_eq_true, Bool.not_true, Bool.not_false, q_add, q_addT, q_addS, q_sub, q_eq, q_eqS, q_eqB, q_ne, q_neS, q_neB, q_lt, q_ltS, q_le, q_gt, q_ge, q_in1, q_nin1, q_isN, q_isnN, q_isB, q_isnB, q_isiI0, q_isiI1, q_isiI2, q_isiI3, q_isiI4, q_isiI5, q_isiB0, q_isiB1, q_isiB2, q_isiB3, q_isiB4, q_isiB5, q_isiS0, q_isiS1, q_isiS2, q_isiS3, q_isiS4, q_isiS5, q_isiT0, q_isiT1, q_isiT2, q_isiT3, q_isiT4, q_isiT5, q_isiR0, q_isiR1, q_isiR2, q_isiR3, q_isiR4, q_isiR5, q_isiN0, q_isiN1, q_isiN2, q_isiN3, q_isiN4, q_isiN5, q_lenS, q_lenT, q_lenR, q_min2, q_max2, q_strS, q_tupP, ix_0, ix_1, ix_2, ix_3, ll_F (fo f hf), and_self]), w_ok, sum_map, w_ok]
  try simp only [w_bind, w_noX, w_ok, w_C, w_op2, w_asB, w_op3, w_and, w_or, w_not, w_test, w_bAnd, w_bOr, w_bNot, w_if, w_lif, w_tup, w_lst, w_alloc, w_vL, w_call, w_aNil, w_aCons, w_lCall, w_append, w_nil, w_lnil, w_seq, w_next, w_ret, w_set, w_expr, w_sif, w_sub, w_unp, w_fn1, w_fn2, w_fn3, w_fn4, w_fn5, w_join, w_vSrc, w_aSrc, w_lSrc, w_catLL, w_catOL, w_repL, w_sortV, w_asI, w_slE0, w_slE1, w_sl, q_srcT, q_srcS, q_srcR, q_zipT, q_slT, w_lc, w_forS, Int.toNat_natCast, v_0, v_S, List.replicate_succ, List.replicate_zero, Nat.reduceSub, List.getElem?_cons_zero, List.getElem?_cons_succ, List.set_cons_zero, List.set_cons_succ, if_true, if_false, Bool.false_eq_true, Bool.not_true, Bool.not_false, q_add, q_addT, q_addS, q_sub, q_eq, q_eqS, q_eqB, q_ne, q_neS, q_neB, q_lt, q_ltS, q_le, q_gt, q_ge, q_in1, q_nin1, q_isN, q_isnN, q_isB, q_isnB, q_isiI0, q_isiI1, q_isiI2, q_isiI3, q_isiI4, q_isiI5, q_isiB0, q_isiB1, q_isiB2, q_isiB3, q_isiB4, q_isiB5, q_isiS0, q_isiS1, q_isiS2, q_isiS3, q_isiS4, q_isiS5, q_isiT0, q_isiT1, q_isiT2, q_isiT3, q_isiT4, q_isiT5, q_isiR0, q_isiR1, q_isiR2, q_isiR3, q_isiR4, q_isiR5, q_isiN0, q_isiN1, q_isiN2, q_isiN3, q_isiN4, q_isiN5, q_lenS, q_lenT, q_lenR, q_min2, q_max2, q_strS, q_tupP, ix_0, ix_1, ix_2, ix_3]
  rw [w_lcI (by simp only [List.length_map, LIM]; omega)]
  try simp only [wipeE, w_bind, w_noX, w_ok, w_C, w_op2, w_asB, w_op3, w_and, w_or, w_not, w_test, w_bAnd, w_bOr, w_bNot, w_if, w_lif, w_tup, w_lst, w_alloc, w_vL, w_call, w_aNil, w_aCons, w_lCall, w_append, w_nil, w_lnil, w_seq, w_next, w_ret, w_set, w_expr, w_sif, w_sub, w_unp, w_fn1, w_fn2, w_fn3, w_fn4, w_fn5, w_join, w_vSrc, w_aSrc, w_lSrc, w_catLL, w_catOL, w_repL, w_sortV, w_asI, w_slE0, w_slE1, w_sl, q_srcT, q_srcS, q_srcR, q_zipT, q_slT, w_lc, w_forS, Int.toNat_natCast, v_0, v_S, List.replicate_succ, List.replicate_zero, Nat.reduceSub, List.getElem?_cons_zero, List.getElem?_cons_succ, List.set_cons_zero, List.set_cons_succ, if_true, if_false, Bool.false_eq_true, Bool.not_true, Bool.not_false, q_add, q_addT, q_addS, q_sub, q_eq, q_eqS, q_eqB, q_ne, q_neS, q_neB, q_lt, q_ltS, q_le, q_gt, q_ge, q_in1, q_nin1, q_isN, q_isnN, q_isB, q_isnB, q_isiI0, q_isiI1, q_isiI2, q_isiI3, q_isiI4, q_isiI5, q_isiB0, q_isiB1, q_isiB2, q_isiB3, q_isiB4, q_isiB5, q_isiS0, q_isiS1, q_isiS2, q_isiS3, q_isiS4, q_isiS5, q_isiT0, q_isiT1, q_isiT2, q_isiT3, q_isiT4, q_isiT5, q_isiR0, q_isiR1, q_isiR2, q_isiR3, q_isiR4, q_isiR5, q_isiN0, q_isiN1, q_isiN2, q_isiN3, q_isiN4, q_isiN5, q_lenS, q_lenT, q_lenR, q_min2, q_max2, q_strS, q_tupP, ix_0, ix_1, ix_2, ix_3]
  rw [lcL_map (fun f : FF => .int f.hi) fun f hf => Ok.eq (by simp only [w_bind, w_noX, w_ok, w_C, w_op2, w_asB, w_op3, w_and, w_or, w_not, w_test, w_bAnd, w_bOr, w_bNot, w_if, w_lif, w_tup, w_lst, w_alloc, w_vL, w_call, w_aNil, w_aCons, w_lCall, w_append, w_nil, w_lnil, w_seq, w_next, w_ret, w_set, w_expr, w_sif, w_sub, w_unp, w_fn1, w_fn2, w_fn3, w_fn4, w_fn5, w_join, w_vSrc, w_aSrc, w_lSrc, w_catLL, w_catOL, w_repL, w_sortV, w_asI, w_slE0, w_slE1, w_sl, q_srcT, q_srcS, q_srcR, q_zipT, q_slT, w_lc, w_forS, Int.toNat_natCast, v_0, v_S, List.replicate_succ, List.replicate_zero, Nat.reduceSub, List.getElem?_cons_zero, List.getElem?_cons_succ, List.set_cons_zero, List.set_cons_succ, if_true, if_false, Bool.false_eq_true, Bool.not_true, Bool.not_false, q_add, q_addT, q_addS, q_sub, q_eq, q_eqS, q_eqB, q_ne, q_neS, q_neB, q_lt, q_ltS, q_le, q_gt, q_ge, q_in1, q_nin1, q_isN, q_isnN, q_isB, q_isnB, q_isiI0, q_isiI1, q_isiI2, q_isiI3, q_isiI4, q_isiI5, q_isiB0, q_isiB1, q_isiB2, q_isiB3, q_isiB4, q_isiB5, q_isiS0, q_isiS1, q_isiS2, q_isiS3, q_isiS4, q_isiS5, q_isiT0, q_isiT1, q_isiT2, q_isiT3, q_isiT4, q_isiT5, q_isiR0, q_isiR1, q_isiR2, q_isiR3, q_isiR4, q_isiR5, q_isiN0, q_isiN1, q_isiN2, q_isiN3, q_isiN4, q_isiN5, q_lenS, q_lenT, q_lenR, q_min2, q_max2, q_strS, q_tupP, ix_0, ix_1, ix_2, ix_3, ll_F (fo f hf), and_self]), w_ok, sum_map, w_ok]
  have tl := vals_len fs ds fo dv
  simp only [w_bind, w_noX, w_ok, w_C, w_op2, w_asB, w_op3, w_and, w_or, w_not, w_test, w_bAnd, w_bOr, w_bNot, w_if, w_lif, w_tup, w_lst, w_alloc, w_vL, w_call, w_aNil, w_aCons, w_lCall, w_append, w_nil, w_lnil, w_seq, w_next, w_ret, w_set, w_expr, w_sif, w_sub, w_unp, w_fn1, w_fn2, w_fn3, w_fn4, w_fn5, w_join, w_vSrc, w_aSrc, w_lSrc, w_catLL, w_catOL, w_repL, w_sortV, w_asI, w_slE0, w_slE1, w_sl, q_srcT, q_srcS, q_srcR, q_zipT, q_slT, w_lc, w_forS, Int.toNat_natCast, v_0, v_S, List.replicate_succ, List.replicate_zero, Nat.reduceSub, List.getElem?_cons_zero, List.getElem?_cons_succ, List.set_cons_zero, List.set_cons_succ, if_true, if_false, Bool.false_eq_true, Bool.not_true, Bool.not_false, q_add, q_addT, q_addS, q_sub, q_eq, q_eqS, q_eqB, q_ne, q_neS, q_neB, q_lt, q_ltS, q_le, q_gt, q_ge, q_in1, q_nin1, q_isN, q_isnN, q_isB, q_isnB, q_isiI0, q_isiI1, q_isiI2, q_isiI3, q_isiI4, q_isiI5, q_isiB0, q_isiB1, q_isiB2, q_isiB3, q_isiB4, q_isiB5, q_isiS0, q_isiS1, q_isiS2, q_isiS3, q_isiS4, q_isiS5, q_isiT0, q_isiT1, q_isiT2, q_isiT3, q_isiT4, q_isiT5, q_isiR0, q_isiR1, q_isiR2, q_isiR3, q_isiR4, q_isiR5, q_isiN0, q_isiN1, q_isiN2, q_isiN3, q_isiN4, q_isiN5, q_lenS, q_lenT, q_lenR, q_min2, q_max2, q_strS, q_tupP, ix_0, ix_1, ix_2, ix_3, s_short FO, s_long FO, decide_true, decide_false, List.cons.injEq, reduceCtorEq, and_false, false_and, and_true, true_and, Nat.reduceEqDiff, Int.reduceLE, Int.reduceEq, Int.reduceLT, q_lenS (show (ds.map vtxt).flatten.length ≤ LIM by simp only [LIM]; omega), tl.1, tl.2, List.length_cons, List.length_nil, lim_0, lim_1, lim_2, lim_3, lim_4, lim_5, lim_6, lim_7, lim_8, lim_9, lim_10, lim_11, lim_12, lim_13, lim_14, lim_15, lim_16, lim_17, lim_18, lim_19, lim_20, lim_21, lim_22, lim_23, Nat.reduceAdd, Nat.reduceLeDiff]
  have m4 : ∀ h : MH, mulM (.tup [.str [97]]) (.int 4) h = .ok (.tup [.str [97], .str [97], .str [97], .str [97]]) h := fun h => rfl
  have l2 := T2.lt
  have ls : ∀ xs : List D, lstOf (.obj (h2 ++ [MO.lst [.int 5]]).length) (h2 ++ [MO.lst [.int 5]] ++ [MO.lst xs]) = some xs := fun xs => lst_last
  simp only [m4, w_ok, ls, List.length_cons, List.length_nil, lim_0, lim_1, lim_2, lim_3, lim_4, lim_5, lim_6, lim_7, lim_8, lim_9, lim_10, lim_11, lim_12, lim_13, lim_14, lim_15, lim_16, lim_17, lim_18, lim_19, lim_20, lim_21, lim_22, lim_23, Nat.reduceAdd, Nat.reduceLeDiff, q_rng1 (show (-1000 : Int) ≤ 8 by omega) (show (8 : Int) ≤ 1000000 by omega), w_bind, w_noX, w_ok, w_C, w_op2, w_asB, w_op3, w_and, w_or, w_not, w_test, w_bAnd, w_bOr, w_bNot, w_if, w_lif, w_tup, w_lst, w_alloc, w_vL, w_call, w_aNil, w_aCons, w_lCall, w_append, w_nil, w_lnil, w_seq, w_next, w_ret, w_set, w_expr, w_sif, w_sub, w_unp, w_fn1, w_fn2, w_fn3, w_fn4, w_fn5, w_join, w_vSrc, w_aSrc, w_lSrc, w_catLL, w_catOL, w_repL, w_sortV, w_asI, w_slE0, w_slE1, w_sl, q_srcT, q_srcS, q_srcR, q_zipT, q_slT, w_lc, w_forS, Int.toNat_natCast, v_0, v_S, List.replicate_succ, List.replicate_zero, Nat.reduceSub, List.getElem?_cons_zero, List.getElem?_cons_succ, List.set_cons_zero, List.set_cons_succ, if_true, if_false, Bool.false_eq_true, Bool.not_true, Bool.not_false, q_add, q_addT, q_addS, q_sub, q_eq, q_eqS, q_eqB, q_ne, q_neS, q_neB, q_lt, q_ltS, q_le, q_gt, q_ge, q_in1, q_nin1, q_isN, q_isnN, q_isB, q_isnB, q_isiI0, q_isiI1, q_isiI2, q_isiI3, q_isiI4, q_isiI5, q_isiB0, q_isiB1, q_isiB2, q_isiB3, q_isiB4, q_isiB5, q_isiS0, q_isiS1, q_isiS2, q_isiS3, q_isiS4, q_isiS5, q_isiT0, q_isiT1, q_isiT2, q_isiT3, q_isiT4, q_isiT5, q_isiR0, q_isiR1, q_isiR2, q_isiR3, q_isiR4, q_isiR5, q_isiN0, q_isiN1, q_isiN2, q_isiN3, q_isiN4, q_isiN5, q_lenS, q_lenT, q_lenR, q_min2, q_max2, q_strS, q_tupP, ix_0, ix_1, ix_2, ix_3, List.cons_append, List.nil_append]
  have n5 : (h2 ++ [MO.lst [.int 5]] ++ [MO.lst [.non, .int 5, .int 0, .int (-1), .int 10000, .bl true, .str [], .str [97], .str [45], .str [48, 48], .str [97, 97, 97, 97, 97], .str [53], .tup [], .tup [.str [97]], .tup [.str [], .str []], .tup [.int 5], .obj h2.length]] ++ [MO.lst (oth h2.length)])[h2.length]? = some (MO.lst [.int 5]) := get_app (get_app getElem?_app)
  have n7 : (h2 ++ [MO.lst [.int 5]] ++ [MO.lst [.non, .int 5, .int 0, .int (-1), .int 10000, .bl true, .str [], .str [97], .str [45], .str [48, 48], .str [97, 97, 97, 97, 97], .str [53], .tup [], .tup [.str [97]], .tup [.str [], .str []], .tup [.int 5], .obj h2.length]] ++ [MO.lst (oth h2.length)])[h2.length + 2]? = some (MO.lst (oth h2.length)) := by simp
  have T3 := T2.app (l := [MO.lst [.int 5]]) |>.app (l := [MO.lst [.non, .int 5, .int 0, .int (-1), .int 10000, .bl true, .str [], .str [97], .str [45], .str [48, 48], .str [97, 97, 97, 97, 97], .str [53], .tup [], .tup [.str [97]], .tup [.str [], .str []], .tup [.int 5], .obj h2.length]]) |>.app (l := [MO.lst (oth h2.length)])
  have e7 : (h2 ++ [MO.lst [.int 5]] ++ [MO.lst [.non, .int 5, .int 0, .int (-1), .int 10000, .bl true, .str [], .str [97], .str [45], .str [48, 48], .str [97, 97, 97, 97, 97], .str [53], .tup [], .tup [.str [97]], .tup [.str [], .str []], .tup [.int 5], .obj h2.length]] : MH).length = h2.length + 2 := by simp
  rw [e7]
  unfold oth at n5 n7 T3
  generalize (h2 ++ [MO.lst [.int 5]] ++ [MO.lst [.non, .int 5, .int 0, .int (-1), .int 10000, .bl true, .str [], .str [97], .str [45], .str [48, 48], .str [97, 97, 97, 97, 97], .str [53], .tup [], .tup [.str [97]], .tup [.str [], .str []], .tup [.int 5], .obj h2.length]] ++ [MO.lst [.non, .int 5, .int 0, .int (-1), .int 10000, .bl true, .str [], .str [97], .str [45], .str [48, 48], .str [97, 97, 97, 97, 97], .str [53], .tup [], .tup [.str [97]], .tup [.str [], .str []], .tup [.int 5], .obj h2.length, .tup [.str [97], .str [97], .str [97], .str [97]], .str [103]]] : MH) = h3 at *
  have n7' : h3[h2.length + 2]? = some (MO.lst (oth h2.length)) := n7
  clear n7 e7 ls
  refine for_rng (fun j e h' => Twn ns 0 (6000 + 100 * j) h' ∧ h'[h2.length + 2]? = some (MO.lst (oth h2.length)) ∧ h'[h2.length]? = some (MO.lst [.int 5]) ∧ ∃ x8 x9 x10 x11 : Option D, e = [some (.rol (ns.map .int)), some (.obj 0), some (.tup (fs.map FF.d)), some (.tup ds), some (.str (ds.map vtxt).flatten), some (.int (fs.map FF.lo).sum), some (.int (fs.map FF.hi).sum), some (.obj (h2.length + 2)), x8, x9, x10, x11, none, none, none]) ⟨T3.mono (by omega), n7', n5, _, _, _, _, rfl⟩ ?_ ?_
  · rintro j e h' hj ⟨T', q7, q5, x8, x9, x10, x11, rfl⟩
    simp only [w_bind, w_noX, w_ok, w_C, w_op2, w_asB, w_op3, w_and, w_or, w_not, w_test, w_bAnd, w_bOr, w_bNot, w_if, w_lif, w_tup, w_lst, w_alloc, w_vL, w_call, w_aNil, w_aCons, w_lCall, w_append, w_nil, w_lnil, w_seq, w_next, w_ret, w_set, w_expr, w_sif, w_sub, w_unp, w_fn1, w_fn2, w_fn3, w_fn4, w_fn5, w_join, w_vSrc, w_aSrc, w_lSrc, w_catLL, w_catOL, w_repL, w_sortV, w_asI, w_slE0, w_slE1, w_sl, q_srcT, q_srcS, q_srcR, q_zipT, q_slT, w_lc, w_forS, Int.toNat_natCast, v_0, v_S, List.replicate_succ, List.replicate_zero, Nat.reduceSub, List.getElem?_cons_zero, List.getElem?_cons_succ, List.set_cons_zero, List.set_cons_succ, if_true, if_false, Bool.false_eq_true, Bool.not_true, Bool.not_false, q_add, q_addT, q_addS, q_sub, q_eq, q_eqS, q_eqB, q_ne, q_neS, q_neB, q_lt, q_ltS, q_le, q_gt, q_ge, q_in1, q_nin1, q_isN, q_isnN, q_isB, q_isnB, q_isiI0, q_isiI1, q_isiI2, q_isiI3, q_isiI4, q_isiI5, q_isiB0, q_isiB1, q_isiB2, q_isiB3, q_isiB4, q_isiB5, q_isiS0, q_isiS1, q_isiS2, q_isiS3, q_isiS4, q_isiS5, q_isiT0, q_isiT1, q_isiT2, q_isiT3, q_isiT4, q_isiT5, q_isiR0, q_isiR1, q_isiR2, q_isiR3, q_isiR4, q_isiR5, q_isiN0, q_isiN1, q_isiN2, q_isiN3, q_isiN4, q_isiN5, q_lenS, q_lenT, q_lenR, q_min2, q_max2, q_strS, q_tupP, ix_0, ix_1, ix_2, ix_3, List.length_map]
    refine (s_draw T' (by omega) (by omega) (by omega)).imp fun v h4 p => ?_
    obtain ⟨i, rfl, i0, i1, T4, F4⟩ := p
    obtain ⟨a, rfl⟩ : ∃ a : Nat, i = (a : Int) := ⟨i.toNat, by omega⟩
    have al : a < fs.length := by omega
    obtain ⟨f, fa⟩ : ∃ f, fs[a]? = some f := ⟨fs[a], List.getElem?_eq_getElem al⟩
    have q7 := F4.get q7 (by omega)
    have q5 := F4.get q5 (by omega)
    try simp only [w_bind, w_noX, w_ok, w_C, w_op2, w_asB, w_op3, w_and, w_or, w_not, w_test, w_bAnd, w_bOr, w_bNot, w_if, w_lif, w_tup, w_lst, w_alloc, w_vL, w_call, w_aNil, w_aCons, w_lCall, w_append, w_nil, w_lnil, w_seq, w_next, w_ret, w_set, w_expr, w_sif, w_sub, w_unp, w_fn1, w_fn2, w_fn3, w_fn4, w_fn5, w_join, w_vSrc, w_aSrc, w_lSrc, w_catLL, w_catOL, w_repL, w_sortV, w_asI, w_slE0, w_slE1, w_sl, q_srcT, q_srcS, q_srcR, q_zipT, q_slT, w_lc, w_forS, Int.toNat_natCast, v_0, v_S, List.replicate_succ, List.replicate_zero, Nat.reduceSub, List.getElem?_cons_zero, List.getElem?_cons_succ, List.set_cons_zero, List.set_cons_succ, if_true, if_false, Bool.false_eq_true, Bool.not_true, Bool.not_false, q_add, q_addT, q_addS, q_sub, q_eq, q_eqS, q_eqB, q_ne, q_neS, q_neB, q_lt, q_ltS, q_le, q_gt, q_ge, q_in1, q_nin1, q_isN, q_isnN, q_isB, q_isnB, q_isiI0, q_isiI1, q_isiI2, q_isiI3, q_isiI4, q_isiI5, q_isiB0, q_isiB1, q_isiB2, q_isiB3, q_isiB4, q_isiB5, q_isiS0, q_isiS1, q_isiS2, q_isiS3, q_isiS4, q_isiS5, q_isiT0, q_isiT1, q_isiT2, q_isiT3, q_isiT4, q_isiT5, q_isiR0, q_isiR1, q_isiR2, q_isiR3, q_isiR4, q_isiR5, q_isiN0, q_isiN1, q_isiN2, q_isiN3, q_isiN4, q_isiN5, q_lenS, q_lenT, q_lenR, q_min2, q_max2, q_strS, q_tupP, ix_0, ix_1, ix_2, ix_3]
    refine (s_pickL T4 (by omega) q7 (by omega) (by simp [oth]) (by simp [oth])).imp fun o h5 p => ?_
    obtain ⟨om, T5, F5⟩ := p
    have q7 := F5.get q7 (by omega)
    have q5 := F5.get q5 (by omega)
    try simp only [w_bind, w_noX, w_ok, w_C, w_op2, w_asB, w_op3, w_and, w_or, w_not, w_test, w_bAnd, w_bOr, w_bNot, w_if, w_lif, w_tup, w_lst, w_alloc, w_vL, w_call, w_aNil, w_aCons, w_lCall, w_append, w_nil, w_lnil, w_seq, w_next, w_ret, w_set, w_expr, w_sif, w_sub, w_unp, w_fn1, w_fn2, w_fn3, w_fn4, w_fn5, w_join, w_vSrc, w_aSrc, w_lSrc, w_catLL, w_catOL, w_repL, w_sortV, w_asI, w_slE0, w_slE1, w_sl, q_srcT, q_srcS, q_srcR, q_zipT, q_slT, w_lc, w_forS, Int.toNat_natCast, v_0, v_S, List.replicate_succ, List.replicate_zero, Nat.reduceSub, List.getElem?_cons_zero, List.getElem?_cons_succ, List.set_cons_zero, List.set_cons_succ, if_true, if_false, Bool.false_eq_true, Bool.not_true, Bool.not_false, q_add, q_addT, q_addS, q_sub, q_eq, q_eqS, q_eqB, q_ne, q_neS, q_neB, q_lt, q_ltS, q_le, q_gt, q_ge, q_in1, q_nin1, q_isN, q_isnN, q_isB, q_isnB, q_isiI0, q_isiI1, q_isiI2, q_isiI3, q_isiI4, q_isiI5, q_isiB0, q_isiB1, q_isiB2, q_isiB3, q_isiB4, q_isiB5, q_isiS0, q_isiS1, q_isiS2, q_isiS3, q_isiS4, q_isiS5, q_isiT0, q_isiT1, q_isiT2, q_isiT3, q_isiT4, q_isiT5, q_isiR0, q_isiR1, q_isiR2, q_isiR3, q_isiR4, q_isiR5, q_isiN0, q_isiN1, q_isiN2, q_isiN3, q_isiN4, q_isiN5, q_lenS, q_lenT, q_lenR, q_min2, q_max2, q_strS, q_tupP, ix_0, ix_1, ix_2, ix_3]
    refine (s_draw T5 (by omega) (by omega) (by omega)).imp fun v h6 p => ?_
    obtain ⟨z, rfl, z0, z1, T6, F6⟩ := p
    have q7 := F6.get q7 (by omega)
    have q5 := F6.get q5 (by omega)
    try simp only [w_bind, w_noX, w_ok, w_C, w_op2, w_asB, w_op3, w_and, w_or, w_not, w_test, w_bAnd, w_bOr, w_bNot, w_if, w_lif, w_tup, w_lst, w_alloc, w_vL, w_call, w_aNil, w_aCons, w_lCall, w_append, w_nil, w_lnil, w_seq, w_next, w_ret, w_set, w_expr, w_sif, w_sub, w_unp, w_fn1, w_fn2, w_fn3, w_fn4, w_fn5, w_join, w_vSrc, w_aSrc, w_lSrc, w_catLL, w_catOL, w_repL, w_sortV, w_asI, w_slE0, w_slE1, w_sl, q_srcT, q_srcS, q_srcR, q_zipT, q_slT, w_lc, w_forS, Int.toNat_natCast, v_0, v_S, List.replicate_succ, List.replicate_zero, Nat.reduceSub, List.getElem?_cons_zero, List.getElem?_cons_succ, List.set_cons_zero, List.set_cons_succ, if_true, if_false, Bool.false_eq_true, Bool.not_true, Bool.not_false, q_add, q_addT, q_addS, q_sub, q_eq, q_eqS, q_eqB, q_ne, q_neS, q_neB, q_lt, q_ltS, q_le, q_gt, q_ge, q_in1, q_nin1, q_isN, q_isnN, q_isB, q_isnB, q_isiI0, q_isiI1, q_isiI2, q_isiI3, q_isiI4, q_isiI5, q_isiB0, q_isiB1, q_isiB2, q_isiB3, q_isiB4, q_isiB5, q_isiS0, q_isiS1, q_isiS2, q_isiS3, q_isiS4, q_isiS5, q_isiT0, q_isiT1, q_isiT2, q_isiT3, q_isiT4, q_isiT5, q_isiR0, q_isiR1, q_isiR2, q_isiR3, q_isiR4, q_isiR5, q_isiN0, q_isiN1, q_isiN2, q_isiN3, q_isiN4, q_isiN5, q_lenS, q_lenT, q_lenR, q_min2, q_max2, q_strS, q_tupP, ix_0, ix_1, ix_2, ix_3]
    by_cases cz : z = 0
    case neg =>
      simp only [cz, decide_false, w_bind, w_noX, w_ok, w_C, w_op2, w_asB, w_op3, w_and, w_or, w_not, w_test, w_bAnd, w_bOr, w_bNot, w_if, w_lif, w_tup, w_lst, w_alloc, w_vL, w_call, w_aNil, w_aCons, w_lCall, w_append, w_nil, w_lnil, w_seq, w_next, w_ret, w_set, w_expr, w_sif, w_sub, w_unp, w_fn1, w_fn2, w_fn3, w_fn4, w_fn5, w_join, w_vSrc, w_aSrc, w_lSrc, w_catLL, w_catOL, w_repL, w_sortV, w_asI, w_slE0, w_slE1, w_sl, q_srcT, q_srcS, q_srcR, q_zipT, q_slT, w_lc, w_forS, Int.toNat_natCast, v_0, v_S, List.replicate_succ, List.replicate_zero, Nat.reduceSub, List.getElem?_cons_zero, List.getElem?_cons_succ, List.set_cons_zero, List.set_cons_succ, if_true, if_false, Bool.false_eq_true, Bool.not_true, Bool.not_false, q_add, q_addT, q_addS, q_sub, q_eq, q_eqS, q_eqB, q_ne, q_neS, q_neB, q_lt, q_ltS, q_le, q_gt, q_ge, q_in1, q_nin1, q_isN, q_isnN, q_isB, q_isnB, q_isiI0, q_isiI1, q_isiI2, q_isiI3, q_isiI4, q_isiI5, q_isiB0, q_isiB1, q_isiB2, q_isiB3, q_isiB4, q_isiB5, q_isiS0, q_isiS1, q_isiS2, q_isiS3, q_isiS4, q_isiS5, q_isiT0, q_isiT1, q_isiT2, q_isiT3, q_isiT4, q_isiT5, q_isiR0, q_isiR1, q_isiR2, q_isiR3, q_isiR4, q_isiR5, q_isiN0, q_isiN1, q_isiN2, q_isiN3, q_isiN4, q_isiN5, q_lenS, q_lenT, q_lenR, q_min2, q_max2, q_strS, q_tupP, ix_0, ix_1, ix_2, ix_3]
      have of6 : Flat h6 o := oth_flat q5 o om
      have ch : Good h6 (.tup (ds.take a ++ [o] ++ ds.drop (a + 1))) := good_all (by simp; omega) fun x hx => by
        rcases List.mem_append.mp hx with hx | hx
        · rcases List.mem_append.mp hx with hx | hx
          · exact (va x (List.mem_of_mem_take hx)).flat
          · simp at hx; subst hx; exact of6
        · exact (va x (List.mem_of_mem_drop hx)).flat
      have lf : listed fs (.tup (ds.take a ++ [o] ++ ds.drop (a + 1))) = f.val o := by
        rw [List.append_assoc]
        exact vals_set o dv fa
      obtain ⟨l, el⟩ := s_lval (k := k + 5) (fo f (List.mem_of_getElem? fa)) of6
      have ca : cutL ds none (some (a : Int)) = ds.take a := cut_take
      have cb : cutL ds (some ((a : Int) + 1)) none = ds.drop (a + 1) := by rw [show ((a : Int) + 1) = ((a + 1 : Nat) : Int) by omega]; exact cut_drop
      have ix : ixM (.tup (fs.map FF.d)) (.int (a : Int)) h6 = .ok f.d h6 := by
        have := atI_nat (xs := fs.map FF.d) (j := a) (v := f.d) (by rw [List.getElem?_map, fa]; rfl)
        simp only [ixM, this]
      simp only [w_bind, w_noX, w_ok, w_C, w_op2, w_asB, w_op3, w_and, w_or, w_not, w_test, w_bAnd, w_bOr, w_bNot, w_if, w_lif, w_tup, w_lst, w_alloc, w_vL, w_call, w_aNil, w_aCons, w_lCall, w_append, w_nil, w_lnil, w_seq, w_next, w_ret, w_set, w_expr, w_sif, w_sub, w_unp, w_fn1, w_fn2, w_fn3, w_fn4, w_fn5, w_join, w_vSrc, w_aSrc, w_lSrc, w_catLL, w_catOL, w_repL, w_sortV, w_asI, w_slE0, w_slE1, w_sl, q_srcT, q_srcS, q_srcR, q_zipT, q_slT, w_lc, w_forS, Int.toNat_natCast, v_0, v_S, List.replicate_succ, List.replicate_zero, Nat.reduceSub, List.getElem?_cons_zero, List.getElem?_cons_succ, List.set_cons_zero, List.set_cons_succ, if_true, if_false, Bool.false_eq_true, Bool.not_true, Bool.not_false, q_add, q_addT, q_addS, q_sub, q_eq, q_eqS, q_eqB, q_ne, q_neS, q_neB, q_lt, q_ltS, q_le, q_gt, q_ge, q_in1, q_nin1, q_isN, q_isnN, q_isB, q_isnB, q_isiI0, q_isiI1, q_isiI2, q_isiI3, q_isiI4, q_isiI5, q_isiB0, q_isiB1, q_isiB2, q_isiB3, q_isiB4, q_isiB5, q_isiS0, q_isiS1, q_isiS2, q_isiS3, q_isiS4, q_isiS5, q_isiT0, q_isiT1, q_isiT2, q_isiT3, q_isiT4, q_isiT5, q_isiR0, q_isiR1, q_isiR2, q_isiR3, q_isiR4, q_isiR5, q_isiN0, q_isiN1, q_isiN2, q_isiN3, q_isiN4, q_isiN5, q_lenS, q_lenT, q_lenR, q_min2, q_max2, q_strS, q_tupP, ix_0, ix_1, ix_2, ix_3, List.length_cons, List.length_nil, lim_0, lim_1, lim_2, lim_3, lim_4, lim_5, lim_6, lim_7, lim_8, lim_9, lim_10, lim_11, lim_12, lim_13, lim_14, lim_15, lim_16, lim_17, lim_18, lim_19, lim_20, lim_21, lim_22, lim_23, Nat.reduceAdd, Nat.reduceLeDiff, ca, cb]
      rw [q_addT (by simp only [List.length_append, List.length_take, List.length_cons, List.length_nil, lim_0, lim_1, lim_2, lim_3, lim_4, lim_5, lim_6, lim_7, lim_8, lim_9, lim_10, lim_11, lim_12, lim_13, lim_14, lim_15, lim_16, lim_17, lim_18, lim_19, lim_20, lim_21, lim_22, lim_23, Nat.reduceAdd, Nat.reduceLeDiff]; simp only [LIM]; omega), w_ok, q_addT (by simp only [List.length_append, List.length_take, List.length_drop, List.length_cons, List.length_nil, LIM]; omega), w_ok]
      simp only [w_bind, w_noX, w_ok, w_C, w_op2, w_asB, w_op3, w_and, w_or, w_not, w_test, w_bAnd, w_bOr, w_bNot, w_if, w_lif, w_tup, w_lst, w_alloc, w_vL, w_call, w_aNil, w_aCons, w_lCall, w_append, w_nil, w_lnil, w_seq, w_next, w_ret, w_set, w_expr, w_sif, w_sub, w_unp, w_fn1, w_fn2, w_fn3, w_fn4, w_fn5, w_join, w_vSrc, w_aSrc, w_lSrc, w_catLL, w_catOL, w_repL, w_sortV, w_asI, w_slE0, w_slE1, w_sl, q_srcT, q_srcS, q_srcR, q_zipT, q_slT, w_lc, w_forS, Int.toNat_natCast, v_0, v_S, List.replicate_succ, List.replicate_zero, Nat.reduceSub, List.getElem?_cons_zero, List.getElem?_cons_succ, List.set_cons_zero, List.set_cons_succ, if_true, if_false, Bool.false_eq_true, Bool.not_true, Bool.not_false, q_add, q_addT, q_addS, q_sub, q_eq, q_eqS, q_eqB, q_ne, q_neS, q_neB, q_lt, q_ltS, q_le, q_gt, q_ge, q_in1, q_nin1, q_isN, q_isnN, q_isB, q_isnB, q_isiI0, q_isiI1, q_isiI2, q_isiI3, q_isiI4, q_isiI5, q_isiB0, q_isiB1, q_isiB2, q_isiB3, q_isiB4, q_isiB5, q_isiS0, q_isiS1, q_isiS2, q_isiS3, q_isiS4, q_isiS5, q_isiT0, q_isiT1, q_isiT2, q_isiT3, q_isiT4, q_isiT5, q_isiR0, q_isiR1, q_isiR2, q_isiR3, q_isiR4, q_isiR5, q_isiN0, q_isiN1, q_isiN2, q_isiN3, q_isiN4, q_isiN5, q_lenS, q_lenT, q_lenR, q_min2, q_max2, q_strS, q_tupP, ix_0, ix_1, ix_2, ix_3, s_isrec FO ch, lf, ix, el, decide_true]
      exact ⟨T6.app.mono (by omega), get_app q7, get_app q5, _, _, _, _, rfl⟩
    case pos =>
      simp only [cz, decide_true, w_bind, w_noX, w_ok, w_C, w_op2, w_asB, w_op3, w_and, w_or, w_not, w_test, w_bAnd, w_bOr, w_bNot, w_if, w_lif, w_tup, w_lst, w_alloc, w_vL, w_call, w_aNil, w_aCons, w_lCall, w_append, w_nil, w_lnil, w_seq, w_next, w_ret, w_set, w_expr, w_sif, w_sub, w_unp, w_fn1, w_fn2, w_fn3, w_fn4, w_fn5, w_join, w_vSrc, w_aSrc, w_lSrc, w_catLL, w_catOL, w_repL, w_sortV, w_asI, w_slE0, w_slE1, w_sl, q_srcT, q_srcS, q_srcR, q_zipT, q_slT, w_lc, w_forS, Int.toNat_natCast, v_0, v_S, List.replicate_succ, List.replicate_zero, Nat.reduceSub, List.getElem?_cons_zero, List.getElem?_cons_succ, List.set_cons_zero, List.set_cons_succ, if_true, if_false, Bool.false_eq_true, Bool.not_true, Bool.not_false, q_add, q_addT, q_addS, q_sub, q_eq, q_eqS, q_eqB, q_ne, q_neS, q_neB, q_lt, q_ltS, q_le, q_gt, q_ge, q_in1, q_nin1, q_isN, q_isnN, q_isB, q_isnB, q_isiI0, q_isiI1, q_isiI2, q_isiI3, q_isiI4, q_isiI5, q_isiB0, q_isiB1, q_isiB2, q_isiB3, q_isiB4, q_isiB5, q_isiS0, q_isiS1, q_isiS2, q_isiS3, q_isiS4, q_isiS5, q_isiT0, q_isiT1, q_isiT2, q_isiT3, q_isiT4, q_isiT5, q_isiR0, q_isiR1, q_isiR2, q_isiR3, q_isiR4, q_isiR5, q_isiN0, q_isiN1, q_isiN2, q_isiN3, q_isiN4, q_isiN5, q_lenS, q_lenT, q_lenR, q_min2, q_max2, q_strS, q_tupP, ix_0, ix_1, ix_2, ix_3]
      refine (s_pickT T6 (by omega) (by intro e; simp at e; rw [e] at f1; simp at f1) (by simp; omega)).imp fun v h7 p => ?_
      obtain ⟨gm0, T7, F7⟩ := p
      obtain ⟨g, gm, rfl⟩ := List.mem_map.mp gm0
      have q7 := F7.get q7 (by omega)
      have q5 := F7.get q5 (by omega)
      try simp only [w_bind, w_noX, w_ok, w_C, w_op2, w_asB, w_op3, w_and, w_or, w_not, w_test, w_bAnd, w_bOr, w_bNot, w_if, w_lif, w_tup, w_lst, w_alloc, w_vL, w_call, w_aNil, w_aCons, w_lCall, w_append, w_nil, w_lnil, w_seq, w_next, w_ret, w_set, w_expr, w_sif, w_sub, w_unp, w_fn1, w_fn2, w_fn3, w_fn4, w_fn5, w_join, w_vSrc, w_aSrc, w_lSrc, w_catLL, w_catOL, w_repL, w_sortV, w_asI, w_slE0, w_slE1, w_sl, q_srcT, q_srcS, q_srcR, q_zipT, q_slT, w_lc, w_forS, Int.toNat_natCast, v_0, v_S, List.replicate_succ, List.replicate_zero, Nat.reduceSub, List.getElem?_cons_zero, List.getElem?_cons_succ, List.set_cons_zero, List.set_cons_succ, if_true, if_false, Bool.false_eq_true, Bool.not_true, Bool.not_false, q_add, q_addT, q_addS, q_sub, q_eq, q_eqS, q_eqB, q_ne, q_neS, q_neB, q_lt, q_ltS, q_le, q_gt, q_ge, q_in1, q_nin1, q_isN, q_isnN, q_isB, q_isnB, q_isiI0, q_isiI1, q_isiI2, q_isiI3, q_isiI4, q_isiI5, q_isiB0, q_isiB1, q_isiB2, q_isiB3, q_isiB4, q_isiB5, q_isiS0, q_isiS1, q_isiS2, q_isiS3, q_isiS4, q_isiS5, q_isiT0, q_isiT1, q_isiT2, q_isiT3, q_isiT4, q_isiT5, q_isiR0, q_isiR1, q_isiR2, q_isiR3, q_isiR4, q_isiR5, q_isiN0, q_isiN1, q_isiN2, q_isiN3, q_isiN4, q_isiN5, q_lenS, q_lenT, q_lenR, q_min2, q_max2, q_strS, q_tupP, ix_0, ix_1, ix_2, ix_3]
      refine (s_value T7 (by omega) (fo g gm)).imp fun o h6 p => ?_
      obtain ⟨ov, T6, F6⟩ := p
      have q7 := F6.get q7 (by omega)
      have q5 := F6.get q5 (by omega)
      try simp only [w_bind, w_noX, w_ok, w_C, w_op2, w_asB, w_op3, w_and, w_or, w_not, w_test, w_bAnd, w_bOr, w_bNot, w_if, w_lif, w_tup, w_lst, w_alloc, w_vL, w_call, w_aNil, w_aCons, w_lCall, w_append, w_nil, w_lnil, w_seq, w_next, w_ret, w_set, w_expr, w_sif, w_sub, w_unp, w_fn1, w_fn2, w_fn3, w_fn4, w_fn5, w_join, w_vSrc, w_aSrc, w_lSrc, w_catLL, w_catOL, w_repL, w_sortV, w_asI, w_slE0, w_slE1, w_sl, q_srcT, q_srcS, q_srcR, q_zipT, q_slT, w_lc, w_forS, Int.toNat_natCast, v_0, v_S, List.replicate_succ, List.replicate_zero, Nat.reduceSub, List.getElem?_cons_zero, List.getElem?_cons_succ, List.set_cons_zero, List.set_cons_succ, if_true, if_false, Bool.false_eq_true, Bool.not_true, Bool.not_false, q_add, q_addT, q_addS, q_sub, q_eq, q_eqS, q_eqB, q_ne, q_neS, q_neB, q_lt, q_ltS, q_le, q_gt, q_ge, q_in1, q_nin1, q_isN, q_isnN, q_isB, q_isnB, q_isiI0, q_isiI1, q_isiI2, q_isiI3, q_isiI4, q_isiI5, q_isiB0, q_isiB1, q_isiB2, q_isiB3, q_isiB4, q_isiB5, q_isiS0, q_isiS1, q_isiS2, q_isiS3, q_isiS4, q_isiS5, q_isiT0, q_isiT1, q_isiT2, q_isiT3, q_isiT4, q_isiT5, q_isiR0, q_isiR1, q_isiR2, q_isiR3, q_isiR4, q_isiR5, q_isiN0, q_isiN1, q_isiN2, q_isiN3, q_isiN4, q_isiN5, q_lenS, q_lenT, q_lenR, q_min2, q_max2, q_strS, q_tupP, ix_0, ix_1, ix_2, ix_3]
      have of6 : Flat h6 o := (valu_of (fo g gm) ov).flat
      have ch : Good h6 (.tup (ds.take a ++ [o] ++ ds.drop (a + 1))) := good_all (by simp; omega) fun x hx => by
        rcases List.mem_append.mp hx with hx | hx
        · rcases List.mem_append.mp hx with hx | hx
          · exact (va x (List.mem_of_mem_take hx)).flat
          · simp at hx; subst hx; exact of6
        · exact (va x (List.mem_of_mem_drop hx)).flat
      have lf : listed fs (.tup (ds.take a ++ [o] ++ ds.drop (a + 1))) = f.val o := by
        rw [List.append_assoc]
        exact vals_set o dv fa
      obtain ⟨l, el⟩ := s_lval (k := k + 5) (fo f (List.mem_of_getElem? fa)) of6
      have ca : cutL ds none (some (a : Int)) = ds.take a := cut_take
      have cb : cutL ds (some ((a : Int) + 1)) none = ds.drop (a + 1) := by rw [show ((a : Int) + 1) = ((a + 1 : Nat) : Int) by omega]; exact cut_drop
      have ix : ixM (.tup (fs.map FF.d)) (.int (a : Int)) h6 = .ok f.d h6 := by
        have := atI_nat (xs := fs.map FF.d) (j := a) (v := f.d) (by rw [List.getElem?_map, fa]; rfl)
        simp only [ixM, this]
      simp only [w_bind, w_noX, w_ok, w_C, w_op2, w_asB, w_op3, w_and, w_or, w_not, w_test, w_bAnd, w_bOr, w_bNot, w_if, w_lif, w_tup, w_lst, w_alloc, w_vL, w_call, w_aNil, w_aCons, w_lCall, w_append, w_nil, w_lnil, w_seq, w_next, w_ret, w_set, w_expr, w_sif, w_sub, w_unp, w_fn1, w_fn2, w_fn3, w_fn4, w_fn5, w_join, w_vSrc, w_aSrc, w_lSrc, w_catLL, w_catOL, w_repL, w_sortV, w_asI, w_slE0, w_slE1, w_sl, q_srcT, q_srcS, q_srcR, q_zipT, q_slT, w_lc, w_forS, Int.toNat_natCast, v_0, v_S, List.replicate_succ, List.replicate_zero, Nat.reduceSub, List.getElem?_cons_zero, List.getElem?_cons_succ, List.set_cons_zero, List.set_cons_succ, if_true, if_false, Bool.false_eq_true, Bool.not_true, Bool.not_false, q_add, q_addT, q_addS, q_sub, q_eq, q_eqS, q_eqB, q_ne, q_neS, q_neB, q_lt, q_ltS, q_le, q_gt, q_ge, q_in1, q_nin1, q_isN, q_isnN, q_isB, q_isnB, q_isiI0, q_isiI1, q_isiI2, q_isiI3, q_isiI4, q_isiI5, q_isiB0, q_isiB1, q_isiB2, q_isiB3, q_isiB4, q_isiB5, q_isiS0, q_isiS1, q_isiS2, q_isiS3, q_isiS4, q_isiS5, q_isiT0, q_isiT1, q_isiT2, q_isiT3, q_isiT4, q_isiT5, q_isiR0, q_isiR1, q_isiR2, q_isiR3, q_isiR4, q_isiR5, q_isiN0, q_isiN1, q_isiN2, q_isiN3, q_isiN4, q_isiN5, q_lenS, q_lenT, q_lenR, q_min2, q_max2, q_strS, q_tupP, ix_0, ix_1, ix_2, ix_3, List.length_cons, List.length_nil, lim_0, lim_1, lim_2, lim_3, lim_4, lim_5, lim_6, lim_7, lim_8, lim_9, lim_10, lim_11, lim_12, lim_13, lim_14, lim_15, lim_16, lim_17, lim_18, lim_19, lim_20, lim_21, lim_22, lim_23, Nat.reduceAdd, Nat.reduceLeDiff, ca, cb]
      rw [q_addT (by simp only [List.length_append, List.length_take, List.length_cons, List.length_nil, lim_0, lim_1, lim_2, lim_3, lim_4, lim_5, lim_6, lim_7, lim_8, lim_9, lim_10, lim_11, lim_12, lim_13, lim_14, lim_15, lim_16, lim_17, lim_18, lim_19, lim_20, lim_21, lim_22, lim_23, Nat.reduceAdd, Nat.reduceLeDiff]; simp only [LIM]; omega), w_ok, q_addT (by simp only [List.length_append, List.length_take, List.length_drop, List.length_cons, List.length_nil, LIM]; omega), w_ok]
      simp only [w_bind, w_noX, w_ok, w_C, w_op2, w_asB, w_op3, w_and, w_or, w_not, w_test, w_bAnd, w_bOr, w_bNot, w_if, w_lif, w_tup, w_lst, w_alloc, w_vL, w_call, w_aNil, w_aCons, w_lCall, w_append, w_nil, w_lnil, w_seq, w_next, w_ret, w_set, w_expr, w_sif, w_sub, w_unp, w_fn1, w_fn2, w_fn3, w_fn4, w_fn5, w_join, w_vSrc, w_aSrc, w_lSrc, w_catLL, w_catOL, w_repL, w_sortV, w_asI, w_slE0, w_slE1, w_sl, q_srcT, q_srcS, q_srcR, q_zipT, q_slT, w_lc, w_forS, Int.toNat_natCast, v_0, v_S, List.replicate_succ, List.replicate_zero, Nat.reduceSub, List.getElem?_cons_zero, List.getElem?_cons_succ, List.set_cons_zero, List.set_cons_succ, if_true, if_false, Bool.false_eq_true, Bool.not_true, Bool.not_false, q_add, q_addT, q_addS, q_sub, q_eq, q_eqS, q_eqB, q_ne, q_neS, q_neB, q_lt, q_ltS, q_le, q_gt, q_ge, q_in1, q_nin1, q_isN, q_isnN, q_isB, q_isnB, q_isiI0, q_isiI1, q_isiI2, q_isiI3, q_isiI4, q_isiI5, q_isiB0, q_isiB1, q_isiB2, q_isiB3, q_isiB4, q_isiB5, q_isiS0, q_isiS1, q_isiS2, q_isiS3, q_isiS4, q_isiS5, q_isiT0, q_isiT1, q_isiT2, q_isiT3, q_isiT4, q_isiT5, q_isiR0, q_isiR1, q_isiR2, q_isiR3, q_isiR4, q_isiR5, q_isiN0, q_isiN1, q_isiN2, q_isiN3, q_isiN4, q_isiN5, q_lenS, q_lenT, q_lenR, q_min2, q_max2, q_strS, q_tupP, ix_0, ix_1, ix_2, ix_3, s_isrec FO ch, lf, ix, el, decide_true]
      exact ⟨T6.app.mono (by omega), get_app q7, get_app q5, _, _, _, _, rfl⟩
  · rintro e h' ⟨T', q7, q5, x8, x9, x10, x11, rfl⟩
    have lp : listP [.tup ds] h' = .ok ds h' := rfl
    have ca : cutL ds none (some (1 : Int)) = ds.take 1 := cut_take (n := 1)
    have cb : cutL ds (some (1 : Int)) none = ds.drop 1 := cut_drop (n := 1)
    simp only [w_bind, w_noX, w_ok, w_C, w_op2, w_asB, w_op3, w_and, w_or, w_not, w_test, w_bAnd, w_bOr, w_bNot, w_if, w_lif, w_tup, w_lst, w_alloc, w_vL, w_call, w_aNil, w_aCons, w_lCall, w_append, w_nil, w_lnil, w_seq, w_next, w_ret, w_set, w_expr, w_sif, w_sub, w_unp, w_fn1, w_fn2, w_fn3, w_fn4, w_fn5, w_join, w_vSrc, w_aSrc, w_lSrc, w_catLL, w_catOL, w_repL, w_sortV, w_asI, w_slE0, w_slE1, w_sl, q_srcT, q_srcS, q_srcR, q_zipT, q_slT, w_lc, w_forS, Int.toNat_natCast, v_0, v_S, List.replicate_succ, List.replicate_zero, Nat.reduceSub, List.getElem?_cons_zero, List.getElem?_cons_succ, List.set_cons_zero, List.set_cons_succ, if_true, if_false, Bool.false_eq_true, Bool.not_true, Bool.not_false, q_add, q_addT, q_addS, q_sub, q_eq, q_eqS, q_eqB, q_ne, q_neS, q_neB, q_lt, q_ltS, q_le, q_gt, q_ge, q_in1, q_nin1, q_isN, q_isnN, q_isB, q_isnB, q_isiI0, q_isiI1, q_isiI2, q_isiI3, q_isiI4, q_isiI5, q_isiB0, q_isiB1, q_isiB2, q_isiB3, q_isiB4, q_isiB5, q_isiS0, q_isiS1, q_isiS2, q_isiS3, q_isiS4, q_isiS5, q_isiT0, q_isiT1, q_isiT2, q_isiT3, q_isiT4, q_isiT5, q_isiR0, q_isiR1, q_isiR2, q_isiR3, q_isiR4, q_isiR5, q_isiN0, q_isiN1, q_isiN2, q_isiN3, q_isiN4, q_isiN5, q_lenS, q_lenT, q_lenR, q_min2, q_max2, q_strS, q_tupP, ix_0, ix_1, ix_2, ix_3, lp, ca, cb]
    rw [q_addT (by simp only [List.length_take, LIM]; omega), w_ok]
    try simp only [w_bind, w_noX, w_ok, w_C, w_op2, w_asB, w_op3, w_and, w_or, w_not, w_test, w_bAnd, w_bOr, w_bNot, w_if, w_lif, w_tup, w_lst, w_alloc, w_vL, w_call, w_aNil, w_aCons, w_lCall, w_append, w_nil, w_lnil, w_seq, w_next, w_ret, w_set, w_expr, w_sif, w_sub, w_unp, w_fn1, w_fn2, w_fn3, w_fn4, w_fn5, w_join, w_vSrc, w_aSrc, w_lSrc, w_catLL, w_catOL, w_repL, w_sortV, w_asI, w_slE0, w_slE1, w_sl, q_srcT, q_srcS, q_srcR, q_zipT, q_slT, w_lc, w_forS, Int.toNat_natCast, v_0, v_S, List.replicate_succ, List.replicate_zero, Nat.reduceSub, List.getElem?_cons_zero, List.getElem?_cons_succ, List.set_cons_zero, List.set_cons_succ, if_true, if_false, Bool.false_eq_true, Bool.not_true, Bool.not_false, q_add, q_addT, q_addS, q_sub, q_eq, q_eqS, q_eqB, q_ne, q_neS, q_neB, q_lt, q_ltS, q_le, q_gt, q_ge, q_in1, q_nin1, q_isN, q_isnN, q_isB, q_isnB, q_isiI0, q_isiI1, q_isiI2, q_isiI3, q_isiI4, q_isiI5, q_isiB0, q_isiB1, q_isiB2, q_isiB3, q_isiB4, q_isiB5, q_isiS0, q_isiS1, q_isiS2, q_isiS3, q_isiS4, q_isiS5, q_isiT0, q_isiT1, q_isiT2, q_isiT3, q_isiT4, q_isiT5, q_isiR0, q_isiR1, q_isiR2, q_isiR3, q_isiR4, q_isiR5, q_isiN0, q_isiN1, q_isiN2, q_isiN3, q_isiN4, q_isiN5, q_lenS, q_lenT, q_lenR, q_min2, q_max2, q_strS, q_tupP, ix_0, ix_1, ix_2, ix_3, List.length_cons, List.length_nil, lim_0, lim_1, lim_2, lim_3, lim_4, lim_5, lim_6, lim_7, lim_8, lim_9, lim_10, lim_11, lim_12, lim_13, lim_14, lim_15, lim_16, lim_17, lim_18, lim_19, lim_20, lim_21, lim_22, lim_23, Nat.reduceAdd, Nat.reduceLeDiff]
    have hb : (h' ++ [MO.lst ds] ++ [MO.lst [.non, .int 5, .tup [], .obj h'.length, .tup (ds ++ ds.take 1), .tup (ds.drop 1), .str (ds.map vtxt).flatten]] : MH)[(h' ++ [MO.lst ds] : MH).length]? = some (MO.lst [.non, .int 5, .tup [], .obj h'.length, .tup (ds ++ ds.take 1), .tup (ds.drop 1), .str (ds.map vtxt).flatten]) := getElem?_app
    have ho : (h' ++ [MO.lst ds] ++ [MO.lst [.non, .int 5, .tup [], .obj h'.length, .tup (ds ++ ds.take 1), .tup (ds.drop 1), .str (ds.map vtxt).flatten]] : MH)[h'.length]? = some (MO.lst ds) := get_app getElem?_app
    generalize (h' ++ [MO.lst ds] ++ [MO.lst [.non, .int 5, .tup [], .obj h'.length, .tup (ds ++ ds.take 1), .tup (ds.drop 1), .str (ds.map vtxt).flatten]] : MH) = h8 at *
    have sr : srcOf (.obj (h' ++ [MO.lst ds] : MH).length) h8 = .ok (.live (h' ++ [MO.lst ds] : MH).length) h8 := by simp only [srcOf, hb]
    simp only [sr, w_ok]
    have bad : ∀ x ∈ [.non, .int 5, .tup [], .obj h'.length, .tup (ds ++ ds.take 1), .tup (ds.drop 1), .str (ds.map vtxt).flatten], Good h8 x ∧ listed fs x = false := by
      intro x hx
      simp only [List.mem_cons, List.not_mem_nil, or_false] at hx
      rcases hx with rfl | rfl | rfl | rfl | rfl | rfl | rfl
      · exact ⟨good_of flat_non fun ds e => (by cases e), rfl⟩
      · exact ⟨good_of flat_int fun ds e => (by cases e), rfl⟩
      · exact ⟨good_all (by simp) fun x hx => (by simp at hx), vals_ne (by simp; omega)⟩
      · exact ⟨good_of (flat_obj ho) fun ds e => (by cases e), rfl⟩
      · refine ⟨good_all (by simp; omega) fun x hx => ?_, vals_ne (by simp; omega)⟩
        rcases List.mem_append.mp hx with hx | hx
        · exact (va x hx).flat
        · exact (va x (List.mem_of_mem_take hx)).flat
      · exact ⟨good_all (by simp; omega) fun x hx => (va x (List.mem_of_mem_drop hx)).flat, vals_ne (by simp; omega)⟩
      · refine ⟨good_of (flat_str (by omega) fun c hc => ?_) fun ds e => (by cases e), rfl⟩
        obtain ⟨y, hy, hc⟩ := List.mem_flatten.mp hc
        obtain ⟨x, hx, rfl⟩ := List.mem_map.mp hy
        exact (va x hx).signs c hc
    have ts : ∀ x ∈ [.non, .int 5, .tup [], .obj h'.length, .tup (ds ++ ds.take 1), .tup (ds.drop 1), .str (ds.map vtxt).flatten], vTest (op2 isNotM (vCall (run (k + 9) I_is_record) (aCons (vVar 2) (aCons (vVar 14) aNil))) (vC (.bl false))) (List.set [some (D.rol (ns.map .int)), some (.obj 0), some (.tup (fs.map FF.d)), some (.tup ds), some (.str (ds.map vtxt).flatten), some (.int (fs.map FF.lo).sum), some (.int (fs.map FF.hi).sum), some (.obj (h2.length + 2)), x8, x9, x10, x11, some (.obj (h' ++ [MO.lst ds] : MH).length), none, none] 14 (some x)) h8 = .ok false h8 := fun x hx => Ok.eq (by
      obtain ⟨g1, g2⟩ := bad x hx
      simp only [wipeE, w_bind, w_noX, w_ok, w_C, w_op2, w_asB, w_op3, w_and, w_or, w_not, w_test, w_bAnd, w_bOr, w_bNot, w_if, w_lif, w_tup, w_lst, w_alloc, w_vL, w_call, w_aNil, w_aCons, w_lCall, w_append, w_nil, w_lnil, w_seq, w_next, w_ret, w_set, w_expr, w_sif, w_sub, w_unp, w_fn1, w_fn2, w_fn3, w_fn4, w_fn5, w_join, w_vSrc, w_aSrc, w_lSrc, w_catLL, w_catOL, w_repL, w_sortV, w_asI, w_slE0, w_slE1, w_sl, q_srcT, q_srcS, q_srcR, q_zipT, q_slT, w_lc, w_forS, Int.toNat_natCast, v_0, v_S, List.replicate_succ, List.replicate_zero, Nat.reduceSub, List.getElem?_cons_zero, List.getElem?_cons_succ, List.set_cons_zero, List.set_cons_succ, if_true, if_false, Bool.false_eq_true, Bool.not_true, Bool.not_false, q_add, q_addT, q_addS, q_sub, q_eq, q_eqS, q_eqB, q_ne, q_neS, q_neB, q_lt, q_ltS, q_le, q_gt, q_ge, q_in1, q_nin1, q_isN, q_isnN, q_isB, q_isnB, q_isiI0, q_isiI1, q_isiI2, q_isiI3, q_isiI4, q_isiI5, q_isiB0, q_isiB1, q_isiB2, q_isiB3, q_isiB4, q_isiB5, q_isiS0, q_isiS1, q_isiS2, q_isiS3, q_isiS4, q_isiS5, q_isiT0, q_isiT1, q_isiT2, q_isiT3, q_isiT4, q_isiT5, q_isiR0, q_isiR1, q_isiR2, q_isiR3, q_isiR4, q_isiR5, q_isiN0, q_isiN1, q_isiN2, q_isiN3, q_isiN4, q_isiN5, q_lenS, q_lenT, q_lenR, q_min2, q_max2, q_strS, q_tupP, ix_0, ix_1, ix_2, ix_3, s_isrec FO g1, g2, decide_true, and_self])
    rw [w_lcLive hb (by simp [LIM]) fun x hx => ⟨_, rfl, false, ts x hx, fun e => by cases e⟩]
    have lf := lcL_fil (test := vTest (op2 isNotM (vCall (run (k + 9) I_is_record) (aCons (vVar 2) (aCons (vVar 14) aNil))) (vC (.bl false)))) (i := 14) (c := fun x => x) (fun _ => false) ts (by simp [wipeE])
    rw [List.map_id'] at lf
    rw [lf, w_ok]
    simp
theorem law_holds (ns : List Int) (hn : ns.length ≤ 63) : ∃ h, run 100 I_law [.rol (ns.map .int)] [] = .ok (.bl true) h := by
  obtain ⟨v, h, e, rfl⟩ := (law_run (k := 90) hn).ex
  exact ⟨h, e⟩
end FT
end
section
set_option maxRecDepth 100000
namespace FT
open PySem L2
set_option autoImplicit false
def topS (i : Nat) : Stmt := PySem.Challenge.pw_fieldtexts_k02_whole_records.main.body.getD i (.Pass ⟨0, 0, 0, 0⟩)
/-- what the top has left -/
structure Txt (K : PySem.W.Frag) (mg : Str → Option Value) : Prop where
  b_all : mg "all" = none
  b_bool : mg "bool" = none
  b_int : mg "int" = none
  b_isinstance : mg "isinstance" = none
  b_len : mg "len" = none
  b_list : mg "list" = none
  b_max : mg "max" = none
  b_min : mg "min" = none
  b_range : mg "range" = none
  b_set : mg "set" = none
  b_sorted : mg "sorted" = none
  b_str : mg "str" = none
  b_sum : mg "sum" = none
  b_tuple : mg "tuple" = none
  b_zip : mg "zip" = none
  c_DIGITS : ∃ t, mg "DIGITS" = some (.str "0123456789" t)
  c_LETTERS : ∃ t, mg "LETTERS" = some (.str "abcdef" t)
  c_SIGNS : ∃ t, mg "SIGNS" = some (.str "-.0123456789:abcdef" t)
/-- every def keeps its mirror's promise, at the level k -/
structure Al (P : Program) (w : World) (K : PySem.W.Frag) (mg : Str → Option Value) (base : Heap) (r : Nat → List D → MH → R D) (k : Nat) : Prop where
  c_is_between : Cal P w K mg base k "is_between" 3 (r I_is_between)
  c_is_text : Cal P w K mg base k "is_text" 3 (r I_is_text)
  c_is_span : Cal P w K mg base k "is_span" 4 (r I_is_span)
  c_is_simple : Cal P w K mg base k "is_simple" 1 (r I_is_simple)
  c_is_field : Cal P w K mg base k "is_field" 1 (r I_is_field)
  c_is_format : Cal P w K mg base k "is_format" 1 (r I_is_format)
  c_check_format : Cal P w K mg base k "check_format" 1 (r I_check_format)
  c_only : Cal P w K mg base k "only" 2 (r I_only)
  c_is_value : Cal P w K mg base k "is_value" 2 (r I_is_value)
  c_is_listed : Cal P w K mg base k "is_listed" 2 (r I_is_listed)
  c_is_record : Cal P w K mg base k "is_record" 2 (r I_is_record)
  c_check_record : Cal P w K mg base k "check_record" 2 (r I_check_record)
  c_part_text : Cal P w K mg base k "part_text" 1 (r I_part_text)
  c_text_of : Cal P w K mg base k "text_of" 2 (r I_text_of)
  c_bounds_of : Cal P w K mg base k "bounds_of" 1 (r I_bounds_of)
  c_shortest_length : Cal P w K mg base k "shortest_length" 1 (r I_shortest_length)
  c_longest_length : Cal P w K mg base k "longest_length" 1 (r I_longest_length)
  c__law_town : Cal P w K mg base k "_law_town" 1 (r I__law_town)
  c__law_draw : Cal P w K mg base k "_law_draw" 3 (r I__law_draw)
  c__law_pick : Cal P w K mg base k "_law_pick" 3 (r I__law_pick)
  c__law_signs : Cal P w K mg base k "_law_signs" 4 (r I__law_signs)
  c__law_simple : Cal P w K mg base k "_law_simple" 3 (r I__law_simple)
  c__law_field : Cal P w K mg base k "_law_field" 3 (r I__law_field)
  c__law_form : Cal P w K mg base k "_law_form" 4 (r I__law_form)
  c__law_value : Cal P w K mg base k "_law_value" 3 (r I__law_value)
  c__law_record : Cal P w K mg base k "_law_record" 3 (r I__law_record)
  c__law_text : Cal P w K mg base k "_law_text" 1 (r I__law_text)
  c__law_parts : Cal P w K mg base k "_law_parts" 2 (r I__law_parts)
  c__law_only : Cal P w K mg base k "_law_only" 2 (r I__law_only)
  c__law_is_value : Cal P w K mg base k "_law_is_value" 2 (r I__law_is_value)
  c__law_lengths : Cal P w K mg base k "_law_lengths" 1 (r I__law_lengths)
  c_law : Cal P w K mg base k "law" 1 (r I_law)
end FT
end
section
set_option maxRecDepth 100000
set_option maxHeartbeats 2000000
namespace FT
open PySem L2
set_option autoImplicit false
variable {P : Program} {w : World} {K : PySem.W.Frag} {mg : Str → Option Value} {base : Heap}
abbrev N__law_draw : List Str := ["script", "town", "limit", "at", "left", "number"]
theorem sc__law_draw : FnScope N__law_draw ["script", "town", "limit"] (defScope (topS 27)) := ⟨rfl, rfl, rfl, by decide +kernel, rfl, by decide +kernel, by decide +kernel⟩
theorem d__law_draw {k : Nat} {f : Addr} {fd : FuncData} (T : Txt K mg) (G : Al P w K mg base (run k) k) (F : Fun K "_law_draw" "_law_draw" (topS 27) f fd) : FnOk P w K mg base (L2.CX P w) (k + 1) f fd ["script", "town", "limit"] (spM K mg 3 (m__law_draw (run k))) := by
  have sc := sc__law_draw
  refine fn_ok F sc rfl rfl fun cdv A outer s H Ex hr => ?_
  have tk := takes_of (X := cxOf (L2.CX P w) P w K mg base N__law_draw "_law_draw" (defScope (topS 27)) f cdv A outer s H Ex) rfl rfl rfl rfl
  exact (mss_cons (ms_sub (me_op p_add (me_ix (me_var 1) me_int) me_int) (me_var 1) me_int)
    (mss_cons (ms_if (mt_eqNil (hu64 hr) (me_var 0))
    (mss_one (ms_ret (me_op p_mod (me_op p_fdiv (me_op p_mul (me_op p_mul (me_ix (me_var 1) me_int) (me_ix (me_var 1) me_int)) me_int) me_int) (me_var 2))))
    mss_nil)
    (mss_cons (ms_set (i := 3) sc.nd rfl (by first | exact Or.inl rfl | exact Or.inr rfl) (me_op p_mod (me_ix (me_var 1) me_int) (me_callB call_lenM v_len (by rfl) T.b_len (by decide +kernel) (ma_cons (me_var 0) ma_nil))))
    (mss_cons (ms_set (i := 4) sc.nd rfl (by first | exact Or.inl rfl | exact Or.inr rfl) (me_ix (me_var 1) (me_op p_add me_int (me_var 3))))
    (mss_cons (ms_if (mt_w (mw_and (mt_cmp p_ge (me_ix (me_var 0) (me_var 3)) (me_op p_pow me_int me_int)) (mw_and1 (mt_cmp p_gt (me_var 4) me_int))))
    (mss_cons (ms_sub (me_op p_fdiv (me_var 4) (me_var 2)) (me_var 1) (me_op p_add me_int (me_var 3)))
    (mss_one (ms_ret (me_op p_mod (me_var 4) (me_var 2)))))
    mss_nil)
    (mss_cons (ms_set (i := 5) sc.nd rfl (by first | exact Or.inl rfl | exact Or.inr rfl) (me_op p_mod (me_op p_add (me_ix (me_var 0) (me_var 3)) (me_op p_mul me_int (me_ix (me_var 1) me_int))) me_int))
    (mss_cons (ms_set (i := 5) sc.nd rfl (by first | exact Or.inl rfl | exact Or.inr rfl) (me_op p_mod (me_op p_pow (me_var 5) me_int) me_int))
    (mss_one (ms_ret (me_op p_mod (me_op p_fdiv (me_op p_mod (me_op p_add (me_op p_mul (me_op p_fdiv (me_var 5) me_int) me_int) (me_var 5)) me_int) me_int) (me_var 2)))))))))))
end FT
end
section
set_option maxRecDepth 100000
set_option maxHeartbeats 2000000
namespace FT
open PySem L2
set_option autoImplicit false
variable {P : Program} {w : World} {K : PySem.W.Frag} {mg : Str → Option Value} {base : Heap}
abbrev N__law_field : List Str := ["script", "town", "most", "field", "low"]
theorem sc__law_field : FnScope N__law_field ["script", "town", "most"] (defScope (topS 31)) := ⟨rfl, rfl, rfl, by decide +kernel, rfl, by decide +kernel, by decide +kernel⟩
theorem d__law_field {k : Nat} {f : Addr} {fd : FuncData} (T : Txt K mg) (G : Al P w K mg base (run k) k) (F : Fun K "_law_field" "_law_field" (topS 31) f fd) : FnOk P w K mg base (L2.CX P w) (k + 1) f fd ["script", "town", "most"] (spM K mg 3 (m__law_field (run k))) := by
  have sc := sc__law_field
  refine fn_ok F sc rfl rfl fun cdv A outer s H Ex hr => ?_
  have tk := takes_of (X := cxOf (L2.CX P w) P w K mg base N__law_field "_law_field" (defScope (topS 31)) f cdv A outer s H Ex) rfl rfl rfl rfl
  exact (mss_cons (ms_set (i := 3) sc.nd rfl (by first | exact Or.inl rfl | exact Or.inr rfl) (me_call G.c__law_simple hr (by rfl) tk (ma_cons (me_var 0) (ma_cons (me_var 1) (ma_cons (me_var 2) ma_nil)))))
    (mss_cons (ms_if (mt_cmp p_gt (me_call G.c__law_draw hr (by rfl) tk (ma_cons (me_var 0) (ma_cons (me_var 1) (ma_cons me_int ma_nil)))) me_int)
    (mss_one (ms_ret (me_var 3)))
    mss_nil)
    (mss_cons (ms_set (i := 4) sc.nd rfl (by first | exact Or.inl rfl | exact Or.inr rfl) (me_call G.c__law_draw hr (by rfl) tk (ma_cons (me_var 0) (ma_cons (me_var 1) (ma_cons me_int ma_nil)))))
    (mss_one (ms_ret (me_tup (ma_cons me_str (ma_cons (me_var 3) (ma_cons (me_var 4) (ma_cons (me_callB (call_max2 rfl) v_max2 (by rfl) T.b_max (by decide +kernel) (ma_cons me_int (ma_cons (me_op p_add (me_var 4) (me_call G.c__law_draw hr (by rfl) tk (ma_cons (me_var 0) (ma_cons (me_var 1) (ma_cons me_int ma_nil))))) ma_nil))) ma_nil))))))))))
end FT
end
section
set_option maxRecDepth 100000
set_option maxHeartbeats 2000000
namespace FT
open PySem L2
set_option autoImplicit false
variable {P : Program} {w : World} {K : PySem.W.Frag} {mg : Str → Option Value} {base : Heap}
abbrev N__law_form : List Str := ["script", "town", "fields", "most", "k"]
theorem sc__law_form : FnScope N__law_form ["script", "town", "fields", "most"] (defScope (topS 32)) := ⟨rfl, rfl, rfl, by decide +kernel, rfl, by decide +kernel, by decide +kernel⟩
theorem d__law_form {k : Nat} {f : Addr} {fd : FuncData} (T : Txt K mg) (G : Al P w K mg base (run k) k) (F : Fun K "_law_form" "_law_form" (topS 32) f fd) : FnOk P w K mg base (L2.CX P w) (k + 1) f fd ["script", "town", "fields", "most"] (spM K mg 4 (m__law_form (run k))) := by
  have sc := sc__law_form
  refine fn_ok F sc rfl rfl fun cdv A outer s H Ex hr => ?_
  have tk := takes_of (X := cxOf (L2.CX P w) P w K mg base N__law_form "_law_form" (defScope (topS 32)) f cdv A outer s H Ex) rfl rfl rfl rfl
  exact (mss_one (ms_ret (me_callTyL call_tuple_of l_tup (by rfl) T.b_tuple (by decide +kernel) (ml_lc (own' := [("k", 4)]) rfl sc.nd (mi_range1 (by rfl) T.b_range (ma_cons (me_op p_add me_int (me_call G.c__law_draw hr (by rfl) tk (ma_cons (me_var 0) (ma_cons (me_var 1) (ma_cons (me_var 2) ma_nil))))) ma_nil)) (blkOk_by (N := N__law_form) (sc := defScope (topS 32)) (by decide +kernel)) (by decide) (fun _ _ _ _ _ => (mg_name (i := 4) sc.nd rfl (by first | exact Or.inl rfl | exact Or.inr rfl))) (fun _ _ _ _ _ => mts_nil) (fun _ _ _ _ _ => (me_call G.c__law_field hr (by rfl) takes0 (ma_cons (me_var 0) (ma_cons (me_var 1) (ma_cons (me_var 3) ma_nil)))))))))
end FT
end
section
set_option maxRecDepth 100000
set_option maxHeartbeats 2000000
namespace FT
open PySem L2
set_option autoImplicit false
variable {P : Program} {w : World} {K : PySem.W.Frag} {mg : Str → Option Value} {base : Heap}
abbrev N__law_is_value : List Str := ["field", "some", "most", "part"]
theorem sc__law_is_value : FnScope N__law_is_value ["field", "some"] (defScope (topS 38)) := ⟨rfl, rfl, rfl, by decide +kernel, rfl, by decide +kernel, by decide +kernel⟩
theorem d__law_is_value {k : Nat} {f : Addr} {fd : FuncData} (T : Txt K mg) (G : Al P w K mg base (run k) k) (F : Fun K "_law_is_value" "_law_is_value" (topS 38) f fd) : FnOk P w K mg base (L2.CX P w) (k + 1) f fd ["field", "some"] (spM K mg 2 (m__law_is_value (run k))) := by
  have sc := sc__law_is_value
  refine fn_ok F sc rfl rfl fun cdv A outer s H Ex hr => ?_
  have tk := takes_of (X := cxOf (L2.CX P w) P w K mg base N__law_is_value "_law_is_value" (defScope (topS 38)) f cdv A outer s H Ex) rfl rfl rfl rfl
  exact (mss_cons (ms_if (mt_cmp (p_eq (hu64 hr)) (me_ix (me_var 0) me_int) me_str)
    (mss_cons (ms_if (mt_w (mw_or (mt_not (mt_val (me_callB call_isi v_isi (by rfl) T.b_isinstance (by decide +kernel) (ma_cons (me_var 1) (ma_cons (me_ty 3 (by rfl) T.b_tuple (by decide +kernel)) ma_nil))))) (mw_or1 (mt_not (mt_chain p_le p_le (me_ix (me_var 0) me_int) (me_callB call_lenM v_len (by rfl) T.b_len (by decide +kernel) (ma_cons (me_var 1) ma_nil)) (me_ix (me_var 0) me_int))))))
    (mss_one (ms_ret me_bl))
    mss_nil)
    (mss_one (ms_ret (me_eqNilL (hu64 hr) (ml_lc (own' := [("part", 3)]) rfl sc.nd (mi_val (me_var 1)) (blkOk_by (N := N__law_is_value) (sc := defScope (topS 38)) (by decide +kernel)) (by decide) (fun _ _ _ _ _ => (mg_name (i := 3) sc.nd rfl (by first | exact Or.inl rfl | exact Or.inr rfl))) (fun _ _ _ _ _ => (mts_one (mt_not (mt_val (me_call G.c__law_is_value hr (by rfl) takes0 (ma_cons (me_ix (me_var 0) me_int) (ma_cons (me_var 3) ma_nil))))))) (fun _ _ _ _ _ => (me_var 3)))))))
    mss_nil)
    (mss_cons (ms_if (mt_cmp (p_eq (hu64 hr)) (me_ix (me_var 0) me_int) me_str)
    (mss_cons (ms_set (i := 2) sc.nd rfl (by first | exact Or.inl rfl | exact Or.inr rfl) (me_ix (me_tup (ma_cons me_int (ma_cons me_int (ma_cons me_int (ma_cons me_int ma_nil))))) (me_op p_sub (me_ix (me_var 0) me_int) me_int)))
    (mss_one (ms_ret (me_and (me_callB call_isi v_isi (by rfl) T.b_isinstance (by decide +kernel) (ma_cons (me_var 1) (ma_cons (me_ty 0 (by rfl) T.b_int (by decide +kernel)) ma_nil))) (me_and (me_not (me_callB call_isi v_isi (by rfl) T.b_isinstance (by decide +kernel) (ma_cons (me_var 1) (ma_cons (me_ty 1 (by rfl) T.b_bool (by decide +kernel)) ma_nil)))) (me_one (me_chain p_le p_lt me_int (me_var 1) (me_var 2))))))))
    mss_nil)
    (mss_cons (ms_if (mt_not (mt_val (me_callB call_isi v_isi (by rfl) T.b_isinstance (by decide +kernel) (ma_cons (me_var 1) (ma_cons (me_ty 2 (by rfl) T.b_str (by decide +kernel)) ma_nil)))))
    (mss_one (ms_ret me_bl))
    mss_nil)
    (mss_one (ms_ret (me_cmp (p_in (hu65 hr)) (me_tup (ma_cons (me_var 1) (ma_cons (me_callB call_lenM v_len (by rfl) T.b_len (by decide +kernel) (ma_cons (me_var 1) ma_nil)) ma_nil))) (me_call G.c__law_parts hr (by rfl) tk (ma_cons (me_var 0) (ma_cons (me_var 1) ma_nil)))))))))
end FT
end
section
set_option maxRecDepth 100000
set_option maxHeartbeats 2000000
namespace FT
open PySem L2
set_option autoImplicit false
variable {P : Program} {w : World} {K : PySem.W.Frag} {mg : Str → Option Value} {base : Heap}
abbrev N__law_lengths : List Str := ["field", "low", "high", "text"]
theorem sc__law_lengths : FnScope N__law_lengths ["field"] (defScope (topS 39)) := ⟨rfl, rfl, rfl, by decide +kernel, rfl, by decide +kernel, by decide +kernel⟩
theorem d__law_lengths {k : Nat} {f : Addr} {fd : FuncData} (T : Txt K mg) (G : Al P w K mg base (run k) k) (F : Fun K "_law_lengths" "_law_lengths" (topS 39) f fd) : FnOk P w K mg base (L2.CX P w) (k + 1) f fd ["field"] (spM K mg 1 (m__law_lengths (run k))) := by
  have sc := sc__law_lengths
  refine fn_ok F sc rfl rfl fun cdv A outer s H Ex hr => ?_
  have tk := takes_of (X := cxOf (L2.CX P w) P w K mg base N__law_lengths "_law_lengths" (defScope (topS 39)) f cdv A outer s H Ex) rfl rfl rfl rfl
  exact (mss_cons (ms_if (mt_cmp (p_eq (hu64 hr)) (me_ix (me_var 0) me_int) me_str)
    (mss_cons (ms_unp (me_call G.c__law_lengths hr (by rfl) tk (ma_cons (me_ix (me_var 0) me_int) ma_nil)) (mg_tup rfl (pgs_cons (pg_name (i := 1) sc.nd rfl (by first | exact Or.inl rfl | exact Or.inr rfl)) (pgs_cons (pg_name (i := 2) sc.nd rfl (by first | exact Or.inl rfl | exact Or.inr rfl)) pgs_nil))))
    (mss_one (ms_ret (me_tup (ma_cons (me_op p_mul (me_var 1) (me_ix (me_var 0) me_int)) (ma_cons (me_op p_mul (me_var 2) (me_ix (me_var 0) me_int)) ma_nil))))))
    mss_nil)
    (mss_cons (ms_if (mt_cmp (p_eq (hu64 hr)) (me_ix (me_var 0) me_int) me_str)
    (mss_one (ms_ret (me_tup (ma_cons (me_callB call_lenM v_len (by rfl) T.b_len (by decide +kernel) (ma_cons (me_ix (me_var 0) me_int) ma_nil)) (ma_cons (me_callB call_lenM v_len (by rfl) T.b_len (by decide +kernel) (ma_cons (me_ix (me_var 0) me_int) ma_nil)) ma_nil)))))
    mss_nil)
    (mss_cons (ms_if (mt_cmp (p_eq (hu64 hr)) (me_ix (me_var 0) me_int) me_str)
    (mss_one (ms_ret (me_tup (ma_cons (me_callL (cr_min rfl) l_min (by rfl) T.b_min (by decide +kernel) (ml_lc (own' := [("text", 3)]) rfl sc.nd (mi_val (me_ix (me_var 0) me_int)) (blkOk_by (N := N__law_lengths) (sc := defScope (topS 39)) (by decide +kernel)) (by decide) (fun _ _ _ _ _ => (mg_name (i := 3) sc.nd rfl (by first | exact Or.inl rfl | exact Or.inr rfl))) (fun _ _ _ _ _ => mts_nil) (fun _ _ _ _ _ => (me_callB call_lenM v_len (by rfl) T.b_len (by decide +kernel) (ma_cons (me_var 3) ma_nil))))) (ma_cons (me_callL (cr_max rfl) l_max (by rfl) T.b_max (by decide +kernel) (ml_lc (own' := [("text", 3)]) rfl sc.nd (mi_val (me_ix (me_var 0) me_int)) (blkOk_by (N := N__law_lengths) (sc := defScope (topS 39)) (by decide +kernel)) (by decide) (fun _ _ _ _ _ => (mg_name (i := 3) sc.nd rfl (by first | exact Or.inl rfl | exact Or.inr rfl))) (fun _ _ _ _ _ => mts_nil) (fun _ _ _ _ _ => (me_callB call_lenM v_len (by rfl) T.b_len (by decide +kernel) (ma_cons (me_var 3) ma_nil))))) ma_nil)))))
    mss_nil)
    (mss_one (ms_ret (me_if (mt_cmp (p_eq (hu64 hr)) (me_ix (me_var 0) me_int) me_str) (me_tup (ma_cons me_int (ma_cons (me_ix (me_var 0) me_int) ma_nil))) (me_tup (ma_cons (me_ix (me_var 0) me_int) (ma_cons (me_ix (me_var 0) me_int) ma_nil)))))))))
end FT
end
section
set_option maxRecDepth 100000
set_option maxHeartbeats 2000000
namespace FT
open PySem L2
set_option autoImplicit false
variable {P : Program} {w : World} {K : PySem.W.Frag} {mg : Str → Option Value} {base : Heap}
abbrev N__law_only : List Str := ["part", "signs", "sign"]
theorem sc__law_only : FnScope N__law_only ["part", "signs"] (defScope (topS 37)) := ⟨rfl, rfl, rfl, by decide +kernel, rfl, by decide +kernel, by decide +kernel⟩
theorem d__law_only {k : Nat} {f : Addr} {fd : FuncData} (T : Txt K mg) (G : Al P w K mg base (run k) k) (F : Fun K "_law_only" "_law_only" (topS 37) f fd) : FnOk P w K mg base (L2.CX P w) (k + 1) f fd ["part", "signs"] (spM K mg 2 (m__law_only (run k))) := by
  have sc := sc__law_only
  refine fn_ok F sc rfl rfl fun cdv A outer s H Ex hr => ?_
  have tk := takes_of (X := cxOf (L2.CX P w) P w K mg base N__law_only "_law_only" (defScope (topS 37)) f cdv A outer s H Ex) rfl rfl rfl rfl
  exact (mss_one (ms_ret (me_eqNilL (hu64 hr) (ml_lc (own' := [("sign", 2)]) rfl sc.nd (mi_val (me_var 0)) (blkOk_by (N := N__law_only) (sc := defScope (topS 37)) (by decide +kernel)) (by decide) (fun _ _ _ _ _ => (mg_name (i := 2) sc.nd rfl (by first | exact Or.inl rfl | exact Or.inr rfl))) (fun _ _ _ _ _ => (mts_one (mt_cmp (p_notIn (hu65 hr)) (me_var 2) (me_var 1)))) (fun _ _ _ _ _ => (me_var 2))))))
end FT
end
section
set_option maxRecDepth 100000
set_option maxHeartbeats 2000000
namespace FT
open PySem L2
set_option autoImplicit false
variable {P : Program} {w : World} {K : PySem.W.Frag} {mg : Str → Option Value} {base : Heap}
abbrev N__law_parts : List Str := ["field", "text", "found", "size", "part"]
theorem sc__law_parts : FnScope N__law_parts ["field", "text"] (defScope (topS 36)) := ⟨rfl, rfl, rfl, by decide +kernel, rfl, by decide +kernel, by decide +kernel⟩
theorem d__law_parts {k : Nat} {f : Addr} {fd : FuncData} (T : Txt K mg) (G : Al P w K mg base (run k) k) (F : Fun K "_law_parts" "_law_parts" (topS 36) f fd) : FnOk P w K mg base (L2.CX P w) (k + 1) f fd ["field", "text"] (spM K mg 2 (m__law_parts (run k))) := by
  have sc := sc__law_parts
  refine fn_ok F sc rfl rfl fun cdv A outer s H Ex hr => ?_
  have tk := takes_of (X := cxOf (L2.CX P w) P w K mg base N__law_parts "_law_parts" (defScope (topS 36)) f cdv A outer s H Ex) rfl rfl rfl rfl
  exact (mss_cons (ms_set (i := 2) sc.nd rfl (by first | exact Or.inl rfl | exact Or.inr rfl) (me_alloc (ml_lst ma_nil)))
    (mss_cons (ms_for (passes_of rfl) rfl (mi_range1 (by rfl) T.b_range (ma_cons (me_op p_add (me_callB (call_min2 rfl) v_min2 (by rfl) T.b_min (by decide +kernel) (ma_cons me_int (ma_cons (me_callB call_lenM v_len (by rfl) T.b_len (by decide +kernel) (ma_cons (me_var 1) ma_nil)) ma_nil))) me_int) ma_nil)) (mg_name (i := 3) sc.nd rfl (by first | exact Or.inl rfl | exact Or.inr rfl))
    (mss_cons (ms_set (i := 4) sc.nd rfl (by first | exact Or.inl rfl | exact Or.inr rfl) (me_sl (me_var 1) mo_none (mo_some (me_var 3))))
    (mss_cons (ms_if (mt_w (mw_or (mt_w (mw_and (mt_cmp (p_eq (hu64 hr)) (me_ix (me_var 0) me_int) me_str) (mw_and1 (mt_cmp (p_eq (hu64 hr)) (me_var 4) (me_ix (me_var 0) me_int))))) (mw_or1 (mt_w (mw_and (mt_cmp (p_eq (hu64 hr)) (me_ix (me_var 0) me_int) me_str) (mw_and1 (mt_cmp (p_in (hu65 hr)) (me_var 4) (me_ix (me_var 0) me_int))))))))
    (mss_one (ms_expr (me_append (me_var 2) (me_tup (ma_cons (me_var 4) (ma_cons (me_var 3) ma_nil))))))
    mss_nil)
    (mss_cons (ms_if (mt_w (mw_and (mt_cmp (p_eq (hu64 hr)) (me_ix (me_var 0) me_int) me_str) (mw_and (mt_chain p_le p_le (me_ix (me_var 0) me_int) (me_var 3) (me_ix (me_var 0) me_int)) (mw_and1 (mt_val (me_call G.c__law_only hr (by rfl) tk (ma_cons (me_var 4) (ma_cons me_str ma_nil))))))))
    (mss_one (ms_expr (me_append (me_var 2) (me_tup (ma_cons (me_var 4) (ma_cons (me_var 3) ma_nil))))))
    mss_nil)
    (mss_cons (ms_if (mt_w (mw_and (mt_cmp (p_eq (hu64 hr)) (me_ix (me_var 0) me_int) me_str) (mw_and (mt_chain p_le p_le (me_ix (me_var 0) me_int) (me_var 3) (me_ix (me_var 0) me_int)) (mw_and1 (mt_val (me_call G.c__law_only hr (by rfl) tk (ma_cons (me_var 4) (ma_cons me_str ma_nil))))))))
    (mss_one (ms_expr (me_append (me_var 2) (me_tup (ma_cons (me_var 4) (ma_cons (me_var 3) ma_nil))))))
    mss_nil)
    (mss_one (ms_if (mt_w (mw_and (mt_cmp (p_eq (hu64 hr)) (me_ix (me_var 0) me_int) me_str) (mw_and (mt_chain p_le p_le me_int (me_var 3) (me_ix (me_var 0) me_int)) (mw_and1 (mt_val (me_call G.c__law_only hr (by rfl) tk (ma_cons (me_var 4) (ma_cons me_str ma_nil))))))))
    (mss_one (ms_set (i := 2) sc.nd rfl (by first | exact Or.inl rfl | exact Or.inr rfl) (me_alloc (ml_catOL (me_var 2) (ml_rep (ml_lst (ma_cons (me_tup (ma_cons (me_callTy call_intM v_int (by rfl) T.b_int (by decide +kernel) (ma_cons (me_var 4) ma_nil)) (ma_cons (me_var 3) ma_nil))) ma_nil)) (me_callTy call_intM v_int (by rfl) T.b_int (by decide +kernel) (ma_cons (me_cmp (p_eq (hu64 hr)) (me_callTy call_strM v_str (by rfl) T.b_str (by decide +kernel) (ma_cons (me_callTy call_intM v_int (by rfl) T.b_int (by decide +kernel) (ma_cons (me_var 4) ma_nil)) ma_nil)) (me_var 4)) ma_nil)))))))
    mss_nil)))))))
    (mss_one (ms_ret (me_var 2)))))
end FT
end
section
set_option maxRecDepth 100000
set_option maxHeartbeats 2000000
namespace FT
open PySem L2
set_option autoImplicit false
variable {P : Program} {w : World} {K : PySem.W.Frag} {mg : Str → Option Value} {base : Heap}
abbrev N__law_pick : List Str := ["script", "town", "choices"]
theorem sc__law_pick : FnScope N__law_pick ["script", "town", "choices"] (defScope (topS 28)) := ⟨rfl, rfl, rfl, by decide +kernel, rfl, by decide +kernel, by decide +kernel⟩
theorem d__law_pick {k : Nat} {f : Addr} {fd : FuncData} (T : Txt K mg) (G : Al P w K mg base (run k) k) (F : Fun K "_law_pick" "_law_pick" (topS 28) f fd) : FnOk P w K mg base (L2.CX P w) (k + 1) f fd ["script", "town", "choices"] (spM K mg 3 (m__law_pick (run k))) := by
  have sc := sc__law_pick
  refine fn_ok F sc rfl rfl fun cdv A outer s H Ex hr => ?_
  have tk := takes_of (X := cxOf (L2.CX P w) P w K mg base N__law_pick "_law_pick" (defScope (topS 28)) f cdv A outer s H Ex) rfl rfl rfl rfl
  exact (mss_one (ms_ret (me_ix (me_var 2) (me_call G.c__law_draw hr (by rfl) tk (ma_cons (me_var 0) (ma_cons (me_var 1) (ma_cons (me_callB call_lenM v_len (by rfl) T.b_len (by decide +kernel) (ma_cons (me_var 2) ma_nil)) ma_nil)))))))
end FT
end
section
set_option maxRecDepth 100000
set_option maxHeartbeats 2000000
namespace FT
open PySem L2
set_option autoImplicit false
variable {P : Program} {w : World} {K : PySem.W.Frag} {mg : Str → Option Value} {base : Heap}
abbrev N__law_record : List Str := ["script", "town", "form", "field"]
theorem sc__law_record : FnScope N__law_record ["script", "town", "form"] (defScope (topS 34)) := ⟨rfl, rfl, rfl, by decide +kernel, rfl, by decide +kernel, by decide +kernel⟩
theorem d__law_record {k : Nat} {f : Addr} {fd : FuncData} (T : Txt K mg) (G : Al P w K mg base (run k) k) (F : Fun K "_law_record" "_law_record" (topS 34) f fd) : FnOk P w K mg base (L2.CX P w) (k + 1) f fd ["script", "town", "form"] (spM K mg 3 (m__law_record (run k))) := by
  have sc := sc__law_record
  refine fn_ok F sc rfl rfl fun cdv A outer s H Ex hr => ?_
  have tk := takes_of (X := cxOf (L2.CX P w) P w K mg base N__law_record "_law_record" (defScope (topS 34)) f cdv A outer s H Ex) rfl rfl rfl rfl
  exact (mss_one (ms_ret (me_callTyL call_tuple_of l_tup (by rfl) T.b_tuple (by decide +kernel) (ml_lc (own' := [("field", 3)]) rfl sc.nd (mi_val (me_var 2)) (blkOk_by (N := N__law_record) (sc := defScope (topS 34)) (by decide +kernel)) (by decide) (fun _ _ _ _ _ => (mg_name (i := 3) sc.nd rfl (by first | exact Or.inl rfl | exact Or.inr rfl))) (fun _ _ _ _ _ => mts_nil) (fun _ _ _ _ _ => (me_call G.c__law_value hr (by rfl) takes0 (ma_cons (me_var 0) (ma_cons (me_var 1) (ma_cons (me_var 3) ma_nil)))))))))
end FT
end
section
set_option maxRecDepth 100000
set_option maxHeartbeats 2000000
namespace FT
open PySem L2
set_option autoImplicit false
variable {P : Program} {w : World} {K : PySem.W.Frag} {mg : Str → Option Value} {base : Heap}
abbrev N__law_signs : List Str := ["script", "town", "signs", "many", "k"]
theorem sc__law_signs : FnScope N__law_signs ["script", "town", "signs", "many"] (defScope (topS 29)) := ⟨rfl, rfl, rfl, by decide +kernel, rfl, by decide +kernel, by decide +kernel⟩
theorem d__law_signs {k : Nat} {f : Addr} {fd : FuncData} (T : Txt K mg) (G : Al P w K mg base (run k) k) (F : Fun K "_law_signs" "_law_signs" (topS 29) f fd) : FnOk P w K mg base (L2.CX P w) (k + 1) f fd ["script", "town", "signs", "many"] (spM K mg 4 (m__law_signs (run k))) := by
  have sc := sc__law_signs
  refine fn_ok F sc rfl rfl fun cdv A outer s H Ex hr => ?_
  have tk := takes_of (X := cxOf (L2.CX P w) P w K mg base N__law_signs "_law_signs" (defScope (topS 29)) f cdv A outer s H Ex) rfl rfl rfl rfl
  exact (mss_one (ms_ret (me_join me_str (ml_lc (own' := [("k", 4)]) rfl sc.nd (mi_range1 (by rfl) T.b_range (ma_cons (me_var 3) ma_nil)) (blkOk_by (N := N__law_signs) (sc := defScope (topS 29)) (by decide +kernel)) (by decide) (fun _ _ _ _ _ => (mg_name (i := 4) sc.nd rfl (by first | exact Or.inl rfl | exact Or.inr rfl))) (fun _ _ _ _ _ => mts_nil) (fun _ _ _ _ _ => (me_call G.c__law_pick hr (by rfl) takes0 (ma_cons (me_var 0) (ma_cons (me_var 1) (ma_cons (me_alloc (ml_list rfl (by rfl) T.b_list (by decide +kernel) (ma_cons (me_var 2) ma_nil))) ma_nil)))))))))
end FT
end
section
set_option maxRecDepth 100000
set_option maxHeartbeats 2000000
namespace FT
open PySem L2
set_option autoImplicit false
variable {P : Program} {w : World} {K : PySem.W.Frag} {mg : Str → Option Value} {base : Heap}
abbrev N__law_simple : List Str := ["script", "town", "most", "way", "low", "texts", "k", "signs"]
theorem sc__law_simple : FnScope N__law_simple ["script", "town", "most"] (defScope (topS 30)) := ⟨rfl, rfl, rfl, by decide +kernel, rfl, by decide +kernel, by decide +kernel⟩
theorem d__law_simple {k : Nat} {f : Addr} {fd : FuncData} (T : Txt K mg) (G : Al P w K mg base (run k) k) (F : Fun K "_law_simple" "_law_simple" (topS 30) f fd) : FnOk P w K mg base (L2.CX P w) (k + 1) f fd ["script", "town", "most"] (spM K mg 3 (m__law_simple (run k))) := by
  have sc := sc__law_simple
  refine fn_ok F sc rfl rfl fun cdv A outer s H Ex hr => ?_
  have tk := takes_of (X := cxOf (L2.CX P w) P w K mg base N__law_simple "_law_simple" (defScope (topS 30)) f cdv A outer s H Ex) rfl rfl rfl rfl
  exact (mss_cons (ms_set (i := 3) sc.nd rfl (by first | exact Or.inl rfl | exact Or.inr rfl) (me_call G.c__law_draw hr (by rfl) tk (ma_cons (me_var 0) (ma_cons (me_var 1) (ma_cons me_int ma_nil)))))
    (mss_cons (ms_if (mt_cmp (p_eq (hu64 hr)) (me_var 3) me_int)
    (mss_one (ms_ret (me_tup (ma_cons me_str (ma_cons (me_call G.c__law_signs hr (by rfl) tk (ma_cons (me_var 0) (ma_cons (me_var 1) (ma_cons me_str (ma_cons (me_op p_add me_int (me_call G.c__law_draw hr (by rfl) tk (ma_cons (me_var 0) (ma_cons (me_var 1) (ma_cons (me_callB (call_min2 rfl) v_min2 (by rfl) T.b_min (by decide +kernel) (ma_cons me_int (ma_cons (me_var 2) ma_nil))) ma_nil))))) ma_nil))))) ma_nil)))))
    mss_nil)
    (mss_cons (ms_if (mt_cmp p_lt (me_var 3) me_int)
    (mss_cons (ms_set (i := 4) sc.nd rfl (by first | exact Or.inl rfl | exact Or.inr rfl) (me_call G.c__law_draw hr (by rfl) tk (ma_cons (me_var 0) (ma_cons (me_var 1) (ma_cons (me_op p_add (me_var 2) me_int) ma_nil)))))
    (mss_one (ms_ret (me_tup (ma_cons (me_ix (me_tup (ma_cons me_str (ma_cons me_str ma_nil))) (me_op p_sub (me_var 3) me_int)) (ma_cons (me_var 4) (ma_cons (me_op p_add (me_var 4) (me_call G.c__law_draw hr (by rfl) tk (ma_cons (me_var 0) (ma_cons (me_var 1) (ma_cons (me_op p_sub (me_op p_add (me_var 2) me_int) (me_var 4)) ma_nil))))) ma_nil)))))))
    mss_nil)
    (mss_cons (ms_if (mt_cmp (p_eq (hu64 hr)) (me_var 3) me_int)
    (mss_one (ms_ret (me_tup (ma_cons me_str (ma_cons (me_op p_add me_int (me_call G.c__law_draw hr (by rfl) tk (ma_cons (me_var 0) (ma_cons (me_var 1) (ma_cons (me_var 2) ma_nil))))) ma_nil)))))
    mss_nil)
    (mss_cons (ms_set (i := 5) sc.nd rfl (by first | exact Or.inl rfl | exact Or.inr rfl) (me_alloc (ml_lst ma_nil)))
    (mss_cons (ms_for (passes_of rfl) rfl (mi_range1 (by rfl) T.b_range (ma_cons (me_op p_add me_int (me_call G.c__law_draw hr (by rfl) tk (ma_cons (me_var 0) (ma_cons (me_var 1) (ma_cons me_int ma_nil))))) ma_nil)) (mg_name (i := 6) sc.nd rfl (by first | exact Or.inl rfl | exact Or.inr rfl))
    (mss_cons (ms_set (i := 7) sc.nd rfl (by first | exact Or.inl rfl | exact Or.inr rfl) (me_call G.c__law_pick hr (by rfl) tk (ma_cons (me_var 0) (ma_cons (me_var 1) (ma_cons (me_alloc (ml_lst (ma_cons me_str (ma_cons me_str (ma_cons me_str (ma_cons me_str ma_nil)))))) ma_nil)))))
    (mss_one (ms_expr (me_append (me_var 5) (me_call G.c__law_signs hr (by rfl) tk (ma_cons (me_var 0) (ma_cons (me_var 1) (ma_cons (me_var 7) (ma_cons (me_op p_add me_int (me_call G.c__law_draw hr (by rfl) tk (ma_cons (me_var 0) (ma_cons (me_var 1) (ma_cons (me_var 2) ma_nil))))) ma_nil))))))))))
    (mss_one (ms_ret (me_tup (ma_cons me_str (ma_cons (me_callTyL call_tuple_of l_tup (by rfl) T.b_tuple (by decide +kernel) (ml_sortSetV rfl (hu64 hr) (by rfl) T.b_sorted (by decide +kernel) (by rfl) T.b_set (by decide +kernel) (me_var 5))) ma_nil)))))))))))
end FT
end
section
set_option maxRecDepth 100000
set_option maxHeartbeats 2000000
namespace FT
open PySem L2
set_option autoImplicit false
variable {P : Program} {w : World} {K : PySem.W.Frag} {mg : Str → Option Value} {base : Heap}
abbrev N__law_text : List Str := ["some", "part"]
theorem sc__law_text : FnScope N__law_text ["some"] (defScope (topS 35)) := ⟨rfl, rfl, rfl, by decide +kernel, rfl, by decide +kernel, by decide +kernel⟩
theorem d__law_text {k : Nat} {f : Addr} {fd : FuncData} (T : Txt K mg) (G : Al P w K mg base (run k) k) (F : Fun K "_law_text" "_law_text" (topS 35) f fd) : FnOk P w K mg base (L2.CX P w) (k + 1) f fd ["some"] (spM K mg 1 (m__law_text (run k))) := by
  have sc := sc__law_text
  refine fn_ok F sc rfl rfl fun cdv A outer s H Ex hr => ?_
  have tk := takes_of (X := cxOf (L2.CX P w) P w K mg base N__law_text "_law_text" (defScope (topS 35)) f cdv A outer s H Ex) rfl rfl rfl rfl
  exact (mss_cons (ms_if (mt_val (me_callB call_isi v_isi (by rfl) T.b_isinstance (by decide +kernel) (ma_cons (me_var 0) (ma_cons (me_ty 3 (by rfl) T.b_tuple (by decide +kernel)) ma_nil))))
    (mss_one (ms_ret (me_join me_str (ml_lc (own' := [("part", 1)]) rfl sc.nd (mi_val (me_var 0)) (blkOk_by (N := N__law_text) (sc := defScope (topS 35)) (by decide +kernel)) (by decide) (fun _ _ _ _ _ => (mg_name (i := 1) sc.nd rfl (by first | exact Or.inl rfl | exact Or.inr rfl))) (fun _ _ _ _ _ => mts_nil) (fun _ _ _ _ _ => (me_call G.c__law_text hr (by rfl) takes0 (ma_cons (me_var 1) ma_nil)))))))
    mss_nil)
    (mss_one (ms_ret (me_callTy call_strM v_str (by rfl) T.b_str (by decide +kernel) (ma_cons (me_var 0) ma_nil)))))
end FT
end
section
set_option maxRecDepth 100000
set_option maxHeartbeats 2000000
namespace FT
open PySem L2
set_option autoImplicit false
variable {P : Program} {w : World} {K : PySem.W.Frag} {mg : Str → Option Value} {base : Heap}
abbrev N__law_town : List Str := ["script"]
theorem sc__law_town : FnScope N__law_town ["script"] (defScope (topS 26)) := ⟨rfl, rfl, rfl, by decide +kernel, rfl, by decide +kernel, by decide +kernel⟩
theorem d__law_town {k : Nat} {f : Addr} {fd : FuncData} (T : Txt K mg) (G : Al P w K mg base (run k) k) (F : Fun K "_law_town" "_law_town" (topS 26) f fd) : FnOk P w K mg base (L2.CX P w) (k + 1) f fd ["script"] (spM K mg 1 (m__law_town (run k))) := by
  have sc := sc__law_town
  refine fn_ok F sc rfl rfl fun cdv A outer s H Ex hr => ?_
  have tk := takes_of (X := cxOf (L2.CX P w) P w K mg base N__law_town "_law_town" (defScope (topS 26)) f cdv A outer s H Ex) rfl rfl rfl rfl
  exact (mss_one (ms_ret (me_alloc (ml_catLL (ml_lst (ma_cons me_int ma_nil)) (ml_list rfl (by rfl) T.b_list (by decide +kernel) (ma_cons (me_var 0) ma_nil))))))
end FT
end
section
set_option maxRecDepth 100000
set_option maxHeartbeats 2000000
namespace FT
open PySem L2
set_option autoImplicit false
variable {P : Program} {w : World} {K : PySem.W.Frag} {mg : Str → Option Value} {base : Heap}
abbrev N__law_value : List Str := ["script", "town", "field", "many", "k"]
theorem sc__law_value : FnScope N__law_value ["script", "town", "field"] (defScope (topS 33)) := ⟨rfl, rfl, rfl, by decide +kernel, rfl, by decide +kernel, by decide +kernel⟩
theorem d__law_value {k : Nat} {f : Addr} {fd : FuncData} (T : Txt K mg) (G : Al P w K mg base (run k) k) (F : Fun K "_law_value" "_law_value" (topS 33) f fd) : FnOk P w K mg base (L2.CX P w) (k + 1) f fd ["script", "town", "field"] (spM K mg 3 (m__law_value (run k))) := by
  have sc := sc__law_value
  refine fn_ok F sc rfl rfl fun cdv A outer s H Ex hr => ?_
  have tk := takes_of (X := cxOf (L2.CX P w) P w K mg base N__law_value "_law_value" (defScope (topS 33)) f cdv A outer s H Ex) rfl rfl rfl rfl
  exact (mss_cons (ms_if (mt_cmp (p_eq (hu64 hr)) (me_ix (me_var 2) me_int) me_str)
    (mss_one (ms_ret (me_ix (me_var 2) me_int)))
    mss_nil)
    (mss_cons (ms_if (mt_cmp (p_eq (hu64 hr)) (me_ix (me_var 2) me_int) me_str)
    (mss_one (ms_ret (me_call G.c__law_pick hr (by rfl) tk (ma_cons (me_var 0) (ma_cons (me_var 1) (ma_cons (me_ix (me_var 2) me_int) ma_nil))))))
    mss_nil)
    (mss_cons (ms_if (mt_cmp (p_eq (hu64 hr)) (me_ix (me_var 2) me_int) me_str)
    (mss_one (ms_ret (me_call G.c__law_draw hr (by rfl) tk (ma_cons (me_var 0) (ma_cons (me_var 1) (ma_cons (me_ix (me_alloc (ml_lst (ma_cons me_int (ma_cons me_int (ma_cons me_int (ma_cons me_int ma_nil)))))) (me_call G.c__law_draw hr (by rfl) tk (ma_cons (me_var 0) (ma_cons (me_var 1) (ma_cons (me_ix (me_var 2) me_int) ma_nil))))) ma_nil))))))
    mss_nil)
    (mss_cons (ms_if (mt_cmp (p_eq (hu64 hr)) (me_ix (me_var 2) me_int) me_str)
    (mss_cons (ms_set (i := 3) sc.nd rfl (by first | exact Or.inl rfl | exact Or.inr rfl) (me_op p_add (me_ix (me_var 2) me_int) (me_call G.c__law_draw hr (by rfl) tk (ma_cons (me_var 0) (ma_cons (me_var 1) (ma_cons (me_op p_add (me_op p_sub (me_ix (me_var 2) me_int) (me_ix (me_var 2) me_int)) me_int) ma_nil))))))
    (mss_one (ms_ret (me_callTyL call_tuple_of l_tup (by rfl) T.b_tuple (by decide +kernel) (ml_lc (own' := [("k", 4)]) rfl sc.nd (mi_range1 (by rfl) T.b_range (ma_cons (me_var 3) ma_nil)) (blkOk_by (N := N__law_value) (sc := defScope (topS 33)) (by decide +kernel)) (by decide) (fun _ _ _ _ _ => (mg_name (i := 4) sc.nd rfl (by first | exact Or.inl rfl | exact Or.inr rfl))) (fun _ _ _ _ _ => mts_nil) (fun _ _ _ _ _ => (me_call G.c__law_value hr (by rfl) takes0 (ma_cons (me_var 0) (ma_cons (me_var 1) (ma_cons (me_ix (me_var 2) me_int) ma_nil))))))))))
    mss_nil)
    (mss_cons (ms_set (i := 3) sc.nd rfl (by first | exact Or.inl rfl | exact Or.inr rfl) (me_op p_add (me_ix (me_var 2) me_int) (me_call G.c__law_draw hr (by rfl) tk (ma_cons (me_var 0) (ma_cons (me_var 1) (ma_cons (me_op p_add (me_op p_sub (me_ix (me_var 2) me_int) (me_ix (me_var 2) me_int)) me_int) ma_nil))))))
    (mss_one (ms_ret (me_call G.c__law_signs hr (by rfl) tk (ma_cons (me_var 0) (ma_cons (me_var 1) (ma_cons (me_if (mt_cmp (p_eq (hu64 hr)) (me_ix (me_var 2) me_int) me_str) me_str me_str) (ma_cons (me_var 3) ma_nil))))))))))))
end FT
end
section
set_option maxRecDepth 100000
set_option maxHeartbeats 2000000
namespace FT
open PySem L2
set_option autoImplicit false
variable {P : Program} {w : World} {K : PySem.W.Frag} {mg : Str → Option Value} {base : Heap}
abbrev N_bounds_of : List Str := ["field", "low", "high", "text"]
theorem sc_bounds_of : FnScope N_bounds_of ["field"] (defScope (topS 22)) := ⟨rfl, rfl, rfl, by decide +kernel, rfl, by decide +kernel, by decide +kernel⟩
theorem d_bounds_of {k : Nat} {f : Addr} {fd : FuncData} (T : Txt K mg) (G : Al P w K mg base (run k) k) (F : Fun K "bounds_of" "bounds_of" (topS 22) f fd) : FnOk P w K mg base (L2.CX P w) (k + 1) f fd ["field"] (spM K mg 1 (m_bounds_of (run k))) := by
  have sc := sc_bounds_of
  refine fn_ok F sc rfl rfl fun cdv A outer s H Ex hr => ?_
  have tk := takes_of (X := cxOf (L2.CX P w) P w K mg base N_bounds_of "bounds_of" (defScope (topS 22)) f cdv A outer s H Ex) rfl rfl rfl rfl
  exact (mss_cons (ms_if (mt_cmp (p_eq (hu64 hr)) (me_ix (me_var 0) me_int) me_str)
    (mss_one (ms_ret (me_tup (ma_cons (me_callB call_lenM v_len (by rfl) T.b_len (by decide +kernel) (ma_cons (me_ix (me_var 0) me_int) ma_nil)) (ma_cons (me_callB call_lenM v_len (by rfl) T.b_len (by decide +kernel) (ma_cons (me_ix (me_var 0) me_int) ma_nil)) ma_nil)))))
    mss_nil)
    (mss_cons (ms_if (mt_cmp (p_eq (hu64 hr)) (me_ix (me_var 0) me_int) me_str)
    (mss_one (ms_ret (me_tup (ma_cons (me_callL (cr_min rfl) l_min (by rfl) T.b_min (by decide +kernel) (ml_lc (own' := [("text", 3)]) rfl sc.nd (mi_val (me_ix (me_var 0) me_int)) (blkOk_by (N := N_bounds_of) (sc := defScope (topS 22)) (by decide +kernel)) (by decide) (fun _ _ _ _ _ => (mg_name (i := 3) sc.nd rfl (by first | exact Or.inl rfl | exact Or.inr rfl))) (fun _ _ _ _ _ => mts_nil) (fun _ _ _ _ _ => (me_callB call_lenM v_len (by rfl) T.b_len (by decide +kernel) (ma_cons (me_var 3) ma_nil))))) (ma_cons (me_callL (cr_max rfl) l_max (by rfl) T.b_max (by decide +kernel) (ml_lc (own' := [("text", 3)]) rfl sc.nd (mi_val (me_ix (me_var 0) me_int)) (blkOk_by (N := N_bounds_of) (sc := defScope (topS 22)) (by decide +kernel)) (by decide) (fun _ _ _ _ _ => (mg_name (i := 3) sc.nd rfl (by first | exact Or.inl rfl | exact Or.inr rfl))) (fun _ _ _ _ _ => mts_nil) (fun _ _ _ _ _ => (me_callB call_lenM v_len (by rfl) T.b_len (by decide +kernel) (ma_cons (me_var 3) ma_nil))))) ma_nil)))))
    mss_nil)
    (mss_cons (ms_if (mt_cmp (p_eq (hu64 hr)) (me_ix (me_var 0) me_int) me_str)
    (mss_one (ms_ret (me_tup (ma_cons me_int (ma_cons (me_ix (me_var 0) me_int) ma_nil)))))
    mss_nil)
    (mss_cons (ms_if (mt_cmp (p_eq (hu64 hr)) (me_ix (me_var 0) me_int) me_str)
    (mss_cons (ms_unp (me_call G.c_bounds_of hr (by rfl) tk (ma_cons (me_ix (me_var 0) me_int) ma_nil)) (mg_tup rfl (pgs_cons (pg_name (i := 1) sc.nd rfl (by first | exact Or.inl rfl | exact Or.inr rfl)) (pgs_cons (pg_name (i := 2) sc.nd rfl (by first | exact Or.inl rfl | exact Or.inr rfl)) pgs_nil))))
    (mss_one (ms_ret (me_tup (ma_cons (me_op p_mul (me_var 1) (me_ix (me_var 0) me_int)) (ma_cons (me_op p_mul (me_var 2) (me_ix (me_var 0) me_int)) ma_nil))))))
    mss_nil)
    (mss_one (ms_ret (me_tup (ma_cons (me_ix (me_var 0) me_int) (ma_cons (me_ix (me_var 0) me_int) ma_nil)))))))))
end FT
end
section
set_option maxRecDepth 100000
set_option maxHeartbeats 2000000
namespace FT
open PySem L2
set_option autoImplicit false
variable {P : Program} {w : World} {K : PySem.W.Frag} {mg : Str → Option Value} {base : Heap}
abbrev N_check_format : List Str := ["value"]
theorem sc_check_format : FnScope N_check_format ["value"] (defScope (topS 14)) := ⟨rfl, rfl, rfl, by decide +kernel, rfl, by decide +kernel, by decide +kernel⟩
theorem d_check_format {k : Nat} {f : Addr} {fd : FuncData} (T : Txt K mg) (G : Al P w K mg base (run k) k) (F : Fun K "check_format" "check_format" (topS 14) f fd) : FnOk P w K mg base (L2.CX P w) (k + 1) f fd ["value"] (spM K mg 1 (m_check_format (run k))) := by
  have sc := sc_check_format
  refine fn_ok F sc rfl rfl fun cdv A outer s H Ex hr => ?_
  have tk := takes_of (X := cxOf (L2.CX P w) P w K mg base N_check_format "check_format" (defScope (topS 14)) f cdv A outer s H Ex) rfl rfl rfl rfl
  exact (mss_one (ms_if (mt_not (mt_val (me_call G.c_is_format hr (by rfl) tk (ma_cons (me_var 0) ma_nil))))
    (mss_one ms_never)
    mss_nil))
end FT
end
section
set_option maxRecDepth 100000
set_option maxHeartbeats 2000000
namespace FT
open PySem L2
set_option autoImplicit false
variable {P : Program} {w : World} {K : PySem.W.Frag} {mg : Str → Option Value} {base : Heap}
abbrev N_check_record : List Str := ["form", "record"]
theorem sc_check_record : FnScope N_check_record ["form", "record"] (defScope (topS 19)) := ⟨rfl, rfl, rfl, by decide +kernel, rfl, by decide +kernel, by decide +kernel⟩
theorem d_check_record {k : Nat} {f : Addr} {fd : FuncData} (T : Txt K mg) (G : Al P w K mg base (run k) k) (F : Fun K "check_record" "check_record" (topS 19) f fd) : FnOk P w K mg base (L2.CX P w) (k + 1) f fd ["form", "record"] (spM K mg 2 (m_check_record (run k))) := by
  have sc := sc_check_record
  refine fn_ok F sc rfl rfl fun cdv A outer s H Ex hr => ?_
  have tk := takes_of (X := cxOf (L2.CX P w) P w K mg base N_check_record "check_record" (defScope (topS 19)) f cdv A outer s H Ex) rfl rfl rfl rfl
  exact (mss_one (ms_if (mt_not (mt_val (me_call G.c_is_listed hr (by rfl) tk (ma_cons (me_var 0) (ma_cons (me_var 1) ma_nil)))))
    (mss_one ms_never)
    mss_nil))
end FT
end
section
set_option maxRecDepth 100000
set_option maxHeartbeats 2000000
namespace FT
open PySem L2
set_option autoImplicit false
variable {P : Program} {w : World} {K : PySem.W.Frag} {mg : Str → Option Value} {base : Heap}
abbrev N_is_between : List Str := ["value", "low", "high"]
theorem sc_is_between : FnScope N_is_between ["value", "low", "high"] (defScope (topS 8)) := ⟨rfl, rfl, rfl, by decide +kernel, rfl, by decide +kernel, by decide +kernel⟩
theorem d_is_between {k : Nat} {f : Addr} {fd : FuncData} (T : Txt K mg) (G : Al P w K mg base (run k) k) (F : Fun K "is_between" "is_between" (topS 8) f fd) : FnOk P w K mg base (L2.CX P w) (k + 1) f fd ["value", "low", "high"] (spM K mg 3 (m_is_between (run k))) := by
  have sc := sc_is_between
  refine fn_ok F sc rfl rfl fun cdv A outer s H Ex hr => ?_
  have tk := takes_of (X := cxOf (L2.CX P w) P w K mg base N_is_between "is_between" (defScope (topS 8)) f cdv A outer s H Ex) rfl rfl rfl rfl
  exact (mss_one (ms_ret (me_and (me_callB call_isi v_isi (by rfl) T.b_isinstance (by decide +kernel) (ma_cons (me_var 0) (ma_cons (me_ty 0 (by rfl) T.b_int (by decide +kernel)) ma_nil))) (me_and (me_not (me_callB call_isi v_isi (by rfl) T.b_isinstance (by decide +kernel) (ma_cons (me_var 0) (ma_cons (me_ty 1 (by rfl) T.b_bool (by decide +kernel)) ma_nil)))) (me_one (me_chain p_le p_le (me_var 1) (me_var 0) (me_var 2)))))))
end FT
end
section
set_option maxRecDepth 100000
set_option maxHeartbeats 2000000
namespace FT
open PySem L2
set_option autoImplicit false
variable {P : Program} {w : World} {K : PySem.W.Frag} {mg : Str → Option Value} {base : Heap}
abbrev N_is_field : List Str := ["value"]
theorem sc_is_field : FnScope N_is_field ["value"] (defScope (topS 12)) := ⟨rfl, rfl, rfl, by decide +kernel, rfl, by decide +kernel, by decide +kernel⟩
theorem d_is_field {k : Nat} {f : Addr} {fd : FuncData} (T : Txt K mg) (G : Al P w K mg base (run k) k) (F : Fun K "is_field" "is_field" (topS 12) f fd) : FnOk P w K mg base (L2.CX P w) (k + 1) f fd ["value"] (spM K mg 1 (m_is_field (run k))) := by
  have sc := sc_is_field
  refine fn_ok F sc rfl rfl fun cdv A outer s H Ex hr => ?_
  have tk := takes_of (X := cxOf (L2.CX P w) P w K mg base N_is_field "is_field" (defScope (topS 12)) f cdv A outer s H Ex) rfl rfl rfl rfl
  exact (mss_cons (ms_if (mt_w (mw_and (mt_val (me_callB call_isi v_isi (by rfl) T.b_isinstance (by decide +kernel) (ma_cons (me_var 0) (ma_cons (me_ty 3 (by rfl) T.b_tuple (by decide +kernel)) ma_nil)))) (mw_and (mt_cmp (p_eq (hu64 hr)) (me_callB call_lenM v_len (by rfl) T.b_len (by decide +kernel) (ma_cons (me_var 0) ma_nil)) me_int) (mw_and (mt_val (me_callB call_isi v_isi (by rfl) T.b_isinstance (by decide +kernel) (ma_cons (me_ix (me_var 0) me_int) (ma_cons (me_ty 2 (by rfl) T.b_str (by decide +kernel)) ma_nil)))) (mw_and1 (mt_cmp (p_eq (hu64 hr)) (me_ix (me_var 0) me_int) me_str))))))
    (mss_one (ms_ret (me_and (me_call G.c_is_simple hr (by rfl) tk (ma_cons (me_ix (me_var 0) me_int) ma_nil)) (me_one (me_call G.c_is_span hr (by rfl) tk (ma_cons (me_ix (me_var 0) me_int) (ma_cons (me_ix (me_var 0) me_int) (ma_cons me_int (ma_cons me_int ma_nil)))))))))
    mss_nil)
    (mss_one (ms_ret (me_call G.c_is_simple hr (by rfl) tk (ma_cons (me_var 0) ma_nil)))))
end FT
end
section
set_option maxRecDepth 100000
set_option maxHeartbeats 2000000
namespace FT
open PySem L2
set_option autoImplicit false
variable {P : Program} {w : World} {K : PySem.W.Frag} {mg : Str → Option Value} {base : Heap}
abbrev N_is_format : List Str := ["value", "field"]
theorem sc_is_format : FnScope N_is_format ["value"] (defScope (topS 13)) := ⟨rfl, rfl, rfl, by decide +kernel, rfl, by decide +kernel, by decide +kernel⟩
theorem d_is_format {k : Nat} {f : Addr} {fd : FuncData} (T : Txt K mg) (G : Al P w K mg base (run k) k) (F : Fun K "is_format" "is_format" (topS 13) f fd) : FnOk P w K mg base (L2.CX P w) (k + 1) f fd ["value"] (spM K mg 1 (m_is_format (run k))) := by
  have sc := sc_is_format
  refine fn_ok F sc rfl rfl fun cdv A outer s H Ex hr => ?_
  have tk := takes_of (X := cxOf (L2.CX P w) P w K mg base N_is_format "is_format" (defScope (topS 13)) f cdv A outer s H Ex) rfl rfl rfl rfl
  exact (mss_one (ms_ret (me_and (me_callB call_isi v_isi (by rfl) T.b_isinstance (by decide +kernel) (ma_cons (me_var 0) (ma_cons (me_ty 3 (by rfl) T.b_tuple (by decide +kernel)) ma_nil))) (me_and (me_chain p_le p_le me_int (me_callB call_lenM v_len (by rfl) T.b_len (by decide +kernel) (ma_cons (me_var 0) ma_nil)) me_int) (me_one (me_callL (cr_all rfl) l_all (by rfl) T.b_all (by decide +kernel) (ml_lc (own' := [("field", 1)]) rfl sc.nd (mi_val (me_var 0)) (blkOk_by (N := N_is_format) (sc := defScope (topS 13)) (by decide +kernel)) (by decide) (fun _ _ _ _ _ => (mg_name (i := 1) sc.nd rfl (by first | exact Or.inl rfl | exact Or.inr rfl))) (fun _ _ _ _ _ => mts_nil) (fun _ _ _ _ _ => (me_call G.c_is_field hr (by rfl) takes0 (ma_cons (me_var 1) ma_nil))))))))))
end FT
end
section
set_option maxRecDepth 100000
set_option maxHeartbeats 2000000
namespace FT
open PySem L2
set_option autoImplicit false
variable {P : Program} {w : World} {K : PySem.W.Frag} {mg : Str → Option Value} {base : Heap}
abbrev N_is_listed : List Str := ["form", "value", "field", "part"]
theorem sc_is_listed : FnScope N_is_listed ["form", "value"] (defScope (topS 17)) := ⟨rfl, rfl, rfl, by decide +kernel, rfl, by decide +kernel, by decide +kernel⟩
theorem d_is_listed {k : Nat} {f : Addr} {fd : FuncData} (T : Txt K mg) (G : Al P w K mg base (run k) k) (F : Fun K "is_listed" "is_listed" (topS 17) f fd) : FnOk P w K mg base (L2.CX P w) (k + 1) f fd ["form", "value"] (spM K mg 2 (m_is_listed (run k))) := by
  have sc := sc_is_listed
  refine fn_ok F sc rfl rfl fun cdv A outer s H Ex hr => ?_
  have tk := takes_of (X := cxOf (L2.CX P w) P w K mg base N_is_listed "is_listed" (defScope (topS 17)) f cdv A outer s H Ex) rfl rfl rfl rfl
  exact (mss_cons (ms_if (mt_w (mw_or (mt_not (mt_val (me_callB call_isi v_isi (by rfl) T.b_isinstance (by decide +kernel) (ma_cons (me_var 1) (ma_cons (me_ty 3 (by rfl) T.b_tuple (by decide +kernel)) ma_nil))))) (mw_or1 (mt_cmp (p_ne (hu64 hr)) (me_callB call_lenM v_len (by rfl) T.b_len (by decide +kernel) (ma_cons (me_var 1) ma_nil)) (me_callB call_lenM v_len (by rfl) T.b_len (by decide +kernel) (ma_cons (me_var 0) ma_nil))))))
    (mss_one (ms_ret me_bl))
    mss_nil)
    (mss_one (ms_ret (me_callL (cr_all rfl) l_all (by rfl) T.b_all (by decide +kernel) (ml_lc (own' := [("field", 2), ("part", 3)]) rfl sc.nd (mi_zipT (by rfl) T.b_zip (ma_cons (me_var 0) (ma_cons (me_var 1) ma_nil))) (blkOk_by (N := N_is_listed) (sc := defScope (topS 17)) (by decide +kernel)) (by decide) (fun _ _ _ _ _ => (mg_tup rfl (pgs_cons (pg_name (i := 2) sc.nd rfl (by first | exact Or.inl rfl | exact Or.inr rfl)) (pgs_cons (pg_name (i := 3) sc.nd rfl (by first | exact Or.inl rfl | exact Or.inr rfl)) pgs_nil)))) (fun _ _ _ _ _ => mts_nil) (fun _ _ _ _ _ => (me_call G.c_is_value hr (by rfl) takes0 (ma_cons (me_var 2) (ma_cons (me_var 3) ma_nil)))))))))
end FT
end
section
set_option maxRecDepth 100000
set_option maxHeartbeats 2000000
namespace FT
open PySem L2
set_option autoImplicit false
variable {P : Program} {w : World} {K : PySem.W.Frag} {mg : Str → Option Value} {base : Heap}
abbrev N_is_record : List Str := ["form", "value"]
theorem sc_is_record : FnScope N_is_record ["form", "value"] (defScope (topS 18)) := ⟨rfl, rfl, rfl, by decide +kernel, rfl, by decide +kernel, by decide +kernel⟩
theorem d_is_record {k : Nat} {f : Addr} {fd : FuncData} (T : Txt K mg) (G : Al P w K mg base (run k) k) (F : Fun K "is_record" "is_record" (topS 18) f fd) : FnOk P w K mg base (L2.CX P w) (k + 1) f fd ["form", "value"] (spM K mg 2 (m_is_record (run k))) := by
  have sc := sc_is_record
  refine fn_ok F sc rfl rfl fun cdv A outer s H Ex hr => ?_
  have tk := takes_of (X := cxOf (L2.CX P w) P w K mg base N_is_record "is_record" (defScope (topS 18)) f cdv A outer s H Ex) rfl rfl rfl rfl
  exact (mss_cons (ms_expr (me_call G.c_check_format hr (by rfl) tk (ma_cons (me_var 0) ma_nil)))
    (mss_one (ms_ret (me_call G.c_is_listed hr (by rfl) tk (ma_cons (me_var 0) (ma_cons (me_var 1) ma_nil))))))
end FT
end
section
set_option maxRecDepth 100000
set_option maxHeartbeats 2000000
namespace FT
open PySem L2
set_option autoImplicit false
variable {P : Program} {w : World} {K : PySem.W.Frag} {mg : Str → Option Value} {base : Heap}
abbrev N_is_simple : List Str := ["value", "texts", "text", "k"]
theorem sc_is_simple : FnScope N_is_simple ["value"] (defScope (topS 11)) := ⟨rfl, rfl, rfl, by decide +kernel, rfl, by decide +kernel, by decide +kernel⟩
theorem d_is_simple {k : Nat} {f : Addr} {fd : FuncData} (T : Txt K mg) (G : Al P w K mg base (run k) k) (F : Fun K "is_simple" "is_simple" (topS 11) f fd) : FnOk P w K mg base (L2.CX P w) (k + 1) f fd ["value"] (spM K mg 1 (m_is_simple (run k))) := by
  have sc := sc_is_simple
  refine fn_ok F sc rfl rfl fun cdv A outer s H Ex hr => ?_
  have tk := takes_of (X := cxOf (L2.CX P w) P w K mg base N_is_simple "is_simple" (defScope (topS 11)) f cdv A outer s H Ex) rfl rfl rfl rfl
  exact (mss_cons (ms_if (mt_w (mw_or (mt_not (mt_val (me_callB call_isi v_isi (by rfl) T.b_isinstance (by decide +kernel) (ma_cons (me_var 0) (ma_cons (me_ty 3 (by rfl) T.b_tuple (by decide +kernel)) ma_nil))))) (mw_or (mt_not (mt_chain p_le p_le me_int (me_callB call_lenM v_len (by rfl) T.b_len (by decide +kernel) (ma_cons (me_var 0) ma_nil)) me_int)) (mw_or1 (mt_not (mt_val (me_callB call_isi v_isi (by rfl) T.b_isinstance (by decide +kernel) (ma_cons (me_ix (me_var 0) me_int) (ma_cons (me_ty 2 (by rfl) T.b_str (by decide +kernel)) ma_nil)))))))))
    (mss_one (ms_ret me_bl))
    mss_nil)
    (mss_cons (ms_if (mt_cmp (p_eq (hu64 hr)) (me_callB call_lenM v_len (by rfl) T.b_len (by decide +kernel) (ma_cons (me_var 0) ma_nil)) me_int)
    (mss_one (ms_ret (me_and (me_cmp (p_in (hu65 hr)) (me_ix (me_var 0) me_int) (me_tup (ma_cons me_str (ma_cons me_str ma_nil)))) (me_one (me_call G.c_is_span hr (by rfl) tk (ma_cons (me_ix (me_var 0) me_int) (ma_cons (me_ix (me_var 0) me_int) (ma_cons me_int (ma_cons me_int ma_nil)))))))))
    mss_nil)
    (mss_cons (ms_if (mt_cmp (p_eq (hu64 hr)) (me_ix (me_var 0) me_int) me_str)
    (mss_one (ms_ret (me_call G.c_is_text hr (by rfl) tk (ma_cons (me_ix (me_var 0) me_int) (ma_cons me_int (ma_cons me_int ma_nil))))))
    mss_nil)
    (mss_cons (ms_if (mt_cmp (p_eq (hu64 hr)) (me_ix (me_var 0) me_int) me_str)
    (mss_one (ms_ret (me_call G.c_is_between hr (by rfl) tk (ma_cons (me_ix (me_var 0) me_int) (ma_cons me_int (ma_cons me_int ma_nil))))))
    mss_nil)
    (mss_cons (ms_if (mt_w (mw_or (mt_cmp (p_ne (hu64 hr)) (me_ix (me_var 0) me_int) me_str) (mw_or (mt_not (mt_val (me_callB call_isi v_isi (by rfl) T.b_isinstance (by decide +kernel) (ma_cons (me_ix (me_var 0) me_int) (ma_cons (me_ty 3 (by rfl) T.b_tuple (by decide +kernel)) ma_nil))))) (mw_or1 (mt_not (mt_chain p_le p_le me_int (me_callB call_lenM v_len (by rfl) T.b_len (by decide +kernel) (ma_cons (me_ix (me_var 0) me_int) ma_nil)) me_int))))))
    (mss_one (ms_ret me_bl))
    mss_nil)
    (mss_cons (ms_set (i := 1) sc.nd rfl (by first | exact Or.inl rfl | exact Or.inr rfl) (me_ix (me_var 0) me_int))
    (mss_cons (ms_if (mt_not (mt_val (me_callL (cr_all rfl) l_all (by rfl) T.b_all (by decide +kernel) (ml_lc (own' := [("text", 2)]) rfl sc.nd (mi_val (me_var 1)) (blkOk_by (N := N_is_simple) (sc := defScope (topS 11)) (by decide +kernel)) (by decide) (fun _ _ _ _ _ => (mg_name (i := 2) sc.nd rfl (by first | exact Or.inl rfl | exact Or.inr rfl))) (fun _ _ _ _ _ => mts_nil) (fun _ _ _ _ _ => (me_call G.c_is_text hr (by rfl) takes0 (ma_cons (me_var 2) (ma_cons me_int (ma_cons me_int ma_nil)))))))))
    (mss_one (ms_ret me_bl))
    mss_nil)
    (mss_one (ms_ret (me_callL (cr_all rfl) l_all (by rfl) T.b_all (by decide +kernel) (ml_lc (own' := [("k", 3)]) rfl sc.nd (mi_range1 (by rfl) T.b_range (ma_cons (me_op p_sub (me_callB call_lenM v_len (by rfl) T.b_len (by decide +kernel) (ma_cons (me_var 1) ma_nil)) me_int) ma_nil)) (blkOk_by (N := N_is_simple) (sc := defScope (topS 11)) (by decide +kernel)) (by decide) (fun _ _ _ _ _ => (mg_name (i := 3) sc.nd rfl (by first | exact Or.inl rfl | exact Or.inr rfl))) (fun _ _ _ _ _ => mts_nil) (fun _ _ _ _ _ => (me_cmp p_lt (me_ix (me_var 1) (me_var 3)) (me_ix (me_var 1) (me_op p_add (me_var 3) me_int)))))))))))))))
end FT
end
section
set_option maxRecDepth 100000
set_option maxHeartbeats 2000000
namespace FT
open PySem L2
set_option autoImplicit false
variable {P : Program} {w : World} {K : PySem.W.Frag} {mg : Str → Option Value} {base : Heap}
abbrev N_is_span : List Str := ["low", "high", "least", "most"]
theorem sc_is_span : FnScope N_is_span ["low", "high", "least", "most"] (defScope (topS 10)) := ⟨rfl, rfl, rfl, by decide +kernel, rfl, by decide +kernel, by decide +kernel⟩
theorem d_is_span {k : Nat} {f : Addr} {fd : FuncData} (T : Txt K mg) (G : Al P w K mg base (run k) k) (F : Fun K "is_span" "is_span" (topS 10) f fd) : FnOk P w K mg base (L2.CX P w) (k + 1) f fd ["low", "high", "least", "most"] (spM K mg 4 (m_is_span (run k))) := by
  have sc := sc_is_span
  refine fn_ok F sc rfl rfl fun cdv A outer s H Ex hr => ?_
  have tk := takes_of (X := cxOf (L2.CX P w) P w K mg base N_is_span "is_span" (defScope (topS 10)) f cdv A outer s H Ex) rfl rfl rfl rfl
  exact (mss_one (ms_ret (me_and (me_call G.c_is_between hr (by rfl) tk (ma_cons (me_var 0) (ma_cons me_int (ma_cons (me_var 3) ma_nil)))) (me_and (me_call G.c_is_between hr (by rfl) tk (ma_cons (me_var 1) (ma_cons (me_var 2) (ma_cons (me_var 3) ma_nil)))) (me_one (me_cmp p_le (me_var 0) (me_var 1)))))))
end FT
end
section
set_option maxRecDepth 100000
set_option maxHeartbeats 2000000
namespace FT
open PySem L2
set_option autoImplicit false
variable {P : Program} {w : World} {K : PySem.W.Frag} {mg : Str → Option Value} {base : Heap}
abbrev N_is_text : List Str := ["value", "low", "high", "sign"]
theorem sc_is_text : FnScope N_is_text ["value", "low", "high"] (defScope (topS 9)) := ⟨rfl, rfl, rfl, by decide +kernel, rfl, by decide +kernel, by decide +kernel⟩
theorem d_is_text {k : Nat} {f : Addr} {fd : FuncData} (T : Txt K mg) (G : Al P w K mg base (run k) k) (F : Fun K "is_text" "is_text" (topS 9) f fd) : FnOk P w K mg base (L2.CX P w) (k + 1) f fd ["value", "low", "high"] (spM K mg 3 (m_is_text (run k))) := by
  have sc := sc_is_text
  refine fn_ok F sc rfl rfl fun cdv A outer s H Ex hr => ?_
  have tk := takes_of (X := cxOf (L2.CX P w) P w K mg base N_is_text "is_text" (defScope (topS 9)) f cdv A outer s H Ex) rfl rfl rfl rfl
  exact (mss_one (ms_ret (me_and (me_callB call_isi v_isi (by rfl) T.b_isinstance (by decide +kernel) (ma_cons (me_var 0) (ma_cons (me_ty 2 (by rfl) T.b_str (by decide +kernel)) ma_nil))) (me_and (me_chain p_le p_le (me_var 1) (me_callB call_lenM v_len (by rfl) T.b_len (by decide +kernel) (ma_cons (me_var 0) ma_nil)) (me_var 2)) (me_one (me_callL (cr_all rfl) l_all (by rfl) T.b_all (by decide +kernel) (ml_lc (own' := [("sign", 3)]) rfl sc.nd (mi_val (me_var 0)) (blkOk_by (N := N_is_text) (sc := defScope (topS 9)) (by decide +kernel)) (by decide) (fun _ _ _ _ _ => (mg_name (i := 3) sc.nd rfl (by first | exact Or.inl rfl | exact Or.inr rfl))) (fun _ _ _ _ _ => mts_nil) (fun _ _ _ _ _ => (me_cmp (p_in (hu65 hr)) (me_var 3) (me_gstr (by rfl) T.c_SIGNS.choose_spec))))))))))
end FT
end
section
set_option maxRecDepth 100000
set_option maxHeartbeats 2000000
namespace FT
open PySem L2
set_option autoImplicit false
variable {P : Program} {w : World} {K : PySem.W.Frag} {mg : Str → Option Value} {base : Heap}
abbrev N_is_value : List Str := ["field", "value", "part"]
theorem sc_is_value : FnScope N_is_value ["field", "value"] (defScope (topS 16)) := ⟨rfl, rfl, rfl, by decide +kernel, rfl, by decide +kernel, by decide +kernel⟩
theorem d_is_value {k : Nat} {f : Addr} {fd : FuncData} (T : Txt K mg) (G : Al P w K mg base (run k) k) (F : Fun K "is_value" "is_value" (topS 16) f fd) : FnOk P w K mg base (L2.CX P w) (k + 1) f fd ["field", "value"] (spM K mg 2 (m_is_value (run k))) := by
  have sc := sc_is_value
  refine fn_ok F sc rfl rfl fun cdv A outer s H Ex hr => ?_
  have tk := takes_of (X := cxOf (L2.CX P w) P w K mg base N_is_value "is_value" (defScope (topS 16)) f cdv A outer s H Ex) rfl rfl rfl rfl
  exact (mss_cons (ms_if (mt_cmp (p_eq (hu64 hr)) (me_ix (me_var 0) me_int) me_str)
    (mss_one (ms_ret (me_and (me_callB call_isi v_isi (by rfl) T.b_isinstance (by decide +kernel) (ma_cons (me_var 1) (ma_cons (me_ty 2 (by rfl) T.b_str (by decide +kernel)) ma_nil))) (me_one (me_cmp (p_eq (hu64 hr)) (me_var 1) (me_ix (me_var 0) me_int))))))
    mss_nil)
    (mss_cons (ms_if (mt_cmp (p_eq (hu64 hr)) (me_ix (me_var 0) me_int) me_str)
    (mss_one (ms_ret (me_and (me_callB call_isi v_isi (by rfl) T.b_isinstance (by decide +kernel) (ma_cons (me_var 1) (ma_cons (me_ty 2 (by rfl) T.b_str (by decide +kernel)) ma_nil))) (me_one (me_cmp (p_in (hu65 hr)) (me_var 1) (me_ix (me_var 0) me_int))))))
    mss_nil)
    (mss_cons (ms_if (mt_cmp (p_eq (hu64 hr)) (me_ix (me_var 0) me_int) me_str)
    (mss_one (ms_ret (me_call G.c_is_between hr (by rfl) tk (ma_cons (me_var 1) (ma_cons me_int (ma_cons (me_ix (me_tup (ma_cons me_int (ma_cons me_int (ma_cons me_int (ma_cons me_int ma_nil))))) (me_op p_sub (me_ix (me_var 0) me_int) me_int)) ma_nil))))))
    mss_nil)
    (mss_cons (ms_if (mt_cmp (p_eq (hu64 hr)) (me_ix (me_var 0) me_int) me_str)
    (mss_cons (ms_if (mt_w (mw_or (mt_not (mt_val (me_callB call_isi v_isi (by rfl) T.b_isinstance (by decide +kernel) (ma_cons (me_var 1) (ma_cons (me_ty 3 (by rfl) T.b_tuple (by decide +kernel)) ma_nil))))) (mw_or1 (mt_not (mt_chain p_le p_le (me_ix (me_var 0) me_int) (me_callB call_lenM v_len (by rfl) T.b_len (by decide +kernel) (ma_cons (me_var 1) ma_nil)) (me_ix (me_var 0) me_int))))))
    (mss_one (ms_ret me_bl))
    mss_nil)
    (mss_one (ms_ret (me_callL (cr_all rfl) l_all (by rfl) T.b_all (by decide +kernel) (ml_lc (own' := [("part", 2)]) rfl sc.nd (mi_val (me_var 1)) (blkOk_by (N := N_is_value) (sc := defScope (topS 16)) (by decide +kernel)) (by decide) (fun _ _ _ _ _ => (mg_name (i := 2) sc.nd rfl (by first | exact Or.inl rfl | exact Or.inr rfl))) (fun _ _ _ _ _ => mts_nil) (fun _ _ _ _ _ => (me_call G.c_is_value hr (by rfl) takes0 (ma_cons (me_ix (me_var 0) me_int) (ma_cons (me_var 2) ma_nil)))))))))
    mss_nil)
    (mss_one (ms_ret (me_and (me_call G.c_only hr (by rfl) tk (ma_cons (me_var 1) (ma_cons (me_if (mt_cmp (p_eq (hu64 hr)) (me_ix (me_var 0) me_int) me_str) (me_gstr (by rfl) T.c_DIGITS.choose_spec) (me_gstr (by rfl) T.c_LETTERS.choose_spec)) ma_nil))) (me_one (me_chain p_le p_le (me_ix (me_var 0) me_int) (me_callB call_lenM v_len (by rfl) T.b_len (by decide +kernel) (ma_cons (me_var 1) ma_nil)) (me_ix (me_var 0) me_int))))))))))
end FT
end
section
set_option maxRecDepth 100000
set_option maxHeartbeats 2000000
namespace FT
open PySem L2
set_option autoImplicit false
variable {P : Program} {w : World} {K : PySem.W.Frag} {mg : Str → Option Value} {base : Heap}
abbrev N_law : List Str := ["script", "town", "form", "record", "text", "low", "high", "others", "k", "at", "other", "changed", "bads", "field", "bad"]
theorem sc_law : FnScope N_law ["script"] (defScope (topS 40)) := ⟨rfl, rfl, rfl, by decide +kernel, rfl, by decide +kernel, by decide +kernel⟩
theorem d_law {k : Nat} {f : Addr} {fd : FuncData} (T : Txt K mg) (G : Al P w K mg base (run k) k) (F : Fun K "law" "law" (topS 40) f fd) : FnOk P w K mg base (L2.CX P w) (k + 1) f fd ["script"] (spM K mg 1 (m_law (run k))) := by
  have sc := sc_law
  refine fn_ok F sc rfl rfl fun cdv A outer s H Ex hr => ?_
  have tk := takes_of (X := cxOf (L2.CX P w) P w K mg base N_law "law" (defScope (topS 40)) f cdv A outer s H Ex) rfl rfl rfl rfl
  exact (mss_cons (ms_set (i := 1) sc.nd rfl (by first | exact Or.inl rfl | exact Or.inr rfl) (me_call G.c__law_town hr (by rfl) tk (ma_cons (me_var 0) ma_nil)))
    (mss_cons (ms_set (i := 2) sc.nd rfl (by first | exact Or.inl rfl | exact Or.inr rfl) (me_call G.c__law_form hr (by rfl) tk (ma_cons (me_var 0) (ma_cons (me_var 1) (ma_cons me_int (ma_cons me_int ma_nil))))))
    (mss_cons (ms_set (i := 3) sc.nd rfl (by first | exact Or.inl rfl | exact Or.inr rfl) (me_call G.c__law_record hr (by rfl) tk (ma_cons (me_var 0) (ma_cons (me_var 1) (ma_cons (me_var 2) ma_nil)))))
    (mss_cons (ms_set (i := 4) sc.nd rfl (by first | exact Or.inl rfl | exact Or.inr rfl) (me_call G.c__law_text hr (by rfl) tk (ma_cons (me_var 3) ma_nil)))
    (mss_cons (ms_if (mt_w (mw_or (mt_cmp p_isNot (me_call G.c_is_record hr (by rfl) tk (ma_cons (me_var 2) (ma_cons (me_var 3) ma_nil))) me_bl) (mw_or1 (mt_cmp (p_ne (hu64 hr)) (me_call G.c_text_of hr (by rfl) tk (ma_cons (me_var 2) (ma_cons (me_var 3) ma_nil))) (me_var 4)))))
    (mss_one (ms_ret me_bl))
    mss_nil)
    (mss_cons (ms_set (i := 5) sc.nd rfl (by first | exact Or.inl rfl | exact Or.inr rfl) (me_callL (cr_sum rfl) l_sum (by rfl) T.b_sum (by decide +kernel) (ml_lc (own' := [("field", 13)]) rfl sc.nd (mi_val (me_var 2)) (blkOk_by (N := N_law) (sc := defScope (topS 40)) (by decide +kernel)) (by decide) (fun _ _ _ _ _ => (mg_name (i := 13) sc.nd rfl (by first | exact Or.inl rfl | exact Or.inr rfl))) (fun _ _ _ _ _ => mts_nil) (fun _ _ _ _ _ => (me_ix (me_call G.c__law_lengths hr (by rfl) takes0 (ma_cons (me_var 13) ma_nil)) me_int)))))
    (mss_cons (ms_set (i := 6) sc.nd rfl (by first | exact Or.inl rfl | exact Or.inr rfl) (me_callL (cr_sum rfl) l_sum (by rfl) T.b_sum (by decide +kernel) (ml_lc (own' := [("field", 13)]) rfl sc.nd (mi_val (me_var 2)) (blkOk_by (N := N_law) (sc := defScope (topS 40)) (by decide +kernel)) (by decide) (fun _ _ _ _ _ => (mg_name (i := 13) sc.nd rfl (by first | exact Or.inl rfl | exact Or.inr rfl))) (fun _ _ _ _ _ => mts_nil) (fun _ _ _ _ _ => (me_ix (me_call G.c__law_lengths hr (by rfl) takes0 (ma_cons (me_var 13) ma_nil)) me_int)))))
    (mss_cons (ms_if (mt_w (mw_or (mt_cmp (p_ne (hu64 hr)) (me_call G.c_shortest_length hr (by rfl) tk (ma_cons (me_var 2) ma_nil)) (me_var 5)) (mw_or (mt_cmp (p_ne (hu64 hr)) (me_call G.c_longest_length hr (by rfl) tk (ma_cons (me_var 2) ma_nil)) (me_var 6)) (mw_or1 (mt_not (mt_chain p_le p_le (me_var 5) (me_callB call_lenM v_len (by rfl) T.b_len (by decide +kernel) (ma_cons (me_var 4) ma_nil)) (me_var 6)))))))
    (mss_one (ms_ret me_bl))
    mss_nil)
    (mss_cons (ms_set (i := 7) sc.nd rfl (by first | exact Or.inl rfl | exact Or.inr rfl) (me_alloc (ml_lst (ma_cons me_non (ma_cons me_int (ma_cons me_int (ma_cons me_negC (ma_cons me_int (ma_cons me_bl (ma_cons me_str (ma_cons me_str (ma_cons me_str (ma_cons me_str (ma_cons me_str (ma_cons me_str (ma_cons (me_tup ma_nil) (ma_cons (me_tup (ma_cons me_str ma_nil)) (ma_cons (me_tup (ma_cons me_str (ma_cons me_str ma_nil))) (ma_cons (me_tup (ma_cons me_int ma_nil)) (ma_cons (me_alloc (ml_lst (ma_cons me_int ma_nil))) ma_nil))))))))))))))))))))
    (mss_cons (ms_set (i := 7) sc.nd rfl (by first | exact Or.inl rfl | exact Or.inr rfl) (me_alloc (ml_catOL (me_var 7) (ml_lst (ma_cons (me_op p_mul (me_tup (ma_cons me_str ma_nil)) me_int) (ma_cons me_str ma_nil))))))
    (mss_cons (ms_for (passes_of rfl) rfl (mi_range1 (by rfl) T.b_range (ma_cons me_int ma_nil)) (mg_name (i := 8) sc.nd rfl (by first | exact Or.inl rfl | exact Or.inr rfl))
    (mss_cons (ms_set (i := 9) sc.nd rfl (by first | exact Or.inl rfl | exact Or.inr rfl) (me_call G.c__law_draw hr (by rfl) tk (ma_cons (me_var 0) (ma_cons (me_var 1) (ma_cons (me_callB call_lenM v_len (by rfl) T.b_len (by decide +kernel) (ma_cons (me_var 2) ma_nil)) ma_nil)))))
    (mss_cons (ms_set (i := 10) sc.nd rfl (by first | exact Or.inl rfl | exact Or.inr rfl) (me_call G.c__law_pick hr (by rfl) tk (ma_cons (me_var 0) (ma_cons (me_var 1) (ma_cons (me_var 7) ma_nil)))))
    (mss_cons (ms_if (mt_cmp (p_eq (hu64 hr)) (me_call G.c__law_draw hr (by rfl) tk (ma_cons (me_var 0) (ma_cons (me_var 1) (ma_cons me_int ma_nil)))) me_int)
    (mss_one (ms_set (i := 10) sc.nd rfl (by first | exact Or.inl rfl | exact Or.inr rfl) (me_call G.c__law_value hr (by rfl) tk (ma_cons (me_var 0) (ma_cons (me_var 1) (ma_cons (me_call G.c__law_pick hr (by rfl) tk (ma_cons (me_var 0) (ma_cons (me_var 1) (ma_cons (me_var 2) ma_nil)))) ma_nil))))))
    mss_nil)
    (mss_cons (ms_set (i := 11) sc.nd rfl (by first | exact Or.inl rfl | exact Or.inr rfl) (me_op p_add (me_op p_add (me_sl (me_var 3) mo_none (mo_some (me_var 9))) (me_tup (ma_cons (me_var 10) ma_nil))) (me_sl (me_var 3) (mo_some (me_op p_add (me_var 9) me_int)) mo_none)))
    (mss_one (ms_if (mt_cmp (p_ne (hu64 hr)) (me_call G.c_is_record hr (by rfl) tk (ma_cons (me_var 2) (ma_cons (me_var 11) ma_nil))) (me_call G.c__law_is_value hr (by rfl) tk (ma_cons (me_ix (me_var 2) (me_var 9)) (ma_cons (me_var 10) ma_nil))))
    (mss_one (ms_ret me_bl))
    mss_nil)))))))
    (mss_cons (ms_set (i := 12) sc.nd rfl (by first | exact Or.inl rfl | exact Or.inr rfl) (me_alloc (ml_lst (ma_cons me_non (ma_cons me_int (ma_cons (me_tup ma_nil) (ma_cons (me_alloc (ml_list rfl (by rfl) T.b_list (by decide +kernel) (ma_cons (me_var 3) ma_nil))) (ma_cons (me_op p_add (me_var 3) (me_sl (me_var 3) mo_none (mo_some me_int))) (ma_cons (me_sl (me_var 3) (mo_some me_int) mo_none) (ma_cons (me_var 4) ma_nil))))))))))
    (mss_one (ms_ret (me_eqNilL (hu64 hr) (ml_lc (own' := [("bad", 14)]) rfl sc.nd (mi_val (me_var 12)) (blkOk_by (N := N_law) (sc := defScope (topS 40)) (by decide +kernel)) (by decide) (fun _ _ _ _ _ => (mg_name (i := 14) sc.nd rfl (by first | exact Or.inl rfl | exact Or.inr rfl))) (fun _ _ _ _ _ => (mts_one (mt_cmp p_isNot (me_call G.c_is_record hr (by rfl) takes0 (ma_cons (me_var 2) (ma_cons (me_var 14) ma_nil))) me_bl))) (fun _ _ _ _ _ => (me_var 14))))))))))))))))))
end FT
end
section
set_option maxRecDepth 100000
set_option maxHeartbeats 2000000
namespace FT
open PySem L2
set_option autoImplicit false
variable {P : Program} {w : World} {K : PySem.W.Frag} {mg : Str → Option Value} {base : Heap}
abbrev N_longest_length : List Str := ["form", "field"]
theorem sc_longest_length : FnScope N_longest_length ["form"] (defScope (topS 24)) := ⟨rfl, rfl, rfl, by decide +kernel, rfl, by decide +kernel, by decide +kernel⟩
theorem d_longest_length {k : Nat} {f : Addr} {fd : FuncData} (T : Txt K mg) (G : Al P w K mg base (run k) k) (F : Fun K "longest_length" "longest_length" (topS 24) f fd) : FnOk P w K mg base (L2.CX P w) (k + 1) f fd ["form"] (spM K mg 1 (m_longest_length (run k))) := by
  have sc := sc_longest_length
  refine fn_ok F sc rfl rfl fun cdv A outer s H Ex hr => ?_
  have tk := takes_of (X := cxOf (L2.CX P w) P w K mg base N_longest_length "longest_length" (defScope (topS 24)) f cdv A outer s H Ex) rfl rfl rfl rfl
  exact (mss_cons (ms_expr (me_call G.c_check_format hr (by rfl) tk (ma_cons (me_var 0) ma_nil)))
    (mss_one (ms_ret (me_callL (cr_sum rfl) l_sum (by rfl) T.b_sum (by decide +kernel) (ml_lc (own' := [("field", 1)]) rfl sc.nd (mi_val (me_var 0)) (blkOk_by (N := N_longest_length) (sc := defScope (topS 24)) (by decide +kernel)) (by decide) (fun _ _ _ _ _ => (mg_name (i := 1) sc.nd rfl (by first | exact Or.inl rfl | exact Or.inr rfl))) (fun _ _ _ _ _ => mts_nil) (fun _ _ _ _ _ => (me_ix (me_call G.c_bounds_of hr (by rfl) takes0 (ma_cons (me_var 1) ma_nil)) me_int)))))))
end FT
end
section
set_option maxRecDepth 100000
set_option maxHeartbeats 2000000
namespace FT
open PySem L2
set_option autoImplicit false
variable {P : Program} {w : World} {K : PySem.W.Frag} {mg : Str → Option Value} {base : Heap}
abbrev N_only : List Str := ["value", "signs", "sign"]
theorem sc_only : FnScope N_only ["value", "signs"] (defScope (topS 15)) := ⟨rfl, rfl, rfl, by decide +kernel, rfl, by decide +kernel, by decide +kernel⟩
theorem d_only {k : Nat} {f : Addr} {fd : FuncData} (T : Txt K mg) (G : Al P w K mg base (run k) k) (F : Fun K "only" "only" (topS 15) f fd) : FnOk P w K mg base (L2.CX P w) (k + 1) f fd ["value", "signs"] (spM K mg 2 (m_only (run k))) := by
  have sc := sc_only
  refine fn_ok F sc rfl rfl fun cdv A outer s H Ex hr => ?_
  have tk := takes_of (X := cxOf (L2.CX P w) P w K mg base N_only "only" (defScope (topS 15)) f cdv A outer s H Ex) rfl rfl rfl rfl
  exact (mss_one (ms_ret (me_and (me_callB call_isi v_isi (by rfl) T.b_isinstance (by decide +kernel) (ma_cons (me_var 0) (ma_cons (me_ty 2 (by rfl) T.b_str (by decide +kernel)) ma_nil))) (me_one (me_callL (cr_all rfl) l_all (by rfl) T.b_all (by decide +kernel) (ml_lc (own' := [("sign", 2)]) rfl sc.nd (mi_val (me_var 0)) (blkOk_by (N := N_only) (sc := defScope (topS 15)) (by decide +kernel)) (by decide) (fun _ _ _ _ _ => (mg_name (i := 2) sc.nd rfl (by first | exact Or.inl rfl | exact Or.inr rfl))) (fun _ _ _ _ _ => mts_nil) (fun _ _ _ _ _ => (me_cmp (p_in (hu65 hr)) (me_var 2) (me_var 1)))))))))
end FT
end
section
set_option maxRecDepth 100000
set_option maxHeartbeats 2000000
namespace FT
open PySem L2
set_option autoImplicit false
variable {P : Program} {w : World} {K : PySem.W.Frag} {mg : Str → Option Value} {base : Heap}
abbrev N_part_text : List Str := ["value", "part"]
theorem sc_part_text : FnScope N_part_text ["value"] (defScope (topS 20)) := ⟨rfl, rfl, rfl, by decide +kernel, rfl, by decide +kernel, by decide +kernel⟩
theorem d_part_text {k : Nat} {f : Addr} {fd : FuncData} (T : Txt K mg) (G : Al P w K mg base (run k) k) (F : Fun K "part_text" "part_text" (topS 20) f fd) : FnOk P w K mg base (L2.CX P w) (k + 1) f fd ["value"] (spM K mg 1 (m_part_text (run k))) := by
  have sc := sc_part_text
  refine fn_ok F sc rfl rfl fun cdv A outer s H Ex hr => ?_
  have tk := takes_of (X := cxOf (L2.CX P w) P w K mg base N_part_text "part_text" (defScope (topS 20)) f cdv A outer s H Ex) rfl rfl rfl rfl
  exact (mss_cons (ms_if (mt_val (me_callB call_isi v_isi (by rfl) T.b_isinstance (by decide +kernel) (ma_cons (me_var 0) (ma_cons (me_ty 3 (by rfl) T.b_tuple (by decide +kernel)) ma_nil))))
    (mss_one (ms_ret (me_join me_str (ml_lc (own' := [("part", 1)]) rfl sc.nd (mi_val (me_var 0)) (blkOk_by (N := N_part_text) (sc := defScope (topS 20)) (by decide +kernel)) (by decide) (fun _ _ _ _ _ => (mg_name (i := 1) sc.nd rfl (by first | exact Or.inl rfl | exact Or.inr rfl))) (fun _ _ _ _ _ => mts_nil) (fun _ _ _ _ _ => (me_call G.c_part_text hr (by rfl) takes0 (ma_cons (me_var 1) ma_nil)))))))
    mss_nil)
    (mss_one (ms_ret (me_callTy call_strM v_str (by rfl) T.b_str (by decide +kernel) (ma_cons (me_var 0) ma_nil)))))
end FT
end
section
set_option maxRecDepth 100000
set_option maxHeartbeats 2000000
namespace FT
open PySem L2
set_option autoImplicit false
variable {P : Program} {w : World} {K : PySem.W.Frag} {mg : Str → Option Value} {base : Heap}
abbrev N_shortest_length : List Str := ["form", "field"]
theorem sc_shortest_length : FnScope N_shortest_length ["form"] (defScope (topS 23)) := ⟨rfl, rfl, rfl, by decide +kernel, rfl, by decide +kernel, by decide +kernel⟩
theorem d_shortest_length {k : Nat} {f : Addr} {fd : FuncData} (T : Txt K mg) (G : Al P w K mg base (run k) k) (F : Fun K "shortest_length" "shortest_length" (topS 23) f fd) : FnOk P w K mg base (L2.CX P w) (k + 1) f fd ["form"] (spM K mg 1 (m_shortest_length (run k))) := by
  have sc := sc_shortest_length
  refine fn_ok F sc rfl rfl fun cdv A outer s H Ex hr => ?_
  have tk := takes_of (X := cxOf (L2.CX P w) P w K mg base N_shortest_length "shortest_length" (defScope (topS 23)) f cdv A outer s H Ex) rfl rfl rfl rfl
  exact (mss_cons (ms_expr (me_call G.c_check_format hr (by rfl) tk (ma_cons (me_var 0) ma_nil)))
    (mss_one (ms_ret (me_callL (cr_sum rfl) l_sum (by rfl) T.b_sum (by decide +kernel) (ml_lc (own' := [("field", 1)]) rfl sc.nd (mi_val (me_var 0)) (blkOk_by (N := N_shortest_length) (sc := defScope (topS 23)) (by decide +kernel)) (by decide) (fun _ _ _ _ _ => (mg_name (i := 1) sc.nd rfl (by first | exact Or.inl rfl | exact Or.inr rfl))) (fun _ _ _ _ _ => mts_nil) (fun _ _ _ _ _ => (me_ix (me_call G.c_bounds_of hr (by rfl) takes0 (ma_cons (me_var 1) ma_nil)) me_int)))))))
end FT
end
section
set_option maxRecDepth 100000
set_option maxHeartbeats 2000000
namespace FT
open PySem L2
set_option autoImplicit false
variable {P : Program} {w : World} {K : PySem.W.Frag} {mg : Str → Option Value} {base : Heap}
abbrev N_text_of : List Str := ["form", "record"]
theorem sc_text_of : FnScope N_text_of ["form", "record"] (defScope (topS 21)) := ⟨rfl, rfl, rfl, by decide +kernel, rfl, by decide +kernel, by decide +kernel⟩
theorem d_text_of {k : Nat} {f : Addr} {fd : FuncData} (T : Txt K mg) (G : Al P w K mg base (run k) k) (F : Fun K "text_of" "text_of" (topS 21) f fd) : FnOk P w K mg base (L2.CX P w) (k + 1) f fd ["form", "record"] (spM K mg 2 (m_text_of (run k))) := by
  have sc := sc_text_of
  refine fn_ok F sc rfl rfl fun cdv A outer s H Ex hr => ?_
  have tk := takes_of (X := cxOf (L2.CX P w) P w K mg base N_text_of "text_of" (defScope (topS 21)) f cdv A outer s H Ex) rfl rfl rfl rfl
  exact (mss_cons (ms_expr (me_call G.c_check_format hr (by rfl) tk (ma_cons (me_var 0) ma_nil)))
    (mss_cons (ms_expr (me_call G.c_check_record hr (by rfl) tk (ma_cons (me_var 0) (ma_cons (me_var 1) ma_nil))))
    (mss_one (ms_ret (me_call G.c_part_text hr (by rfl) tk (ma_cons (me_var 1) ma_nil))))))
end FT
end
section
set_option maxRecDepth 100000
namespace FT
open PySem L2
set_option autoImplicit false
section
variable {P : Program} {w : World} {K : PySem.W.Frag} {mg : Str → Option Value} {base : Heap}
structure Fs (K : PySem.W.Frag) (mg : Str → Option Value) : Prop where
  f_is_between : ∃ f fd, Fun K "is_between" "is_between" (topS 8) f fd ∧ mg "is_between" = some (.ref f) ∧ Binds K fd ["value", "low", "high"] []
  f_is_text : ∃ f fd, Fun K "is_text" "is_text" (topS 9) f fd ∧ mg "is_text" = some (.ref f) ∧ Binds K fd ["value", "low", "high"] []
  f_is_span : ∃ f fd, Fun K "is_span" "is_span" (topS 10) f fd ∧ mg "is_span" = some (.ref f) ∧ Binds K fd ["low", "high", "least", "most"] []
  f_is_simple : ∃ f fd, Fun K "is_simple" "is_simple" (topS 11) f fd ∧ mg "is_simple" = some (.ref f) ∧ Binds K fd ["value"] []
  f_is_field : ∃ f fd, Fun K "is_field" "is_field" (topS 12) f fd ∧ mg "is_field" = some (.ref f) ∧ Binds K fd ["value"] []
  f_is_format : ∃ f fd, Fun K "is_format" "is_format" (topS 13) f fd ∧ mg "is_format" = some (.ref f) ∧ Binds K fd ["value"] []
  f_check_format : ∃ f fd, Fun K "check_format" "check_format" (topS 14) f fd ∧ mg "check_format" = some (.ref f) ∧ Binds K fd ["value"] []
  f_only : ∃ f fd, Fun K "only" "only" (topS 15) f fd ∧ mg "only" = some (.ref f) ∧ Binds K fd ["value", "signs"] []
  f_is_value : ∃ f fd, Fun K "is_value" "is_value" (topS 16) f fd ∧ mg "is_value" = some (.ref f) ∧ Binds K fd ["field", "value"] []
  f_is_listed : ∃ f fd, Fun K "is_listed" "is_listed" (topS 17) f fd ∧ mg "is_listed" = some (.ref f) ∧ Binds K fd ["form", "value"] []
  f_is_record : ∃ f fd, Fun K "is_record" "is_record" (topS 18) f fd ∧ mg "is_record" = some (.ref f) ∧ Binds K fd ["form", "value"] []
  f_check_record : ∃ f fd, Fun K "check_record" "check_record" (topS 19) f fd ∧ mg "check_record" = some (.ref f) ∧ Binds K fd ["form", "record"] []
  f_part_text : ∃ f fd, Fun K "part_text" "part_text" (topS 20) f fd ∧ mg "part_text" = some (.ref f) ∧ Binds K fd ["value"] []
  f_text_of : ∃ f fd, Fun K "text_of" "text_of" (topS 21) f fd ∧ mg "text_of" = some (.ref f) ∧ Binds K fd ["form", "record"] []
  f_bounds_of : ∃ f fd, Fun K "bounds_of" "bounds_of" (topS 22) f fd ∧ mg "bounds_of" = some (.ref f) ∧ Binds K fd ["field"] []
  f_shortest_length : ∃ f fd, Fun K "shortest_length" "shortest_length" (topS 23) f fd ∧ mg "shortest_length" = some (.ref f) ∧ Binds K fd ["form"] []
  f_longest_length : ∃ f fd, Fun K "longest_length" "longest_length" (topS 24) f fd ∧ mg "longest_length" = some (.ref f) ∧ Binds K fd ["form"] []
  f__law_town : ∃ f fd, Fun K "_law_town" "_law_town" (topS 26) f fd ∧ mg "_law_town" = some (.ref f) ∧ Binds K fd ["script"] []
  f__law_draw : ∃ f fd, Fun K "_law_draw" "_law_draw" (topS 27) f fd ∧ mg "_law_draw" = some (.ref f) ∧ Binds K fd ["script", "town", "limit"] []
  f__law_pick : ∃ f fd, Fun K "_law_pick" "_law_pick" (topS 28) f fd ∧ mg "_law_pick" = some (.ref f) ∧ Binds K fd ["script", "town", "choices"] []
  f__law_signs : ∃ f fd, Fun K "_law_signs" "_law_signs" (topS 29) f fd ∧ mg "_law_signs" = some (.ref f) ∧ Binds K fd ["script", "town", "signs", "many"] []
  f__law_simple : ∃ f fd, Fun K "_law_simple" "_law_simple" (topS 30) f fd ∧ mg "_law_simple" = some (.ref f) ∧ Binds K fd ["script", "town", "most"] []
  f__law_field : ∃ f fd, Fun K "_law_field" "_law_field" (topS 31) f fd ∧ mg "_law_field" = some (.ref f) ∧ Binds K fd ["script", "town", "most"] []
  f__law_form : ∃ f fd, Fun K "_law_form" "_law_form" (topS 32) f fd ∧ mg "_law_form" = some (.ref f) ∧ Binds K fd ["script", "town", "fields", "most"] []
  f__law_value : ∃ f fd, Fun K "_law_value" "_law_value" (topS 33) f fd ∧ mg "_law_value" = some (.ref f) ∧ Binds K fd ["script", "town", "field"] []
  f__law_record : ∃ f fd, Fun K "_law_record" "_law_record" (topS 34) f fd ∧ mg "_law_record" = some (.ref f) ∧ Binds K fd ["script", "town", "form"] []
  f__law_text : ∃ f fd, Fun K "_law_text" "_law_text" (topS 35) f fd ∧ mg "_law_text" = some (.ref f) ∧ Binds K fd ["some"] []
  f__law_parts : ∃ f fd, Fun K "_law_parts" "_law_parts" (topS 36) f fd ∧ mg "_law_parts" = some (.ref f) ∧ Binds K fd ["field", "text"] []
  f__law_only : ∃ f fd, Fun K "_law_only" "_law_only" (topS 37) f fd ∧ mg "_law_only" = some (.ref f) ∧ Binds K fd ["part", "signs"] []
  f__law_is_value : ∃ f fd, Fun K "_law_is_value" "_law_is_value" (topS 38) f fd ∧ mg "_law_is_value" = some (.ref f) ∧ Binds K fd ["field", "some"] []
  f__law_lengths : ∃ f fd, Fun K "_law_lengths" "_law_lengths" (topS 39) f fd ∧ mg "_law_lengths" = some (.ref f) ∧ Binds K fd ["field"] []
  f_law : ∃ f fd, Fun K "law" "law" (topS 40) f fd ∧ mg "law" = some (.ref f) ∧ Binds K fd ["script"] []
theorem al_zero (T : Txt K mg) (Z : Fs K mg) : Al P w K mg base (run 0) 0 where
  c_is_between := let ⟨f, fd, F, g, b⟩ := Z.f_is_between; ⟨fun _ _ _ => rfl, f, fd, _, none_left, g, F.kp, b⟩
  c_is_text := let ⟨f, fd, F, g, b⟩ := Z.f_is_text; ⟨fun _ _ _ => rfl, f, fd, _, none_left, g, F.kp, b⟩
  c_is_span := let ⟨f, fd, F, g, b⟩ := Z.f_is_span; ⟨fun _ _ _ => rfl, f, fd, _, none_left, g, F.kp, b⟩
  c_is_simple := let ⟨f, fd, F, g, b⟩ := Z.f_is_simple; ⟨fun _ _ _ => rfl, f, fd, _, none_left, g, F.kp, b⟩
  c_is_field := let ⟨f, fd, F, g, b⟩ := Z.f_is_field; ⟨fun _ _ _ => rfl, f, fd, _, none_left, g, F.kp, b⟩
  c_is_format := let ⟨f, fd, F, g, b⟩ := Z.f_is_format; ⟨fun _ _ _ => rfl, f, fd, _, none_left, g, F.kp, b⟩
  c_check_format := let ⟨f, fd, F, g, b⟩ := Z.f_check_format; ⟨fun _ _ _ => rfl, f, fd, _, none_left, g, F.kp, b⟩
  c_only := let ⟨f, fd, F, g, b⟩ := Z.f_only; ⟨fun _ _ _ => rfl, f, fd, _, none_left, g, F.kp, b⟩
  c_is_value := let ⟨f, fd, F, g, b⟩ := Z.f_is_value; ⟨fun _ _ _ => rfl, f, fd, _, none_left, g, F.kp, b⟩
  c_is_listed := let ⟨f, fd, F, g, b⟩ := Z.f_is_listed; ⟨fun _ _ _ => rfl, f, fd, _, none_left, g, F.kp, b⟩
  c_is_record := let ⟨f, fd, F, g, b⟩ := Z.f_is_record; ⟨fun _ _ _ => rfl, f, fd, _, none_left, g, F.kp, b⟩
  c_check_record := let ⟨f, fd, F, g, b⟩ := Z.f_check_record; ⟨fun _ _ _ => rfl, f, fd, _, none_left, g, F.kp, b⟩
  c_part_text := let ⟨f, fd, F, g, b⟩ := Z.f_part_text; ⟨fun _ _ _ => rfl, f, fd, _, none_left, g, F.kp, b⟩
  c_text_of := let ⟨f, fd, F, g, b⟩ := Z.f_text_of; ⟨fun _ _ _ => rfl, f, fd, _, none_left, g, F.kp, b⟩
  c_bounds_of := let ⟨f, fd, F, g, b⟩ := Z.f_bounds_of; ⟨fun _ _ _ => rfl, f, fd, _, none_left, g, F.kp, b⟩
  c_shortest_length := let ⟨f, fd, F, g, b⟩ := Z.f_shortest_length; ⟨fun _ _ _ => rfl, f, fd, _, none_left, g, F.kp, b⟩
  c_longest_length := let ⟨f, fd, F, g, b⟩ := Z.f_longest_length; ⟨fun _ _ _ => rfl, f, fd, _, none_left, g, F.kp, b⟩
  c__law_town := let ⟨f, fd, F, g, b⟩ := Z.f__law_town; ⟨fun _ _ _ => rfl, f, fd, _, none_left, g, F.kp, b⟩
  c__law_draw := let ⟨f, fd, F, g, b⟩ := Z.f__law_draw; ⟨fun _ _ _ => rfl, f, fd, _, none_left, g, F.kp, b⟩
  c__law_pick := let ⟨f, fd, F, g, b⟩ := Z.f__law_pick; ⟨fun _ _ _ => rfl, f, fd, _, none_left, g, F.kp, b⟩
  c__law_signs := let ⟨f, fd, F, g, b⟩ := Z.f__law_signs; ⟨fun _ _ _ => rfl, f, fd, _, none_left, g, F.kp, b⟩
  c__law_simple := let ⟨f, fd, F, g, b⟩ := Z.f__law_simple; ⟨fun _ _ _ => rfl, f, fd, _, none_left, g, F.kp, b⟩
  c__law_field := let ⟨f, fd, F, g, b⟩ := Z.f__law_field; ⟨fun _ _ _ => rfl, f, fd, _, none_left, g, F.kp, b⟩
  c__law_form := let ⟨f, fd, F, g, b⟩ := Z.f__law_form; ⟨fun _ _ _ => rfl, f, fd, _, none_left, g, F.kp, b⟩
  c__law_value := let ⟨f, fd, F, g, b⟩ := Z.f__law_value; ⟨fun _ _ _ => rfl, f, fd, _, none_left, g, F.kp, b⟩
  c__law_record := let ⟨f, fd, F, g, b⟩ := Z.f__law_record; ⟨fun _ _ _ => rfl, f, fd, _, none_left, g, F.kp, b⟩
  c__law_text := let ⟨f, fd, F, g, b⟩ := Z.f__law_text; ⟨fun _ _ _ => rfl, f, fd, _, none_left, g, F.kp, b⟩
  c__law_parts := let ⟨f, fd, F, g, b⟩ := Z.f__law_parts; ⟨fun _ _ _ => rfl, f, fd, _, none_left, g, F.kp, b⟩
  c__law_only := let ⟨f, fd, F, g, b⟩ := Z.f__law_only; ⟨fun _ _ _ => rfl, f, fd, _, none_left, g, F.kp, b⟩
  c__law_is_value := let ⟨f, fd, F, g, b⟩ := Z.f__law_is_value; ⟨fun _ _ _ => rfl, f, fd, _, none_left, g, F.kp, b⟩
  c__law_lengths := let ⟨f, fd, F, g, b⟩ := Z.f__law_lengths; ⟨fun _ _ _ => rfl, f, fd, _, none_left, g, F.kp, b⟩
  c_law := let ⟨f, fd, F, g, b⟩ := Z.f_law; ⟨fun _ _ _ => rfl, f, fd, _, none_left, g, F.kp, b⟩
theorem al_succ {k : Nat} (T : Txt K mg) (Z : Fs K mg) (G : Al P w K mg base (run k) k) : Al P w K mg base (run (k + 1)) (k + 1) where
  c_is_between := let ⟨f, fd, F, g, b⟩ := Z.f_is_between; ⟨fnM_len, f, fd, _, d_is_between T G F, g, F.kp, b⟩
  c_is_text := let ⟨f, fd, F, g, b⟩ := Z.f_is_text; ⟨fnM_len, f, fd, _, d_is_text T G F, g, F.kp, b⟩
  c_is_span := let ⟨f, fd, F, g, b⟩ := Z.f_is_span; ⟨fnM_len, f, fd, _, d_is_span T G F, g, F.kp, b⟩
  c_is_simple := let ⟨f, fd, F, g, b⟩ := Z.f_is_simple; ⟨fnM_len, f, fd, _, d_is_simple T G F, g, F.kp, b⟩
  c_is_field := let ⟨f, fd, F, g, b⟩ := Z.f_is_field; ⟨fnM_len, f, fd, _, d_is_field T G F, g, F.kp, b⟩
  c_is_format := let ⟨f, fd, F, g, b⟩ := Z.f_is_format; ⟨fnM_len, f, fd, _, d_is_format T G F, g, F.kp, b⟩
  c_check_format := let ⟨f, fd, F, g, b⟩ := Z.f_check_format; ⟨fnM_len, f, fd, _, d_check_format T G F, g, F.kp, b⟩
  c_only := let ⟨f, fd, F, g, b⟩ := Z.f_only; ⟨fnM_len, f, fd, _, d_only T G F, g, F.kp, b⟩
  c_is_value := let ⟨f, fd, F, g, b⟩ := Z.f_is_value; ⟨fnM_len, f, fd, _, d_is_value T G F, g, F.kp, b⟩
  c_is_listed := let ⟨f, fd, F, g, b⟩ := Z.f_is_listed; ⟨fnM_len, f, fd, _, d_is_listed T G F, g, F.kp, b⟩
  c_is_record := let ⟨f, fd, F, g, b⟩ := Z.f_is_record; ⟨fnM_len, f, fd, _, d_is_record T G F, g, F.kp, b⟩
  c_check_record := let ⟨f, fd, F, g, b⟩ := Z.f_check_record; ⟨fnM_len, f, fd, _, d_check_record T G F, g, F.kp, b⟩
  c_part_text := let ⟨f, fd, F, g, b⟩ := Z.f_part_text; ⟨fnM_len, f, fd, _, d_part_text T G F, g, F.kp, b⟩
  c_text_of := let ⟨f, fd, F, g, b⟩ := Z.f_text_of; ⟨fnM_len, f, fd, _, d_text_of T G F, g, F.kp, b⟩
  c_bounds_of := let ⟨f, fd, F, g, b⟩ := Z.f_bounds_of; ⟨fnM_len, f, fd, _, d_bounds_of T G F, g, F.kp, b⟩
  c_shortest_length := let ⟨f, fd, F, g, b⟩ := Z.f_shortest_length; ⟨fnM_len, f, fd, _, d_shortest_length T G F, g, F.kp, b⟩
  c_longest_length := let ⟨f, fd, F, g, b⟩ := Z.f_longest_length; ⟨fnM_len, f, fd, _, d_longest_length T G F, g, F.kp, b⟩
  c__law_town := let ⟨f, fd, F, g, b⟩ := Z.f__law_town; ⟨fnM_len, f, fd, _, d__law_town T G F, g, F.kp, b⟩
  c__law_draw := let ⟨f, fd, F, g, b⟩ := Z.f__law_draw; ⟨fnM_len, f, fd, _, d__law_draw T G F, g, F.kp, b⟩
  c__law_pick := let ⟨f, fd, F, g, b⟩ := Z.f__law_pick; ⟨fnM_len, f, fd, _, d__law_pick T G F, g, F.kp, b⟩
  c__law_signs := let ⟨f, fd, F, g, b⟩ := Z.f__law_signs; ⟨fnM_len, f, fd, _, d__law_signs T G F, g, F.kp, b⟩
  c__law_simple := let ⟨f, fd, F, g, b⟩ := Z.f__law_simple; ⟨fnM_len, f, fd, _, d__law_simple T G F, g, F.kp, b⟩
  c__law_field := let ⟨f, fd, F, g, b⟩ := Z.f__law_field; ⟨fnM_len, f, fd, _, d__law_field T G F, g, F.kp, b⟩
  c__law_form := let ⟨f, fd, F, g, b⟩ := Z.f__law_form; ⟨fnM_len, f, fd, _, d__law_form T G F, g, F.kp, b⟩
  c__law_value := let ⟨f, fd, F, g, b⟩ := Z.f__law_value; ⟨fnM_len, f, fd, _, d__law_value T G F, g, F.kp, b⟩
  c__law_record := let ⟨f, fd, F, g, b⟩ := Z.f__law_record; ⟨fnM_len, f, fd, _, d__law_record T G F, g, F.kp, b⟩
  c__law_text := let ⟨f, fd, F, g, b⟩ := Z.f__law_text; ⟨fnM_len, f, fd, _, d__law_text T G F, g, F.kp, b⟩
  c__law_parts := let ⟨f, fd, F, g, b⟩ := Z.f__law_parts; ⟨fnM_len, f, fd, _, d__law_parts T G F, g, F.kp, b⟩
  c__law_only := let ⟨f, fd, F, g, b⟩ := Z.f__law_only; ⟨fnM_len, f, fd, _, d__law_only T G F, g, F.kp, b⟩
  c__law_is_value := let ⟨f, fd, F, g, b⟩ := Z.f__law_is_value; ⟨fnM_len, f, fd, _, d__law_is_value T G F, g, F.kp, b⟩
  c__law_lengths := let ⟨f, fd, F, g, b⟩ := Z.f__law_lengths; ⟨fnM_len, f, fd, _, d__law_lengths T G F, g, F.kp, b⟩
  c_law := let ⟨f, fd, F, g, b⟩ := Z.f_law; ⟨fnM_len, f, fd, _, d_law T G F, g, F.kp, b⟩
theorem al_all (T : Txt K mg) (Z : Fs K mg) : ∀ k, Al P w K mg base (run k) k
  | 0 => al_zero T Z
  | k + 1 => al_succ T Z (al_all T Z k)
end
section
variable {K : PySem.W.Frag} {h : Heap} {mg : Str → Option Value}
theorem c_mk {x : Str} {u : Value} {z : Str} (X : K.In h) (G : h.Ns mainGlobals mg) (a : PySem.W.nsIn K mainGlobals x = some (some u)) (e : ∃ t, u = .str z t) : ∃ t, mg x = some (.str z t) := by
  obtain ⟨t, rfl⟩ := e
  exact ⟨t, PySem.W.mg_of X G a⟩
theorem f_mk {x : Str} {st : Stmt} {ps : List Str} {f : Addr} {oc : Value} {od an : Option Addr} {sl : Array (Option Value)} {kV dc pm cd ct : Value} (X : K.In h) (G : h.Ns mainGlobals mg) (a : PySem.W.nsIn K mainGlobals x = some (some (.ref f)))
    (l : K.lookup f = some ⟨oc, od, .func (PySem.W.fnOf x x (defArgs st) (defBody st) (defScope st) .none kV dc pm an cd ct), sl⟩) (c : PySem.W.codeIn K cd x = true) (kp : PySem.W.keepIn K (.ref f) = true)
    (hb : ∀ (kV doc pm : Value) (an : Option Addr) (cdv ct : Value) (us : List Value), us.length = ps.length → bindArgs (PySem.W.fnOf x x (defArgs st) (defBody st) (defScope st) .none kV doc pm an cdv ct) ⟨us, []⟩ = pure (ps.zip us)) :
    ∃ f fd, Fun K x x st f fd ∧ mg x = some (.ref f) ∧ Binds K fd ps [] := ⟨f, _, fun_mk l c kp, PySem.W.mg_of X G a, (fun_mk l c kp).binds hb⟩
end
end FT
end
section
namespace FT
open PySem L2
theorem walk {l : PySem.W.OpenLaw} {q : Program} {loose : List Str} {XP : (Str → Option Value) → Heap → Prop} {YP : World → Heap → Prop} {d : DefRec} {K : Params → PySem.W.Frag} (hn : l.most = some 63) (hdf : d.params.defaults = []) (hname : d.name = "law")
    (hY : ∀ (w : World) (h : Heap), YP w h → (K w.params).In h) (hm : ∀ ns : List Int, ns.length ≤ 63 → ∃ h, run 100 31 [.rol (ns.map .int)] [] = .ok (.bl true) h)
    (F : ∀ (w : World) (mg : Str → Option Value) (h : Heap), (K w.params).In h → h.Ns mainGlobals mg → Txt (K w.params) mg ∧ Fs (K w.params) mg) :
    PySem.W.WalkO q loose XP YP l.row.toRowW d [] (fun f vs => PySem.call f vs) := by
  refine L2.walk_of (n := 63) (k := 100) (x := "script") (CX := fun w => L2.CX l.prog w) (sp := fun w => spLaw (K w.params)) hn (by decide) hdf ⟨rfl, by decide, by decide⟩ hY (fun w mg fa h KX G hmg => ?_) (fun _ H a ns hl ho hS => ⟨a, ns, rfl, hS, hl, ho, fun _ => rfl⟩) fun w H s e s' z => ?_
  · obtain ⟨T, Z⟩ := F w mg h KX G
    rw [hname] at hmg
    have Z1 := Z.f_law
    obtain ⟨f, fd, F1, g1, b1⟩ := Z1
    have e : fa = f := by
      have := hmg.symm.trans g1
      cases this
      rfl
    subst e
    refine ⟨fd, fun s u => ?_, fun base _ _ => (d_law T (al_all T Z 99) F1).imp (sp_law hm)⟩
    obtain ⟨oc, od, kV, doc, pm, an, cdv, ct, osl, rfl, lk, hcd⟩ := F1.ex
    exact .of_eq rfl
  · obtain ⟨_, _, _, _, _, _, _, _, _, _, _, _, z⟩ := z
    exact z
end FT
open PySem PySem.W PyProof.Rows
set_option maxRecDepth 100000 in
set_option maxHeartbeats 0 in
theorem PySem.Challenge.cw_fieldtexts_k02_whole_records_holds : PySem.Challenge.rw_fieldtexts_k02_whole_records.Holds := by
  w_on; o_law; k_head; (case hw => w_witness2)
  k_fill
  refine FT.walk (l := PySem.Challenge.rw_fieldtexts_k02_whole_records) rfl rfl rfl (fun w h Y => PySem.W.kIn_of Y) FT.law_holds ?F
  case F =>
    intro w mg h KX G
    refine' ⟨⟨PySem.W.mg_none_of KX G ?z0, PySem.W.mg_none_of KX G ?z1, PySem.W.mg_none_of KX G ?z2, PySem.W.mg_none_of KX G ?z3, PySem.W.mg_none_of KX G ?z4, PySem.W.mg_none_of KX G ?z5, PySem.W.mg_none_of KX G ?z6, PySem.W.mg_none_of KX G ?z7, PySem.W.mg_none_of KX G ?z8, PySem.W.mg_none_of KX G ?z9, PySem.W.mg_none_of KX G ?z10, PySem.W.mg_none_of KX G ?z11, PySem.W.mg_none_of KX G ?z12, PySem.W.mg_none_of KX G ?z13, PySem.W.mg_none_of KX G ?z14, FT.c_mk KX G ?y0 ?x0, FT.c_mk KX G ?y1 ?x1, FT.c_mk KX G ?y2 ?x2⟩, ⟨FT.f_mk KX G ?a0 ?l0 ?c0 ?k0 (fun _ _ _ _ _ _ us hl => ?h0), FT.f_mk KX G ?a1 ?l1 ?c1 ?k1 (fun _ _ _ _ _ _ us hl => ?h1), FT.f_mk KX G ?a2 ?l2 ?c2 ?k2 (fun _ _ _ _ _ _ us hl => ?h2), FT.f_mk KX G ?a3 ?l3 ?c3 ?k3 (fun _ _ _ _ _ _ us hl => ?h3), FT.f_mk KX G ?a4 ?l4 ?c4 ?k4 (fun _ _ _ _ _ _ us hl => ?h4), FT.f_mk KX G ?a5 ?l5 ?c5 ?k5 (fun _ _ _ _ _ _ us hl => ?h5), FT.f_mk KX G ?a6 ?l6 ?c6 ?k6 (fun _ _ _ _ _ _ us hl => ?h6), FT.f_mk KX G ?a7 ?l7 ?c7 ?k7 (fun _ _ _ _ _ _ us hl => ?h7), FT.f_mk KX G ?a8 ?l8 ?c8 ?k8 (fun _ _ _ _ _ _ us hl => ?h8), FT.f_mk KX G ?a9 ?l9 ?c9 ?k9 (fun _ _ _ _ _ _ us hl => ?h9), FT.f_mk KX G ?a10 ?l10 ?c10 ?k10 (fun _ _ _ _ _ _ us hl => ?h10), FT.f_mk KX G ?a11 ?l11 ?c11 ?k11 (fun _ _ _ _ _ _ us hl => ?h11), FT.f_mk KX G ?a12 ?l12 ?c12 ?k12 (fun _ _ _ _ _ _ us hl => ?h12), FT.f_mk KX G ?a13 ?l13 ?c13 ?k13 (fun _ _ _ _ _ _ us hl => ?h13), FT.f_mk KX G ?a14 ?l14 ?c14 ?k14 (fun _ _ _ _ _ _ us hl => ?h14), FT.f_mk KX G ?a15 ?l15 ?c15 ?k15 (fun _ _ _ _ _ _ us hl => ?h15), FT.f_mk KX G ?a16 ?l16 ?c16 ?k16 (fun _ _ _ _ _ _ us hl => ?h16), FT.f_mk KX G ?a17 ?l17 ?c17 ?k17 (fun _ _ _ _ _ _ us hl => ?h17), FT.f_mk KX G ?a18 ?l18 ?c18 ?k18 (fun _ _ _ _ _ _ us hl => ?h18), FT.f_mk KX G ?a19 ?l19 ?c19 ?k19 (fun _ _ _ _ _ _ us hl => ?h19), FT.f_mk KX G ?a20 ?l20 ?c20 ?k20 (fun _ _ _ _ _ _ us hl => ?h20), FT.f_mk KX G ?a21 ?l21 ?c21 ?k21 (fun _ _ _ _ _ _ us hl => ?h21), FT.f_mk KX G ?a22 ?l22 ?c22 ?k22 (fun _ _ _ _ _ _ us hl => ?h22), FT.f_mk KX G ?a23 ?l23 ?c23 ?k23 (fun _ _ _ _ _ _ us hl => ?h23), FT.f_mk KX G ?a24 ?l24 ?c24 ?k24 (fun _ _ _ _ _ _ us hl => ?h24), FT.f_mk KX G ?a25 ?l25 ?c25 ?k25 (fun _ _ _ _ _ _ us hl => ?h25), FT.f_mk KX G ?a26 ?l26 ?c26 ?k26 (fun _ _ _ _ _ _ us hl => ?h26), FT.f_mk KX G ?a27 ?l27 ?c27 ?k27 (fun _ _ _ _ _ _ us hl => ?h27), FT.f_mk KX G ?a28 ?l28 ?c28 ?k28 (fun _ _ _ _ _ _ us hl => ?h28), FT.f_mk KX G ?a29 ?l29 ?c29 ?k29 (fun _ _ _ _ _ _ us hl => ?h29), FT.f_mk KX G ?a30 ?l30 ?c30 ?k30 (fun _ _ _ _ _ _ us hl => ?h30), FT.f_mk KX G ?a31 ?l31 ?c31 ?k31 (fun _ _ _ _ _ _ us hl => ?h31)⟩⟩
    (case z0 => k_is)
    (case z1 => k_is)
    (case z2 => k_is)
    (case z3 => k_is)
    (case z4 => k_is)
    (case z5 => k_is)
    (case z6 => k_is)
    (case z7 => k_is)
    (case z8 => k_is)
    (case z9 => k_is)
    (case z10 => k_is)
    (case z11 => k_is)
    (case z12 => k_is)
    (case z13 => k_is)
    (case z14 => k_is)
    (case y0 => k_is); (case x0 => exact ⟨_, rfl⟩)
    (case y1 => k_is); (case x1 => exact ⟨_, rfl⟩)
    (case y2 => k_is); (case x2 => exact ⟨_, rfl⟩)
    (case a0 => k_is); (case l0 => k_is); (case c0 => k_is); (case k0 => k_is); (case h0 => match us, hl with | [_, _, _], _ => rfl)
    (case a1 => k_is); (case l1 => k_is); (case c1 => k_is); (case k1 => k_is); (case h1 => match us, hl with | [_, _, _], _ => rfl)
    (case a2 => k_is); (case l2 => k_is); (case c2 => k_is); (case k2 => k_is); (case h2 => match us, hl with | [_, _, _, _], _ => rfl)
    (case a3 => k_is); (case l3 => k_is); (case c3 => k_is); (case k3 => k_is); (case h3 => match us, hl with | [_], _ => rfl)
    (case a4 => k_is); (case l4 => k_is); (case c4 => k_is); (case k4 => k_is); (case h4 => match us, hl with | [_], _ => rfl)
    (case a5 => k_is); (case l5 => k_is); (case c5 => k_is); (case k5 => k_is); (case h5 => match us, hl with | [_], _ => rfl)
    (case a6 => k_is); (case l6 => k_is); (case c6 => k_is); (case k6 => k_is); (case h6 => match us, hl with | [_], _ => rfl)
    (case a7 => k_is); (case l7 => k_is); (case c7 => k_is); (case k7 => k_is); (case h7 => match us, hl with | [_, _], _ => rfl)
    (case a8 => k_is); (case l8 => k_is); (case c8 => k_is); (case k8 => k_is); (case h8 => match us, hl with | [_, _], _ => rfl)
    (case a9 => k_is); (case l9 => k_is); (case c9 => k_is); (case k9 => k_is); (case h9 => match us, hl with | [_, _], _ => rfl)
    (case a10 => k_is); (case l10 => k_is); (case c10 => k_is); (case k10 => k_is); (case h10 => match us, hl with | [_, _], _ => rfl)
    (case a11 => k_is); (case l11 => k_is); (case c11 => k_is); (case k11 => k_is); (case h11 => match us, hl with | [_, _], _ => rfl)
    (case a12 => k_is); (case l12 => k_is); (case c12 => k_is); (case k12 => k_is); (case h12 => match us, hl with | [_], _ => rfl)
    (case a13 => k_is); (case l13 => k_is); (case c13 => k_is); (case k13 => k_is); (case h13 => match us, hl with | [_, _], _ => rfl)
    (case a14 => k_is); (case l14 => k_is); (case c14 => k_is); (case k14 => k_is); (case h14 => match us, hl with | [_], _ => rfl)
    (case a15 => k_is); (case l15 => k_is); (case c15 => k_is); (case k15 => k_is); (case h15 => match us, hl with | [_], _ => rfl)
    (case a16 => k_is); (case l16 => k_is); (case c16 => k_is); (case k16 => k_is); (case h16 => match us, hl with | [_], _ => rfl)
    (case a17 => k_is); (case l17 => k_is); (case c17 => k_is); (case k17 => k_is); (case h17 => match us, hl with | [_], _ => rfl)
    (case a18 => k_is); (case l18 => k_is); (case c18 => k_is); (case k18 => k_is); (case h18 => match us, hl with | [_, _, _], _ => rfl)
    (case a19 => k_is); (case l19 => k_is); (case c19 => k_is); (case k19 => k_is); (case h19 => match us, hl with | [_, _, _], _ => rfl)
    (case a20 => k_is); (case l20 => k_is); (case c20 => k_is); (case k20 => k_is); (case h20 => match us, hl with | [_, _, _, _], _ => rfl)
    (case a21 => k_is); (case l21 => k_is); (case c21 => k_is); (case k21 => k_is); (case h21 => match us, hl with | [_, _, _], _ => rfl)
    (case a22 => k_is); (case l22 => k_is); (case c22 => k_is); (case k22 => k_is); (case h22 => match us, hl with | [_, _, _], _ => rfl)
    (case a23 => k_is); (case l23 => k_is); (case c23 => k_is); (case k23 => k_is); (case h23 => match us, hl with | [_, _, _, _], _ => rfl)
    (case a24 => k_is); (case l24 => k_is); (case c24 => k_is); (case k24 => k_is); (case h24 => match us, hl with | [_, _, _], _ => rfl)
    (case a25 => k_is); (case l25 => k_is); (case c25 => k_is); (case k25 => k_is); (case h25 => match us, hl with | [_, _, _], _ => rfl)
    (case a26 => k_is); (case l26 => k_is); (case c26 => k_is); (case k26 => k_is); (case h26 => match us, hl with | [_], _ => rfl)
    (case a27 => k_is); (case l27 => k_is); (case c27 => k_is); (case k27 => k_is); (case h27 => match us, hl with | [_, _], _ => rfl)
    (case a28 => k_is); (case l28 => k_is); (case c28 => k_is); (case k28 => k_is); (case h28 => match us, hl with | [_, _], _ => rfl)
    (case a29 => k_is); (case l29 => k_is); (case c29 => k_is); (case k29 => k_is); (case h29 => match us, hl with | [_, _], _ => rfl)
    (case a30 => k_is); (case l30 => k_is); (case c30 => k_is); (case k30 => k_is); (case h30 => match us, hl with | [_], _ => rfl)
    (case a31 => k_is); (case l31 => k_is); (case c31 => k_is); (case k31 => k_is); (case h31 => match us, hl with | [_], _ => rfl)
end
