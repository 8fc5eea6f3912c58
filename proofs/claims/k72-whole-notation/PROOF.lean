import PyProof.Rows.All
import Wide.All
import OpenK.AllK
import Wide.FinOn
import HandS.ForMost
import HandS.ForExc
import KE.KDictKeyed
import HandS.TupAny
import HandS.TupMul
import HandS.Deep
import HandS.Wide
import HandS.Style
import HandS.IsInst
import PyProof.ListStr
import HandS.RaiseMore
import KE.IntTextText
import HandS.Zip
import HandS.Set
import HandS.SetFor
import HandS.Strs
import KE.SortData
import HandS.ExcIs
import HandS.ExcValue
import HandS.Codes
import HandS.Replace
import HandS.FStr
import HandS.Small
import KE.DataFind
import KE.KDictDisplayH
import HandS.NoneIn
import PySem.Challenge.RW_fieldtexts_k72_whole_notation
set_option Elab.async false
set_option linter.all false
section
set_option maxRecDepth 100000
namespace FT
open PySem L2
set_option autoImplicit false

/-! ### values, objects, results of the mirror -/
inductive D where
  | non | bl (b : Bool) | int (i : Int) | str (s : List Nat) | tup (xs : List D) | obj (n : Nat) | fn (x : Str) | ty (n : Nat) | rol (xs : List D)

inductive MO where
  | lst (xs : List D) | dic (kvs : List (D × D)) | dik (kvs : List (D × D)) | dlk (kvs : List (D × D)) | dkk (kvs : List (D × D)) | ins (c : Str) (fs : List (Str × D)) | exc (c : Str)
abbrev MH := List MO

inductive R (a : Type) where
  | ok (x : a) (h : MH) | exc (c : Str) (h : MH) | err
def R.bind {a b : Type} (r : R a) (k : a → MH → R b) : R b := match r with
  | .ok x h => k x h
  | .exc c h => .exc c h
  | .err => .err
abbrev Ev := List (Option D)
abbrev E (a : Type) := Ev → MH → R a

/-- the built-in classes that are named in a text -/
def tyName : Nat → String
  | 0 => "int"
  | 1 => "bool"
  | 2 => "str"
  | 3 => "tuple"
  | 4 => "list"
  | 5 => "dict"
  | 6 => "NoneType"
  | 7 => "ValueError"
  | _ => "set"
/-! ### what stands for what -/
/-- an error that was caught, of the class cls -/
def CgO (cls : Value) (a : Addr) : HO := .ext fun h => ∃ (oe : Obj) (us : Array Value), h.get? a = some oe ∧ Zc cls none oe ∧ oe.data = .fields us
/-- keys: a number or a text; a tuple of any depth -/
def kOf : D → Option Key
  | .int i => some (.inl i)
  | .str s => some (.inr ⟨s.toArray⟩)
  | _ => none
def allSome {a b : Type} (f : a → Option b) : List a → Option (List b)
  | [] => some []
  | x :: xs => match f x, allSome f xs with
    | some y, some ys => some (y :: ys)
    | _, _ => none
def keyF : Nat → D → Option NestedKey
  | n, d => match d with
    | .non => some .none
    | .bl b => some (.num (if b = true then 1 else 0))
    | .int i => some (.num i)
    | .str s => some (.text ⟨s.toArray⟩)
    | .tup ds => match n with
      | 0 => none
      | m + 1 => (allSome (keyF m) ds).map .tup
    | _ => none
def keyOf (d : D) : Option NestedKey := keyF 8 d
/-- a dict whose keys are tuples, by its entries -/
def NdO (wd : World) (a : Addr) (es : List (NestedKey × Addr × V)) : HO := .ext fun h => ∃ xs : List (NestedKey × Addr × Value), Paired (fun (p : NestedKey × Addr × V) (q : NestedKey × Addr × Value) => p.1 = q.1 ∧ p.2.1 = q.2.1 ∧ RelV p.2.2 q.2.2) es xs ∧
  (a == sysModules) = false ∧ es.length ≤ sizeLine ∧ ∃ o es' ep, h.get? a = some o ∧ o.ExactDict ∧ o.data = .dict es' ep ∧ es'.toList = xs.map (fun x => (⟨x.1.hash wd, .ref x.2.1, x.2.2⟩ : DictEntry)) ∧ (xs.map (·.1)).Nodup
/-- a list that is read, never written -/
def SqF (K : PySem.W.Frag) (H : Hp) (a : Addr) (vs : List V) : Prop := (∃ o, H a = some (.frz o (.lst vs))) ∨ (∀ H', SqL K H' a vs)
theorem SqF.sq {K : PySem.W.Frag} {H : Hp} {a : Addr} {vs : List V} (h : SqF K H a vs) : SqL K H a vs := by
  rcases h with ⟨o, h⟩ | h
  · exact .inl (.inr ⟨o, h⟩)
  · exact h H
section
variable (wd : World) (K : PySem.W.Frag) (mg : Str → Option Value)
mutual
def Rep (r : List Addr) (H : Hp) : D → V → Prop
  | .non, v => v = .non
  | .bl b, v => v = .bl b
  | .int i, v => v = .int i
  | .str s, v => v = .str ⟨s.toArray⟩
  | .tup ds, v => ∃ a vs, v = .ref a ∧ SqT K H a vs ∧ Reps r H ds vs
  | .obj n, v => ∃ a, v = .ref a ∧ r[n]? = some a
  | .fn x, v => ∃ a, v = .ref a ∧ mg x = some (.ref a)
  | .ty n, v => v = .ty (tyName n)
  | .rol ds, v => ∃ a vs, v = .ref a ∧ SqF K H a vs ∧ Reps r H ds vs
def Reps (r : List Addr) (H : Hp) : List D → List V → Prop
  | [], vs => vs = []
  | d :: ds, vs => ∃ v us, vs = v :: us ∧ Rep r H d v ∧ Reps r H ds us
end
def ORep (r : List Addr) (H : Hp) (a : Addr) : MO → Prop
  | .lst xs => ∃ vs, H a = some (.lst vs) ∧ Reps K mg r H xs vs
  | .dic kvs => ∃ (ks : List Key) (vs : List V), H a = some (.dK (ks.zip vs)) ∧ kvs.map (fun p => kOf p.1) = ks.map some ∧ Reps K mg r H (kvs.map (·.2)) vs
  | .dik kvs => ∃ (ks : List NestedKey) (as : List Addr) (vs : List V), H a = some (NdO wd a (ks.zip (as.zip vs))) ∧ kvs.map (fun p => keyOf p.1) = ks.map some ∧ Reps K mg r H (kvs.map (·.1)) (as.map .ref) ∧ Reps K mg r H (kvs.map (·.2)) vs
  | .dlk kvs => ∃ (ob : Obj) (ks : List Key) (vs : List V), H a = some (.frz ob (.dK (ks.zip vs))) ∧ kvs.map (fun p => kOf p.1) = ks.map some ∧ Reps K mg r H (kvs.map (·.2)) vs
  | .dkk kvs => ∃ (ob : Obj) (ks : List NestedKey) (as : List Addr) (vs : List V), H a = some (.frz ob (NdO wd a (ks.zip (as.zip vs)))) ∧ kvs.map (fun p => keyOf p.1) = ks.map some ∧ Reps K mg r H (kvs.map (·.1)) (as.map .ref) ∧ Reps K mg r H (kvs.map (·.2)) vs
  | .ins c fs => ∃ (C dx : Addr) (vs : List V), mg c = some (.ref C) ∧ H a = some (.ins C dx ((fs.map (·.1)).zip vs)) ∧ Reps K mg r H (fs.map (·.2)) vs
  | .exc c => ∃ C, mg c = some (.ref C) ∧ H a = some (CgO (.ref C) a)
structure HR (r : List Addr) (hp : MH) (H : Hp) : Prop where
  len : r.length = hp.length
  nd : r.Nodup
  obj : ∀ (n : Nat) (o : MO), hp[n]? = some o → ∃ a, r[n]? = some a ∧ ORep wd K mg r H a o
/-- from one state to a later one: what values lean on -/
structure Wk (r : List Addr) (H : Hp) (r' : List Addr) (H' : Hp) : Prop where
  pre : ∃ t, r' = r ++ t
  tup : ∀ a vs, SqT K H a vs → SqT K H' a vs
  fl : ∀ a vs, SqF K H a vs → SqF K H' a vs
structure Ext (r : List Addr) (H : Hp) (r' : List Addr) (H' : Hp) : Prop extends Wk K r H r' H' where
  keep : ∀ a o, H a = some o → a ∉ r → a ∉ r' ∧ H' a = some o
  frz : ∀ a ob u, H a = some (.frz ob u) → H' a = some (.frz ob u)
/-- slots -/
structure ES (r : List Addr) (H : Hp) (env : Ev) (σ : St) : Prop where
  len : σ.length = env.length
  val : ∀ (i : Nat) (d : D), env[i]? = some (some d) → ∃ v, σ[i]? = some (some v) ∧ Rep K mg r H d v
end
section
variable {wd : World} {K : PySem.W.Frag} {mg : Str → Option Value} {r r1 r2 : List Addr} {H H1 H2 : Hp}
theorem Ext.refl : Ext K r H r H := ⟨⟨⟨[], by simp⟩, fun _ _ e => e, fun _ _ e => e⟩, fun _ _ e n => ⟨n, e⟩, fun _ _ _ e => e⟩
theorem Ext.trans (a : Ext K r H r1 H1) (b : Ext K r1 H1 r2 H2) : Ext K r H r2 H2 := by
  refine ⟨⟨?_, fun x vs e => b.tup x vs (a.tup x vs e), fun x vs e => b.fl x vs (a.fl x vs e)⟩, fun x o e n => ?_, fun x o u e => b.frz x o u (a.frz x o u e)⟩
  · obtain ⟨t, e⟩ := a.pre
    obtain ⟨u, e'⟩ := b.pre
    exact ⟨t ++ u, by rw [e', e, List.append_assoc]⟩
  · obtain ⟨n1, e1⟩ := a.keep x o e n
    exact b.keep x o e1 n1
theorem Wk.at (e : Wk K r H r1 H1) {n : Nat} {a : Addr} (h : r[n]? = some a) : r1[n]? = some a := by
  obtain ⟨t, rfl⟩ := e.pre
  rw [List.getElem?_append_left (List.getElem?_eq_some_iff.mp h).1]
  exact h
mutual
theorem Rep.monoW (e : Wk K r H r1 H1) : ∀ (d : D) {v : V}, Rep K mg r H d v → Rep K mg r1 H1 d v
  | .non, _, h => by unfold Rep at h ⊢; exact h
  | .bl b, _, h => by unfold Rep at h ⊢; exact h
  | .int i, _, h => by unfold Rep at h ⊢; exact h
  | .str s, _, h => by unfold Rep at h ⊢; exact h
  | .ty s, _, h => by unfold Rep at h ⊢; exact h
  | .fn s, _, h => by unfold Rep at h ⊢; exact h
  | .obj n, _, h => by
    unfold Rep at h ⊢
    obtain ⟨a, ev, h⟩ := h
    exact ⟨a, ev, e.at h⟩
  | .tup ds, _, h => by
    unfold Rep at h ⊢
    obtain ⟨a, vs, ev, hs, hr⟩ := h
    exact ⟨a, vs, ev, e.tup a vs hs, Reps.monoW e ds hr⟩
  | .rol ds, _, h => by
    unfold Rep at h ⊢
    obtain ⟨a, vs, ev, hs, hr⟩ := h
    exact ⟨a, vs, ev, e.fl a vs hs, Reps.monoW e ds hr⟩
theorem Reps.monoW (e : Wk K r H r1 H1) : ∀ (ds : List D) {vs : List V}, Reps K mg r H ds vs → Reps K mg r1 H1 ds vs
  | [], _, h => by unfold Reps at h ⊢; exact h
  | d :: ds, _, h => by
    unfold Reps at h ⊢
    obtain ⟨v, us, ev, h1, h2⟩ := h
    exact ⟨v, us, ev, Rep.monoW e d h1, Reps.monoW e ds h2⟩
end
theorem Rep.mono (e : Ext K r H r1 H1) (d : D) {v : V} (h : Rep K mg r H d v) : Rep K mg r1 H1 d v := Rep.monoW e.toWk d h
theorem Reps.mono (e : Ext K r H r1 H1) (ds : List D) {vs : List V} (h : Reps K mg r H ds vs) : Reps K mg r1 H1 ds vs := Reps.monoW e.toWk ds h
theorem ES.mono (e : Ext K r H r1 H1) {env : Ev} {σ : St} (h : ES K mg r H env σ) : ES K mg r1 H1 env σ :=
  ⟨h.len, fun i d q => let ⟨v, h1, h2⟩ := h.val i d q; ⟨v, h1, Rep.mono e d h2⟩⟩
end

/-! ### what is to hold behind a run of the mirror -/
section
variable (wd : World) (K : PySem.W.Frag) (mg : Str → Option Value)
abbrev Rl (a b : Type) := List Addr → Hp → List Addr → Hp → a → b → Prop
def Post {a b : Type} (W : WX) (r : List Addr) (H : Hp) (σ : St) (L : Rl a b) (Q : b → Hp → Prop) : R a → Prop
  | .ok x hp => ∀ r' H' y, Ext K r H r' H' → HR wd K mg r' hp H' → L r H r' H' x y → Q y H'
  | .exc c hp => ∀ r' H' C, Ext K r H r' H' → HR wd K mg r' hp H' → mg c = some (.ref C) → W (.ref C) none σ H'
  | .err => False
/-- a relation that is kept when more comes ahead -/
class RlOk {a b : Type} (L : Rl a b) : Prop where
  back : ∀ {r H r1 H1 r2 H2 x y}, Ext K r H r1 H1 → Ext K r1 H1 r2 H2 → L r1 H1 r2 H2 x y → L r H r2 H2 x y
abbrev LV : Rl D V := fun _ _ r' H' x y => Rep K mg r' H' x y
abbrev LB : Rl Bool Bool := fun _ _ _ _ x y => x = y
abbrev LA : Rl (List D) (List V) := fun _ _ r' H' x y => Reps K mg r' H' x y
/-- a new list, unknown to the mirror's heap -/
abbrev LL : Rl (List D) V := fun _ H r' H' x y => ∃ a vs, y = .ref a ∧ a ∉ r' ∧ H a = none ∧ H' a = some (.lst vs) ∧ Reps K mg r' H' x vs
instance : RlOk K (LV K mg) := ⟨fun _ _ h => h⟩
instance : RlOk K LB := ⟨fun _ _ h => h⟩
instance : RlOk K (LA K mg) := ⟨fun _ _ h => h⟩
instance : RlOk K (LL K mg) := ⟨fun {r H r1 H1 r2 H2 x y} e e' h => by
  obtain ⟨a, vs, ey, n, n1, q⟩ := h
  refine ⟨a, vs, ey, n, ?_, q⟩
  cases z : H a with
  | none => rfl
  | some o =>
    have nr : a ∉ r := fun m => n (by
      obtain ⟨t, rfl⟩ := (e.trans e').pre
      exact List.mem_append_left _ m)
    have := (e.keep a o z nr).2
    rw [n1] at this; cases this⟩
def tR {a b : Type} (W : WX) (L : Rl a b) (f : E a) : St → Hp → (b → Hp → Prop) → Prop := fun σ H Q =>
  ∃ env hp r, ES K mg r H env σ ∧ HR wd K mg r hp H ∧ Post wd K mg W r H σ L Q (f env hp)
end
section
variable {wd : World} {K : PySem.W.Frag} {mg : Str → Option Value} {r r1 r2 : List Addr} {H H1 H2 : Hp} {W : WX} {σ : St} {a b c d : Type}
theorem Post.weaken {L : Rl a b} [RlOk K L] {Q : b → Hp → Prop} {x : R a} (e : Ext K r H r1 H1) (h : Post wd K mg W r H σ L Q x) : Post wd K mg W r1 H1 σ L Q x := by
  cases x with
  | ok x hp => exact fun r' H' y e' hr l => h r' H' y (e.trans e') hr (RlOk.back e e' l)
  | exc c hp => exact fun r' H' C e' hr m => h r' H' C (e.trans e') hr m
  | err => exact h
/-- the part that runs first -/
theorem Post.bind {L : Rl a b} {L2 : Rl c d} [RlOk K L2] {Q : d → Hp → Prop} {Q' : b → Hp → Prop} {x : R a} {k : a → MH → R c}
    (h : Post wd K mg W r H σ L2 Q (x.bind k))
    (hk : ∀ x hp1 r1 H1 y, Ext K r H r1 H1 → HR wd K mg r1 hp1 H1 → L r H r1 H1 x y → Post wd K mg W r1 H1 σ L2 Q (k x hp1) → Q' y H1) : Post wd K mg W r H σ L Q' x := by
  cases x with
  | ok x hp => exact fun r' H' y e' hr l => hk x hp r' H' y e' hr l (Post.weaken e' h)
  | exc c hp => exact h
  | err => exact h
theorem Post.imp {L : Rl a b} {Q Q' : b → Hp → Prop} {x : R a} (h : Post wd K mg W r H σ L Q x) (hk : ∀ y H, Q y H → Q' y H) : Post wd K mg W r H σ L Q' x := by
  cases x with
  | ok x hp => exact fun r' H' y e' hr l => hk _ _ (h r' H' y e' hr l)
  | exc c hp => exact h
  | err => exact h
end

/-! ### the judgements over the mirror -/
abbrev ME (X : Cx) (W : WX) (e : Expr) (f : E D) : Prop := PE X e (tR X.w X.K X.mg W (LV X.K X.mg) f)
abbrev MT (X : Cx) (W : WX) (e : Expr) (f : E Bool) : Prop := PT X e (tR X.w X.K X.mg W LB f)
abbrev MA (X : Cx) (W : WX) (es : List Expr) (f : E (List D)) : Prop := PA X es (tR X.w X.K X.mg W (LA X.K X.mg) f)
abbrev ML (X : Cx) (W : WX) (e : Expr) (f : E (List D)) : Prop := PE X e (tR X.w X.K X.mg W (LL X.K X.mg) f)
section
variable {X : Cx} {W : WX}
theorem PEm {e : Expr} {t t' : TE} (h : PE X e t) (k : ∀ σ H Q, t' σ H Q → t σ H Q) : PE X e t' := ⟨fun pins s σ H Q I q => h.run pins s σ H Q I (k σ H Q q)⟩
theorem PTm {e : Expr} {t t' : TT} (h : PT X e t) (k : ∀ σ H Q, t' σ H Q → t σ H Q) : PT X e t' := ⟨fun pins s σ H Q I q => h.run pins s σ H Q I (k σ H Q q)⟩
theorem PAm {es : List Expr} {t t' : TA} (h : PA X es t) (k : ∀ σ H Q, t' σ H Q → t σ H Q) : PA X es t' := ⟨fun pos pins s σ H Q I q => h.run pos pins s σ H Q I (k σ H Q q)⟩
theorem PSm {st : Stmt} {t t' : TS} (h : PS X st t) (k : ∀ D σ H, t' D σ H → t D σ H) : PS X st t' := ⟨fun pins s σ H D I q => h.run pins s σ H D I (k D σ H q)⟩
theorem PSsm {st : List Stmt} {t t' : TS} (h : PSs X st t) (k : ∀ D σ H, t' D σ H → t D σ H) : PSs X st t' := ⟨fun pins s σ H D I q => h.run pins s σ H D I (k D σ H q)⟩

/-! ### names, constants -/
def vVar (i : Nat) : E D := fun env hp => match env[i]? with
  | some (some d) => .ok d hp
  | _ => .err
def vC (d : D) : E D := fun _ hp => .ok d hp
theorem me_var (i : Nat) {x : Str} {pos : Pos} (hN : X.N[i]? = some x := by rfl) (hv : Vis X.env.scope x := by first | exact Or.inl rfl | exact Or.inr (Or.inl rfl) | exact Or.inr (Or.inr rfl)) (hd : (x == ("__debug__" : Str)) = false := by decide)
    (hcd : (x == ("__classdict__" : Str)) = false := by decide) : ME X W (.Name x pos) (vVar i) := by
  refine PEm (pe_var hN hv hd hcd) fun σ H Q h => ?_
  obtain ⟨env, hp, r, es, hr, p⟩ := h
  unfold vVar at p
  cases q : env[i]? with
  | none => rw [q] at p; exact p.elim
  | some o =>
    cases o with
    | none => rw [q] at p; exact p.elim
    | some d =>
      rw [q] at p
      obtain ⟨v, h1, h2⟩ := es.val i d q
      exact ⟨v, h1, p r H v Ext.refl hr h2⟩
theorem tC_of {d : D} {v : V} (hv : ∀ r H, Rep X.K X.mg r H d v) (σ : St) (H : Hp) (Q : VK) (h : tR X.w X.K X.mg W (LV X.K X.mg) (vC d) σ H Q) : tC v σ H Q := by
  obtain ⟨env, hp, r, es, hr, p⟩ := h
  exact p r H v Ext.refl hr (hv r H)
theorem me_int {i j pos} : ME X W (.Constant (.int i) j pos) (vC (.int i)) := PEm pe_int (tC_of (d := .int i) fun _ _ => by unfold Rep; rfl)
theorem me_bl {b j pos} : ME X W (.Constant (.bool b) j pos) (vC (.bl b)) := PEm pe_bl (tC_of (d := .bl b) fun _ _ => by unfold Rep; rfl)
theorem me_non {j pos} : ME X W (.Constant .none j pos) (vC .non) := PEm pe_non (tC_of (d := .non) fun _ _ => by unfold Rep; rfl)
theorem me_str {x : Str} {s : List Nat} {j pos} (h : x.cps.toList = s := by decide +kernel) : ME X W (.Constant (.str x) j pos) (vC (.str s)) := PEm pe_str (tC_of (d := .str s) fun _ _ => by unfold Rep; subst h; cases x; simp)
end
end FT
end
section
set_option maxRecDepth 100000
namespace FT
open PySem L2
set_option autoImplicit false

def LIM : Nat := 16777216
theorem lim_eq : LIM = sizeLine := rfl

/-! ### two operands -/
def op2 (p : D → D → MH → R D) (f g : E D) : E D := fun env hp => (f env hp).bind fun x h1 => (g env h1).bind fun y h2 => p x y h2
structure P2 (X : Cx) (fop : Value → Value → Sem Value) (p : D → D → MH → R D) : Prop where
  ex : ∃ r : R2, OpR X fop r ∧ ∀ (W : WX) (σ : L2.St) (rr : List Addr) (H : Hp) (hp : MH) (x y : D) (v w : V) (Q : VK), HR X.w X.K X.mg rr hp H → Rep X.K X.mg rr H x v → Rep X.K X.mg rr H y w → Post X.w X.K X.mg W rr H σ (LV X.K X.mg) Q (p x y hp) → r v w H Q
section
variable {X : Cx} {W : WX} {a b c : Expr} {f g k : E D} {pos : Pos}
theorem op2_run {p : D → D → MH → R D} {r : R2} {σ : L2.St} {H : Hp} {Q : VK}
    (hr : ∀ (rr : List Addr) (H : Hp) (hp : MH) (x y : D) (v w : V), HR X.w X.K X.mg rr hp H → Rep X.K X.mg rr H x v → Rep X.K X.mg rr H y w → Post X.w X.K X.mg W rr H σ (LV X.K X.mg) Q (p x y hp) → r v w H Q)
    (h : tR X.w X.K X.mg W (LV X.K X.mg) (op2 p f g) σ H Q) : tOp r (tR X.w X.K X.mg W (LV X.K X.mg) f) (tR X.w X.K X.mg W (LV X.K X.mg) g) σ H Q := by
  obtain ⟨env, hp, rr, es, hh, q⟩ := h
  refine ⟨env, hp, rr, es, hh, Post.bind q fun x hp1 r1 H1 v e1 hr1 rv q1 => ?_⟩
  refine ⟨env, hp1, r1, es.mono e1, hr1, Post.bind q1 fun y hp2 r2 H2 w e2 hr2 rw q2 => ?_⟩
  exact hr r2 H2 hp2 x y v w hr2 (Rep.mono e2 x rv) rw q2
theorem me_op {op : Operator} {p : D → D → MH → R D} (P : P2 X (binaryOp op) p) (ha : ME X W a f) (hb : ME X W b g) : ME X W (.BinOp a op b pos) (op2 p f g) := by
  obtain ⟨r, ho, hr⟩ := P.ex
  exact PEm (pe_op ho ha hb) fun σ H Q h => op2_run (fun rr H hp x y v w => hr W σ rr H hp x y v w Q) h
theorem me_cmp {op : CmpOp} {p : D → D → MH → R D} (P : P2 X (compareOp op) p) (ha : ME X W a f) (hb : ME X W b g) (hm : behindInMarks op b = false := by first | exact nobehind _ (by decide) (by decide) | rfl) : ME X W (.Compare a [op] [b] pos) (op2 p f g) := by
  obtain ⟨r, ho, hr⟩ := P.ex
  exact PEm (pe_cmpR ho ha hb hm) fun σ H Q h => op2_run (fun rr H hp x y v w => hr W σ rr H hp x y v w Q) h
/-- as a test -/
def vTest (f : E D) : E Bool := fun env hp => (f env hp).bind fun x h => match x with
  | .bl b => .ok b h
  | _ => .err
theorem test_run {σ : L2.St} {H : Hp} {Q : Bool → Hp → Prop} (h : tR X.w X.K X.mg W LB (vTest f) σ H Q) : tR X.w X.K X.mg W (LV X.K X.mg) f σ H (fun x H1 => ∃ c, x = .bl c ∧ Q c H1) := by
  obtain ⟨env, hp, rr, es, hh, q⟩ := h
  refine ⟨env, hp, rr, es, hh, Post.bind q fun x hp1 r1 H1 v e1 hr1 rv q1 => ?_⟩
  cases x with
  | bl c =>
    unfold LV Rep at rv
    exact ⟨c, rv, q1 r1 H1 c Ext.refl hr1 rfl⟩
  | _ => exact q1.elim
theorem mt_cmp {op : CmpOp} {p : D → D → MH → R D} (P : P2 X (compareOp op) p) (ha : ME X W a f) (hb : ME X W b g) (hm : behindInMarks op b = false := by first | exact nobehind _ (by decide) (by decide) | rfl) : MT X W (.Compare a [op] [b] pos) (vTest (op2 p f g)) := by
  obtain ⟨r, ho, hr⟩ := P.ex
  exact PTm (pt_cmpR ho ha hb hm) fun σ H Q h => op2_run (fun rr H hp x y v w => hr W σ rr H hp x y v w _) (test_run h)
theorem mt_val {e : Expr} (h : ME X W e f) (he : ∀ whole, isTrue e X.env whole = (do let v ← whole; standAt e.pos; holding [v] (truthy v)) := by intro _; rfl) : MT X W e (vTest f) :=
  PTm (pt_val h he) fun σ H Q q => test_run q
/-! ### and, or, not -/
def bAnd (f g : E Bool) : E Bool := fun env hp => (f env hp).bind fun x h => if x = true then g env h else .ok false h
def bOr (f g : E Bool) : E Bool := fun env hp => (f env hp).bind fun x h => if x = true then .ok true h else g env h
def bNot (f : E Bool) : E Bool := fun env hp => (f env hp).bind fun x h => .ok (!x) h
abbrev MW (X : Cx) (W : WX) (e : Expr) (f : E Bool) : Prop := PW X e (tR X.w X.K X.mg W LB f)
theorem PWm {e : Expr} {t t' : TT} (h : PW X e t) (k : ∀ σ H Q, t' σ H Q → t σ H Q) : PW X e t' := ⟨fun wh pins s σ H Q I q => h.run wh pins s σ H Q I (k σ H Q q)⟩
variable {fb gb : E Bool} {rest : List Expr}
theorem mw_and1 (ha : MT X W a fb) : MW X W (.BoolOp .And [a] pos) fb := pw_and1 ha
theorem mw_or1 (ha : MT X W a fb) : MW X W (.BoolOp .Or [a] pos) fb := pw_or1 ha
theorem mw_and (ha : MT X W a fb) (hb : MW X W (.BoolOp .And (b :: rest) pos) gb) : MW X W (.BoolOp .And (a :: b :: rest) pos) (bAnd fb gb) := by
  refine PWm (pw_and ha hb) fun σ H Q h => ?_
  obtain ⟨env, hp, rr, es, hh, q⟩ := h
  refine ⟨env, hp, rr, es, hh, Post.bind q fun x hp1 r1 H1 v e1 hr1 rv q1 => ?_⟩
  subst rv
  cases x with
  | true => exact ⟨env, hp1, r1, es.mono e1, hr1, q1⟩
  | false => exact q1 r1 H1 false Ext.refl hr1 rfl
theorem mw_or (ha : MT X W a fb) (hb : MW X W (.BoolOp .Or (b :: rest) pos) gb) : MW X W (.BoolOp .Or (a :: b :: rest) pos) (bOr fb gb) := by
  refine PWm (pw_or ha hb) fun σ H Q h => ?_
  obtain ⟨env, hp, rr, es, hh, q⟩ := h
  refine ⟨env, hp, rr, es, hh, Post.bind q fun x hp1 r1 H1 v e1 hr1 rv q1 => ?_⟩
  subst rv
  cases x with
  | false => exact ⟨env, hp1, r1, es.mono e1, hr1, q1⟩
  | true => exact q1 r1 H1 true Ext.refl hr1 rfl
theorem mt_w {e : Expr} (h : MW X W e fb) : MT X W e fb := PW.pt h
theorem mt_not (ha : MT X W a fb) : MT X W (.UnaryOp .Not a pos) (bNot fb) := by
  refine PTm (pt_not ha) fun σ H Q h => ?_
  obtain ⟨env, hp, rr, es, hh, q⟩ := h
  refine ⟨env, hp, rr, es, hh, Post.bind q fun x hp1 r1 H1 v e1 hr1 rv q1 => ?_⟩
  subst rv
  exact q1 r1 H1 (!x) Ext.refl hr1 rfl
/-- .. as values -/
def asB (x : D) (k : Bool → R D) : R D := match x with
  | .bl b => k b
  | _ => .err
def vAnd (f g : E D) : E D := fun env hp => (f env hp).bind fun x h => asB x fun c => if c = true then g env h else .ok (.bl false) h
def vOr (f g : E D) : E D := fun env hp => (f env hp).bind fun x h => asB x fun c => if c = true then .ok (.bl true) h else g env h
def vNot (f : E D) : E D := fun env hp => (f env hp).bind fun x h => asB x fun c => .ok (.bl (!c)) h
theorem me_one {op} (h : ME X W a f) : ME X W (.BoolOp op [a] pos) f := pe_one h
theorem me_and (ha : ME X W a f) (hb : ME X W (.BoolOp .And (b :: rest) pos) g) : ME X W (.BoolOp .And (a :: b :: rest) pos) (vAnd f g) := by
  refine PEm (pe_and ha hb) fun σ H Q h => ?_
  obtain ⟨env, hp, rr, es, hh, q⟩ := h
  refine ⟨env, hp, rr, es, hh, Post.bind q fun x hp1 r1 H1 v e1 hr1 rv q1 => ?_⟩
  cases x with
  | bl c =>
    unfold LV Rep at rv
    refine ⟨c, rv, ?_⟩
    cases c with
    | true => exact ⟨env, hp1, r1, es.mono e1, hr1, q1⟩
    | false => exact q1 r1 H1 _ Ext.refl hr1 (by unfold Rep; rfl)
  | _ => exact q1.elim
theorem me_or (ha : ME X W a f) (hb : ME X W (.BoolOp .Or (b :: rest) pos) g) : ME X W (.BoolOp .Or (a :: b :: rest) pos) (vOr f g) := by
  refine PEm (pe_or ha hb) fun σ H Q h => ?_
  obtain ⟨env, hp, rr, es, hh, q⟩ := h
  refine ⟨env, hp, rr, es, hh, Post.bind q fun x hp1 r1 H1 v e1 hr1 rv q1 => ?_⟩
  cases x with
  | bl c =>
    unfold LV Rep at rv
    refine ⟨c, rv, ?_⟩
    cases c with
    | false => exact ⟨env, hp1, r1, es.mono e1, hr1, q1⟩
    | true => exact q1 r1 H1 _ Ext.refl hr1 (by unfold Rep; rfl)
  | _ => exact q1.elim
theorem me_not (ha : ME X W a f) : ME X W (.UnaryOp .Not a pos) (vNot f) := by
  refine PEm (pe_not ha) fun σ H Q h => ?_
  obtain ⟨env, hp, rr, es, hh, q⟩ := h
  refine ⟨env, hp, rr, es, hh, Post.bind q fun x hp1 r1 H1 v e1 hr1 rv q1 => ?_⟩
  cases x with
  | bl c =>
    unfold LV Rep at rv
    exact ⟨c, rv, q1 r1 H1 _ Ext.refl hr1 (by unfold Rep; rfl)⟩
  | _ => exact q1.elim
def vIf (c : E Bool) (f g : E D) : E D := fun env hp => (c env hp).bind fun x h => if x = true then f env h else g env h
theorem me_if {t : Expr} (hc : MT X W t fb) (ha : ME X W a f) (hb : ME X W b g) : ME X W (.IfExp t a b pos) (vIf fb f g) := by
  refine PEm (pe_ifExp hc ha hb) fun σ H Q h => ?_
  obtain ⟨env, hp, rr, es, hh, q⟩ := h
  refine ⟨env, hp, rr, es, hh, Post.bind q fun x hp1 r1 H1 v e1 hr1 rv q1 => ?_⟩
  subst rv
  cases x with
  | true => exact ⟨env, hp1, r1, es.mono e1, hr1, q1⟩
  | false => exact ⟨env, hp1, r1, es.mono e1, hr1, q1⟩
/-- .. where both are new lists -/
def lIf (c : E Bool) (f g : E (List D)) : E (List D) := fun env hp => (c env hp).bind fun x h => if x = true then f env h else g env h
theorem ml_if {t : Expr} {fl gl : E (List D)} (hc : MT X W t fb) (ha : ML X W a fl) (hb : ML X W b gl) : ML X W (.IfExp t a b pos) (lIf fb fl gl) := by
  refine PEm (pe_ifExp hc ha hb) fun σ H Q h => ?_
  obtain ⟨env, hp, rr, es, hh, q⟩ := h
  refine ⟨env, hp, rr, es, hh, Post.bind q fun x hp1 r1 H1 v e1 hr1 rv q1 => ?_⟩
  subst rv
  cases x with
  | true => exact ⟨env, hp1, r1, es.mono e1, hr1, q1⟩
  | false => exact ⟨env, hp1, r1, es.mono e1, hr1, q1⟩
/-! ### a < b < c -/
def op3 (p q : D → D → MH → R D) (f g k : E D) : E D := fun env hp => (f env hp).bind fun x h1 => (g env h1).bind fun y h2 => (p x y h2).bind fun z h3 => asB z fun t => if t = true then (k env h3).bind fun w h4 => q y w h4 else .ok (.bl false) h3
theorem op3_run {p q : D → D → MH → R D} {r r' : R2} {σ : L2.St} {H : Hp} {Q : VK}
    (hr : ∀ (rr : List Addr) (H : Hp) (hp : MH) (x y : D) (v w : V) (Q : VK), HR X.w X.K X.mg rr hp H → Rep X.K X.mg rr H x v → Rep X.K X.mg rr H y w → Post X.w X.K X.mg W rr H σ (LV X.K X.mg) Q (p x y hp) → r v w H Q)
    (hr' : ∀ (rr : List Addr) (H : Hp) (hp : MH) (x y : D) (v w : V) (Q : VK), HR X.w X.K X.mg rr hp H → Rep X.K X.mg rr H x v → Rep X.K X.mg rr H y w → Post X.w X.K X.mg W rr H σ (LV X.K X.mg) Q (q x y hp) → r' v w H Q)
    (h : tR X.w X.K X.mg W (LV X.K X.mg) (op3 p q f g k) σ H Q) : tChain r r' (tR X.w X.K X.mg W (LV X.K X.mg) f) (tR X.w X.K X.mg W (LV X.K X.mg) g) (tR X.w X.K X.mg W (LV X.K X.mg) k) σ H Q := by
  obtain ⟨env, hp, rr, es, hh, q0⟩ := h
  refine ⟨env, hp, rr, es, hh, Post.bind q0 fun x hp1 r1 H1 v e1 hr1 rv q1 => ?_⟩
  refine ⟨env, hp1, r1, es.mono e1, hr1, Post.bind q1 fun y hp2 r2 H2 w e2 hr2 rw q2 => ?_⟩
  refine hr r2 H2 hp2 x y v w _ hr2 (Rep.mono e2 x rv) rw (Post.bind q2 fun z hp3 r3 H3 u e3 hr3 ru q3 => ?_)
  cases z with
  | bl c =>
    unfold LV Rep at ru
    refine ⟨c, ru, ?_⟩
    cases c with
    | true =>
      refine ⟨env, hp3, r3, (es.mono (e1.trans e2)).mono e3, hr3, Post.bind q3 fun x' hp4 r4 H4 v' e4 hr4 rv' q4 => ?_⟩
      exact hr' r4 H4 hp4 y x' w v' _ hr4 (Rep.mono (e3.trans e4) y rw) rv' q4
    | false => exact q3 r3 H3 _ Ext.refl hr3 (by unfold Rep; rfl)
  | _ => exact q3.elim
theorem me_chain {op op' : CmpOp} {p q : D → D → MH → R D} (P : P2 X (compareOp op) p) (P' : P2 X (compareOp op') q) (ha : ME X W a f) (hb : ME X W b g) (hc : ME X W c k) (hm : lastMarks [op, op'] [b, c] = false := by with_unfolding_all rfl) : ME X W (.Compare a [op, op'] [b, c] pos) (op3 p q f g k) := by
  obtain ⟨r, ho, hr⟩ := P.ex
  obtain ⟨r', ho', hr'⟩ := P'.ex
  exact PEm (pe_chain ho ho' ha hb hc hm) fun σ H Q h => op3_run (fun rr H hp x y v w Q => hr W σ rr H hp x y v w Q) (fun rr H hp x y v w Q => hr' W σ rr H hp x y v w Q) h
theorem mt_chain {op op' : CmpOp} {p q : D → D → MH → R D} (P : P2 X (compareOp op) p) (P' : P2 X (compareOp op') q) (ha : ME X W a f) (hb : ME X W b g) (hc : ME X W c k) (hm : lastMarks [op, op'] [b, c] = false := by with_unfolding_all rfl) : MT X W (.Compare a [op, op'] [b, c] pos) (vTest (op3 p q f g k)) := by
  obtain ⟨r, ho, hr⟩ := P.ex
  obtain ⟨r', ho', hr'⟩ := P'.ex
  exact PTm (pt_chain ho ho' ha hb hc hm) fun σ H Q h => op3_run (fun rr H hp x y v w Q => hr W σ rr H hp x y v w Q) (fun rr H hp x y v w Q => hr' W σ rr H hp x y v w Q) (test_run h)
end
end FT
end
section
set_option maxRecDepth 100000
namespace FT
open PySem L2
set_option autoImplicit false

section
variable {X : Cx}
/-! ### what a value that stands for a datum is -/
theorem rep_int {K : PySem.W.Frag} {mg : Str → Option Value} {r : List Addr} {H : Hp} {i : Int} {v : V} (h : Rep K mg r H (.int i) v) : v = .int i := by unfold Rep at h; exact h
theorem rep_bl {K : PySem.W.Frag} {mg : Str → Option Value} {r : List Addr} {H : Hp} {i : Bool} {v : V} (h : Rep K mg r H (.bl i) v) : v = .bl i := by unfold Rep at h; exact h
theorem rep_non {K : PySem.W.Frag} {mg : Str → Option Value} {r : List Addr} {H : Hp} {v : V} (h : Rep K mg r H .non v) : v = .non := by unfold Rep at h; exact h
theorem rep_str {K : PySem.W.Frag} {mg : Str → Option Value} {r : List Addr} {H : Hp} {s : List Nat} {v : V} (h : Rep K mg r H (.str s) v) : v = .str ⟨s.toArray⟩ := by unfold Rep at h; exact h
theorem rep_tup {K : PySem.W.Frag} {mg : Str → Option Value} {r : List Addr} {H : Hp} {ds : List D} {v : V} (h : Rep K mg r H (.tup ds) v) : ∃ a vs, v = .ref a ∧ SqT K H a vs ∧ Reps K mg r H ds vs := by unfold Rep at h; exact h
theorem rep_obj {K : PySem.W.Frag} {mg : Str → Option Value} {r : List Addr} {H : Hp} {n : Nat} {v : V} (h : Rep K mg r H (.obj n) v) : ∃ a, v = .ref a ∧ r[n]? = some a := by unfold Rep at h; exact h
theorem of_int {K : PySem.W.Frag} {mg : Str → Option Value} {r : List Addr} {H : Hp} {i : Int} : Rep K mg r H (.int i) (.int i) := by unfold Rep; rfl
theorem of_bl {K : PySem.W.Frag} {mg : Str → Option Value} {r : List Addr} {H : Hp} {i : Bool} : Rep K mg r H (.bl i) (.bl i) := by unfold Rep; rfl
theorem of_non {K : PySem.W.Frag} {mg : Str → Option Value} {r : List Addr} {H : Hp} : Rep K mg r H .non .non := by unfold Rep; rfl
theorem of_str {K : PySem.W.Frag} {mg : Str → Option Value} {r : List Addr} {H : Hp} {s : List Nat} : Rep K mg r H (.str s) (.str ⟨s.toArray⟩) := by unfold Rep; rfl
theorem of_tup {K : PySem.W.Frag} {mg : Str → Option Value} {r : List Addr} {H : Hp} {ds : List D} {a : Addr} {vs : List V} (h : SqT K H a vs) (q : Reps K mg r H ds vs) : Rep K mg r H (.tup ds) (.ref a) := by unfold Rep; exact ⟨a, vs, rfl, h, q⟩
theorem of_obj {K : PySem.W.Frag} {mg : Str → Option Value} {r : List Addr} {H : Hp} {n : Nat} {a : Addr} (h : r[n]? = some a) : Rep K mg r H (.obj n) (.ref a) := by unfold Rep; exact ⟨a, rfl, h⟩
section
variable {wd : World} {K : PySem.W.Frag} {mg : Str → Option Value} {r : List Addr} {H : Hp}
theorem reps_len : ∀ {ds : List D} {vs : List V}, Reps K mg r H ds vs → vs.length = ds.length
  | [], _, h => by unfold Reps at h; rw [h]; rfl
  | d :: ds, _, h => by
    unfold Reps at h
    obtain ⟨v, us, rfl, _, h2⟩ := h
    simp [reps_len h2]
theorem reps_nil : Reps K mg r H [] [] := by unfold Reps; rfl
theorem reps_cons {d : D} {ds : List D} {v : V} {vs : List V} (h : Rep K mg r H d v) (q : Reps K mg r H ds vs) : Reps K mg r H (d :: ds) (v :: vs) := by unfold Reps; exact ⟨v, vs, rfl, h, q⟩
theorem reps_get : ∀ {ds : List D} {vs : List V} {i : Nat} {d : D}, Reps K mg r H ds vs → ds[i]? = some d → ∃ v, vs[i]? = some v ∧ Rep K mg r H d v
  | [], _, _, _, _, e => by simp at e
  | x :: ds, _, 0, d, h, e => by
    unfold Reps at h
    obtain ⟨v, us, rfl, h1, h2⟩ := h
    simp at e
    subst e
    exact ⟨v, rfl, h1⟩
  | x :: ds, _, i + 1, d, h, e => by
    unfold Reps at h
    obtain ⟨v, us, rfl, h1, h2⟩ := h
    obtain ⟨w, e1, e2⟩ := reps_get h2 (by simpa using e)
    exact ⟨w, by simpa using e1, e2⟩
theorem reps_append : ∀ {ds es : List D} {vs ws : List V}, Reps K mg r H ds vs → Reps K mg r H es ws → Reps K mg r H (ds ++ es) (vs ++ ws)
  | [], es, _, _, h, q => by unfold Reps at h; subst h; exact q
  | d :: ds, es, _, _, h, q => by
    unfold Reps at h
    obtain ⟨v, us, rfl, h1, h2⟩ := h
    exact reps_cons h1 (reps_append h2 q)
theorem reps_take : ∀ {ds : List D} {vs : List V} (n : Nat), Reps K mg r H ds vs → Reps K mg r H (ds.take n) (vs.take n)
  | [], _, n, h => by unfold Reps at h; subst h; simp; exact reps_nil
  | d :: ds, _, 0, h => by simp; exact reps_nil
  | d :: ds, _, n + 1, h => by
    unfold Reps at h
    obtain ⟨v, us, rfl, h1, h2⟩ := h
    simp only [List.take_succ_cons]
    exact reps_cons h1 (reps_take n h2)
theorem reps_drop : ∀ {ds : List D} {vs : List V} (n : Nat), Reps K mg r H ds vs → Reps K mg r H (ds.drop n) (vs.drop n)
  | [], _, n, h => by unfold Reps at h; subst h; simp; exact reps_nil
  | d :: ds, _, 0, h => by simpa using h
  | d :: ds, _, n + 1, h => by
    unfold Reps at h
    obtain ⟨v, us, rfl, h1, h2⟩ := h
    simp only [List.drop_succ_cons]
    exact reps_drop n h2
theorem reps_set {d : D} {v : V} (q : Rep K mg r H d v) : ∀ {ds : List D} {vs : List V} (n : Nat), Reps K mg r H ds vs → Reps K mg r H (ds.set n d) (vs.set n v)
  | [], _, n, h => by unfold Reps at h; subst h; simp; exact reps_nil
  | x :: ds, _, 0, h => by
    unfold Reps at h
    obtain ⟨w, us, rfl, h1, h2⟩ := h
    exact reps_cons q h2
  | x :: ds, _, n + 1, h => by
    unfold Reps at h
    obtain ⟨w, us, rfl, h1, h2⟩ := h
    exact reps_cons h1 (reps_set q n h2)
theorem reps_reverse : ∀ {ds : List D} {vs : List V}, Reps K mg r H ds vs → Reps K mg r H ds.reverse vs.reverse
  | [], _, h => by unfold Reps at h; subst h; exact reps_nil
  | d :: ds, _, h => by
    unfold Reps at h
    obtain ⟨v, us, rfl, h1, h2⟩ := h
    simp only [List.reverse_cons]
    exact reps_append (reps_reverse h2) (reps_cons h1 reps_nil)
theorem reps_ints : ∀ {ns : List Int} {vs : List V}, Reps K mg r H (ns.map .int) vs → vs = ns.map V.int
  | [], _, h => by unfold List.map Reps at h; exact h
  | n :: ns, _, h => by
    unfold List.map Reps at h
    obtain ⟨v, us, rfl, h1, h2⟩ := h
    rw [rep_int h1, reps_ints h2]; rfl
theorem of_ints : ∀ {ns : List Int}, Reps K mg r H (ns.map .int) (ns.map V.int)
  | [] => reps_nil
  | n :: ns => reps_cons of_int of_ints
theorem reps_bls : ∀ {ns : List Bool} {vs : List V}, Reps K mg r H (ns.map .bl) vs → vs = ns.map V.bl
  | [], _, h => by unfold List.map Reps at h; exact h
  | n :: ns, _, h => by
    unfold List.map Reps at h
    obtain ⟨v, us, rfl, h1, h2⟩ := h
    rw [rep_bl h1, reps_bls h2]; rfl
theorem reps_strs : ∀ {ns : List (List Nat)} {vs : List V}, Reps K mg r H (ns.map .str) vs → vs = ns.map fun s => V.str ⟨s.toArray⟩
  | [], _, h => by unfold List.map Reps at h; exact h
  | n :: ns, _, h => by
    unfold List.map Reps at h
    obtain ⟨v, us, rfl, h1, h2⟩ := h
    rw [rep_str h1, reps_strs h2]; rfl
theorem of_strs : ∀ {ns : List (List Nat)}, Reps K mg r H (ns.map .str) (ns.map fun s => V.str ⟨s.toArray⟩)
  | [] => reps_nil
  | n :: ns => reps_cons of_str of_strs
end
/-! ### a new object behind: what stood is as it was -/
section
variable {wd : World} {K : PySem.W.Frag} {mg : Str → Option Value} {r : List Addr} {H : Hp} {hp : MH} {p : Addr} {o : HO}
theorem sqt_upd_new {a : Addr} {vs : List V} (hn : H p = none) (h : SqT K H a vs) : SqT K (upd H p o) a vs := by
  rcases h with (h | ⟨ob, h⟩) | h
  · exact .inl (.inl (by rw [upd_ne (ne_of_none h hn)]; exact h))
  · exact .inl (.inr ⟨ob, by rw [upd_ne (ne_of_none h hn)]; exact h⟩)
  · exact .inr h
theorem sql_upd_new {a : Addr} {vs : List V} (hn : H p = none) (h : SqL K H a vs) : SqL K (upd H p o) a vs := by
  rcases h with (h | ⟨ob, h⟩) | h
  · exact .inl (.inl (by rw [upd_ne (ne_of_none h hn)]; exact h))
  · exact .inl (.inr ⟨ob, by rw [upd_ne (ne_of_none h hn)]; exact h⟩)
  · exact .inr h
theorem ext_new (hn : H p = none) : Ext K r H r (upd H p o) := ⟨⟨⟨[], by simp⟩, fun a vs h => sqt_upd_new hn h, fun a vs h => by
    rcases h with ⟨ob, h⟩ | h
    · exact .inl ⟨ob, by rw [upd_ne (ne_of_none h hn)]; exact h⟩
    · exact .inr h⟩, fun a u e n => ⟨n, by rw [upd_ne (ne_of_none e hn)]; exact e⟩, fun a ob u e => by rw [upd_ne (ne_of_none e hn)]; exact e⟩

theorem ORep.some {a : Addr} {o : MO} (h : ORep wd K mg r H a o) : ∃ u, H a = some u := by
  cases o with
  | lst xs => obtain ⟨vs, e, _⟩ := h; exact ⟨_, e⟩
  | dic _ => obtain ⟨ks, vs, e, _⟩ := h; exact ⟨_, e⟩
  | dik _ => obtain ⟨ks, as, vs, e, _⟩ := h; exact ⟨_, e⟩
  | dlk _ => obtain ⟨ob, ks, vs, e, _⟩ := h; exact ⟨_, e⟩
  | dkk _ => obtain ⟨ob, ks, as, vs, e, _⟩ := h; exact ⟨_, e⟩
  | ins _ _ => obtain ⟨C, dx, vs, _, e, _⟩ := h; exact ⟨_, e⟩
  | exc c => obtain ⟨C, _, e⟩ := h; exact ⟨_, e⟩
theorem ORep.mono {r' : List Addr} {H' : Hp} {a : Addr} {o : MO} (e : Wk K r H r' H') (ha : H' a = H a) (h : ORep wd K mg r H a o) : ORep wd K mg r' H' a o := by
  cases o with
  | lst xs => obtain ⟨vs, q, h⟩ := h; exact ⟨vs, ha.trans q, Reps.monoW e xs h⟩
  | dic kvs => obtain ⟨ks, vs, q, e1, h⟩ := h; exact ⟨ks, vs, ha.trans q, e1, Reps.monoW e _ h⟩
  | dik kvs => obtain ⟨ks, as, vs, q, e1, h1, h2⟩ := h; exact ⟨ks, as, vs, ha.trans q, e1, Reps.monoW e _ h1, Reps.monoW e _ h2⟩
  | dlk kvs => obtain ⟨ob, ks, vs, q, e1, h⟩ := h; exact ⟨ob, ks, vs, ha.trans q, e1, Reps.monoW e _ h⟩
  | dkk kvs => obtain ⟨ob, ks, as, vs, q, e1, h1, h2⟩ := h; exact ⟨ob, ks, as, vs, ha.trans q, e1, Reps.monoW e _ h1, Reps.monoW e _ h2⟩
  | ins c fs => obtain ⟨C, dx, vs, m, q, h⟩ := h; exact ⟨C, dx, vs, m, ha.trans q, Reps.monoW e _ h⟩
  | exc c => obtain ⟨C, m, q⟩ := h; exact ⟨C, m, ha.trans q⟩
theorem hr_new (h : HR wd K mg r hp H) (hn : H p = none) : HR wd K mg r hp (upd H p o) :=
  ⟨h.len, h.nd, fun n ob q => by
    obtain ⟨a, e, q⟩ := h.obj n ob q
    obtain ⟨u, z⟩ := q.some
    exact ⟨a, e, q.mono (ext_new hn).toWk (upd_ne (ne_of_none z hn))⟩⟩
theorem hr_in (h : HR wd K mg r hp H) {a : Addr} (ha : a ∈ r) : ∃ u, H a = some u := by
  obtain ⟨n, e⟩ := List.mem_iff_getElem?.mp ha
  have hl : n < hp.length := by rw [← h.len]; exact (List.getElem?_eq_some_iff.mp e).1
  obtain ⟨b, e2, q⟩ := h.obj n hp[n] (List.getElem?_eq_getElem hl)
  rw [e] at e2; cases e2
  exact q.some
theorem hr_nin (h : HR wd K mg r hp H) (hn : H p = none) : p ∉ r := fun m => by
  obtain ⟨u, z⟩ := hr_in h m
  rw [hn] at z; cases z
/-- an object that was made becomes one of the mirror's -/
theorem ext_push (h : HR wd K mg r hp H) (hn : H p = none) : Ext K r H (r ++ [p]) (upd H p o) := by
  have e := ext_new (K := K) (r := r) (o := o) hn
  refine ⟨⟨⟨[p], rfl⟩, e.tup, e.fl⟩, fun a u q n => ?_, e.frz⟩
  refine ⟨fun m => ?_, (e.keep a u q n).2⟩
  rcases List.mem_append.mp m with m | m
  · exact n m
  · have : a = p := by simpa using m
    subst this
    rw [hn] at q; cases q
theorem hr_push {xs : List D} {vs : List V} (h : HR wd K mg r hp H) (hn : H p = none) (q : Reps K mg r H xs vs) : HR wd K mg (r ++ [p]) (hp ++ [.lst xs]) (upd H p (.lst vs)) := by
  have e := ext_push (o := .lst vs) h hn
  refine ⟨by simp [h.len], ?_, fun n ob z => ?_⟩
  · rw [List.nodup_append]
    refine ⟨h.nd, by simp, fun a ha b hb => ?_⟩
    have : b = p := by simpa using hb
    subst this
    exact fun z => hr_nin h hn (z ▸ ha)
  · by_cases hl : n < hp.length
    · rw [List.getElem?_append_left hl] at z
      obtain ⟨a, e1, q1⟩ := h.obj n ob z
      obtain ⟨u, z1⟩ := q1.some
      exact ⟨a, e.at e1, q1.mono e.toWk (upd_ne (ne_of_none z1 hn))⟩
    · have hl2 : n = hp.length := by
        have := (List.getElem?_eq_some_iff.mp z).1
        simp at this
        omega
      subst hl2
      simp at z
      subst z
      refine ⟨p, ?_, vs, upd_same, Reps.mono e xs q⟩
      rw [← h.len]; simp
/-- a new object of any kind -/
theorem hr_pushO {mo : MO} (h : HR wd K mg r hp H) (hn : H p = none) (q : ORep wd K mg (r ++ [p]) (upd H p o) p mo) : HR wd K mg (r ++ [p]) (hp ++ [mo]) (upd H p o) := by
  have e := ext_push (o := o) h hn
  refine ⟨by simp [h.len], ?_, fun n ob z => ?_⟩
  · rw [List.nodup_append]
    refine ⟨h.nd, by simp, fun a ha b hb => ?_⟩
    have : b = p := by simpa using hb
    subst this
    exact fun z => hr_nin h hn (z ▸ ha)
  · by_cases hl : n < hp.length
    · rw [List.getElem?_append_left hl] at z
      obtain ⟨a, e1, q1⟩ := h.obj n ob z
      obtain ⟨u, z1⟩ := q1.some
      exact ⟨a, e.at e1, q1.mono e.toWk (upd_ne (ne_of_none z1 hn))⟩
    · have hl2 : n = hp.length := by
        have := (List.getElem?_eq_some_iff.mp z).1
        simp at this
        omega
      subst hl2
      simp at z
      subst z
      refine ⟨p, ?_, q⟩
      rw [← h.len]; simp
/-- .. one that is there already and unknown to the mirror -/
theorem ext_take {a : Addr} {H0 : Hp} {r0 : List Addr} (e : Ext K r0 H0 r H) (na : a ∉ r) (h0 : H0 a = none) : Ext K r0 H0 (r ++ [a]) H := by
  obtain ⟨t, rfl⟩ := e.pre
  refine ⟨⟨⟨t ++ [a], by simp⟩, e.tup, e.fl⟩, fun b u q n => ?_, e.frz⟩
  obtain ⟨n1, q1⟩ := e.keep b u q n
  refine ⟨fun m => ?_, q1⟩
  rcases List.mem_append.mp m with m | m
  · exact n1 m
  · have : b = a := by simpa using m
    subst this
    rw [h0] at q; cases q
theorem hr_take {xs : List D} {vs : List V} {a : Addr} (h : HR wd K mg r hp H) (na : a ∉ r) (ea : H a = some (.lst vs)) (q : Reps K mg r H xs vs) : HR wd K mg (r ++ [a]) (hp ++ [.lst xs]) H := by
  have e : Wk K r H (r ++ [a]) H := ⟨⟨[a], rfl⟩, fun _ _ z => z, fun _ _ z => z⟩
  refine ⟨by simp [h.len], ?_, fun n ob z => ?_⟩
  · rw [List.nodup_append]
    refine ⟨h.nd, by simp, fun b hb c hc => ?_⟩
    have : c = a := by simpa using hc
    subst this
    exact fun z => na (z ▸ hb)
  · by_cases hl : n < hp.length
    · rw [List.getElem?_append_left hl] at z
      obtain ⟨b, e1, q1⟩ := h.obj n ob z
      exact ⟨b, e.at e1, q1.mono e rfl⟩
    · have hl2 : n = hp.length := by
        have := (List.getElem?_eq_some_iff.mp z).1
        simp at this
        omega
      subst hl2
      simp at z
      subst z
      refine ⟨a, ?_, vs, ea, Reps.monoW e xs q⟩
      rw [← h.len]; simp
/-- no value leans on what stands there -/
def Loose : HO → Prop
  | .tup _ => False
  | .frz _ _ => False
  | _ => True
/-- another content of an object that is ours -/
theorem hr_setO {n : Nat} {a : Addr} {x mo : MO} {u : HO} (h : HR wd K mg r hp H) (ha : r[n]? = some a) (hx : hp[n]? = some x) (hl : ∀ u0, H a = some u0 → Loose u0) (q : Ext K r H r (upd H a u) → ORep wd K mg r (upd H a u) a mo) :
    Ext K r H r (upd H a u) ∧ HR wd K mg r (hp.set n mo) (upd H a u) := by
  have hin : a ∈ r := List.mem_of_getElem? ha
  have e : Ext K r H r (upd H a u) := by
    refine ⟨⟨⟨[], by simp⟩, fun c ws z => ?_, fun c ws z => ?_⟩, fun c u z nc => ⟨nc, ?_⟩, fun c ob u z => by rw [upd_ne (fun w : c = a => by subst w; exact hl _ z)]; exact z⟩
    rotate_left 2
    · rw [upd_ne (fun w : c = a => nc (by rw [w]; exact hin))]; exact z
    · rcases z with (z | ⟨ob, z⟩) | z
      · exact .inl (.inl (by rw [upd_ne (fun w : c = a => by subst w; exact hl _ z)]; exact z))
      · exact .inl (.inr ⟨ob, by rw [upd_ne (fun w : c = a => by subst w; exact hl _ z)]; exact z⟩)
      · exact .inr z
    · rcases z with ⟨ob, z⟩ | z
      · exact .inl ⟨ob, by rw [upd_ne (fun w : c = a => by subst w; exact hl _ z)]; exact z⟩
      · exact .inr z
  refine ⟨e, ⟨by simpa using h.len, h.nd, fun m ob z => ?_⟩⟩
  by_cases hm : m = n
  · subst hm
    have hl : m < hp.length := (List.getElem?_eq_some_iff.mp hx).1
    rw [List.getElem?_set_self hl] at z
    cases z
    exact ⟨a, ha, q e⟩
  · rw [List.getElem?_set_ne (Ne.symm hm)] at z
    obtain ⟨c, e2, q2⟩ := h.obj m ob z
    have hca : c ≠ a := fun w => by
      subst w
      exact hm (by
        obtain ⟨l1, g1⟩ := List.getElem?_eq_some_iff.mp e2
        obtain ⟨l2, g2⟩ := List.getElem?_eq_some_iff.mp ha
        exact (List.getElem_inj h.nd).mp (g1.trans g2.symm))
    exact ⟨c, e2, q2.mono e.toWk (upd_ne hca)⟩
theorem hr_set {n : Nat} {a : Addr} {xs ys : List D} {vs : List V} (h : HR wd K mg r hp H) (ha : r[n]? = some a) (hx : hp[n]? = some (.lst xs)) (q : Reps K mg r H ys vs) :
    Ext K r H r (upd H a (.lst vs)) ∧ HR wd K mg r (hp.set n (.lst ys)) (upd H a (.lst vs)) := by
  obtain ⟨b, e1, us, eb, _⟩ := h.obj n _ hx
  rw [ha] at e1; cases e1
  have hin : a ∈ r := List.mem_of_getElem? ha
  have e : Ext K r H r (upd H a (.lst vs)) := by
    refine ⟨⟨⟨[], by simp⟩, fun c ws z => ?_, fun c ws z => ?_⟩, fun c u z nc => ⟨nc, ?_⟩, fun c ob u z => by rw [upd_ne (ne_of z eb (by intro w; cases w))]; exact z⟩
    rotate_left 2
    · rw [upd_ne (fun w : c = a => nc (by rw [w]; exact hin))]; exact z
    · rcases z with (z | ⟨ob, z⟩) | z
      · exact .inl (.inl (by rw [upd_ne (ne_of z eb (by intro w; cases w))]; exact z))
      · exact .inl (.inr ⟨ob, by rw [upd_ne (ne_of z eb (by intro w; cases w))]; exact z⟩)
      · exact .inr z
    · rcases z with ⟨ob, z⟩ | z
      · exact .inl ⟨ob, by rw [upd_ne (ne_of z eb (by intro w; cases w))]; exact z⟩
      · exact .inr z
  refine ⟨e, ⟨by simpa using h.len, h.nd, fun m ob z => ?_⟩⟩
  by_cases hm : m = n
  · subst hm
    have hl : m < hp.length := (List.getElem?_eq_some_iff.mp hx).1
    rw [List.getElem?_set_self hl] at z
    cases z
    exact ⟨a, ha, vs, upd_same, Reps.mono e ys q⟩
  · rw [List.getElem?_set_ne (Ne.symm hm)] at z
    obtain ⟨c, e2, q2⟩ := h.obj m ob z
    have hca : c ≠ a := fun w => by
      subst w
      exact hm (by
        obtain ⟨l1, g1⟩ := List.getElem?_eq_some_iff.mp e2
        obtain ⟨l2, g2⟩ := List.getElem?_eq_some_iff.mp ha
        exact (List.getElem_inj h.nd).mp (g1.trans g2.symm))
    exact ⟨c, e2, q2.mono e.toWk (upd_ne hca)⟩
end
end
end FT
end
section
set_option maxRecDepth 100000
namespace FT
open PySem L2
set_option autoImplicit false
theorem str_app (s t : List Nat) : ((⟨s.toArray⟩ : Str) ++ (⟨t.toArray⟩ : Str)) = ⟨(s ++ t).toArray⟩ := by
  show (Str.append _ _) = _
  unfold Str.append
  simp
theorem str_len (s : List Nat) : (⟨s.toArray⟩ : Str).length = s.length := by unfold Str.length; simp
def addM : D → D → MH → R D
  | .int i, .int j, h => .ok (.int (i + j)) h
  | .str s, .str t, h => if s.length + t.length ≤ LIM then .ok (.str (s ++ t)) h else .err
  | .tup xs, .tup ys, h => if xs.length + ys.length ≤ LIM then .ok (.tup (xs ++ ys)) h else .err
  | .obj m, .obj n, h => match h[m]?, h[n]? with
    | some (.lst xs), some (.lst ys) => if xs.length + ys.length ≤ LIM then .ok (.obj h.length) (h ++ [.lst (xs ++ ys)]) else .err
    | _, _ => .err
  | _, _, _ => .err
def subM : D → D → MH → R D
  | .int i, .int j, h => .ok (.int (i - j)) h
  | _, _, _ => .err
def mulOk (i j : Int) : Bool := decide (-(2 ^ 64) < i ∧ i < 2 ^ 64) || decide (-(2 ^ 64) < j ∧ j < 2 ^ 64)
def mulM : D → D → MH → R D
  | .int i, .int j, h => if mulOk i j = true then .ok (.int (i * j)) h else .err
  | .tup xs, .int k, h => if xs ≠ [] ∧ 2 ≤ k ∧ k ≤ 1000 ∧ xs.length ≤ 1000 then .ok (.tup (List.replicate k.toNat xs).flatten) h else .err
  | _, _, _ => .err
def fdivM : D → D → MH → R D
  | .int i, .int j, h => if 0 < j ∧ j < 1073741824 then .ok (.int (i / j)) h else .err
  | _, _, _ => .err
def modM : D → D → MH → R D
  | .int i, .int j, h => if 0 < j then .ok (.int (i % j)) h else .err
  | _, _, _ => .err
def powM : D → D → MH → R D
  | .int i, .int j, h => if 0 ≤ j ∧ j ≤ 1000000 ∧ i.natAbs < 2 ^ 64 then .ok (.int (i ^ j.toNat)) h else .err
  | _, _, _ => .err
section
variable {X : Cx}
theorem post_at {wd : World} {K : PySem.W.Frag} {mg : Str → Option Value} {W : WX} {r : List Addr} {H : Hp} {hp : MH} {σ : L2.St} {Q : VK} {d : D} {v : V} (hr : HR wd K mg r hp H) (p : Post wd K mg W r H σ (LV K mg) Q (.ok d hp)) (h : Rep K mg r H d v) : Q v H := p r H v Ext.refl hr h
/-- a new tuple -/
theorem post_tup {wd : World} {K : PySem.W.Frag} {mg : Str → Option Value} {W : WX} {r : List Addr} {H : Hp} {hp : MH} {σ : L2.St} {Q : VK} {ds : List D} {vs : List V} {q : Addr} (hr : HR wd K mg r hp H) (p : Post wd K mg W r H σ (LV K mg) Q (.ok (.tup ds) hp)) (h : Reps K mg r H ds vs) (hn : H q = none) : Q (.ref q) (upd H q (.tup vs)) :=
  p r _ (.ref q) (ext_new hn) (hr_new hr hn) (of_tup (SqT.of upd_same) (Reps.mono (ext_new hn) ds h))
/-- a new list of the mirror's -/
theorem post_lst {wd : World} {K : PySem.W.Frag} {mg : Str → Option Value} {W : WX} {r : List Addr} {H : Hp} {hp : MH} {σ : L2.St} {Q : VK} {ds : List D} {vs : List V} {q : Addr} (hr : HR wd K mg r hp H) (p : Post wd K mg W r H σ (LV K mg) Q (.ok (.obj hp.length) (hp ++ [.lst ds]))) (h : Reps K mg r H ds vs) (hn : H q = none) : Q (.ref q) (upd H q (.lst vs)) :=
  p (r ++ [q]) _ (.ref q) (ext_push hr hn) (hr_push hr hn h) (of_obj (by rw [← hr.len]; simp))
theorem p_add : P2 X (binaryOp .Add) addM := by
  refine ⟨_, op_add.or (op_add_str.or (op_catA.or op_cat)), fun W σ rr H hp x y v w Q hr rx ry p => ?_⟩
  cases x <;> cases y <;> try exact False.elim p
  · rename_i i j
    obtain rfl := rep_int rx
    obtain rfl := rep_int ry
    exact .inl ⟨i, j, rfl, rfl, post_at hr p of_int⟩
  · rename_i s t
    obtain rfl := rep_str rx
    obtain rfl := rep_str ry
    simp only [addM] at p
    split at p
    · rename_i hl
      exact .inr (.inl ⟨_, _, rfl, rfl, by rw [str_len, str_len]; exact hl, by rw [str_app]; exact post_at hr p of_str⟩)
    · exact False.elim p
  · rename_i xs ys
    obtain ⟨a, vs, rfl, h1, h2⟩ := rep_tup rx
    obtain ⟨b, ws, rfl, h3, h4⟩ := rep_tup ry
    simp only [addM] at p
    split at p
    · rename_i hl
      refine .inr (.inr (.inl ⟨a, b, vs, ws, rfl, rfl, h1, h3, by rw [reps_len h2, reps_len h4]; exact hl, fun z => ?_, fun _ z => ?_, fun _ _ q hq => post_tup hr p (reps_append h2 h4) hq⟩))
      · subst z
        have z : xs = [] := List.length_eq_zero_iff.mp (reps_len h2).symm
        subst z
        exact post_at hr p (of_tup h3 h4)
      · subst z
        have z : ys = [] := List.length_eq_zero_iff.mp (reps_len h4).symm
        subst z
        rw [List.append_nil] at p
        exact post_at hr p (of_tup h1 h2)
    · exact False.elim p
  · rename_i m n
    obtain ⟨a, rfl, h1⟩ := rep_obj rx
    obtain ⟨b, rfl, h2⟩ := rep_obj ry
    simp only [addM] at p
    split at p
    · rename_i xs ys e1 e2
      split at p
      · rename_i hl
        obtain ⟨a', g1, vs, ea, hv⟩ := hr.obj m _ e1
        obtain ⟨b', g2, ws, eb, hw⟩ := hr.obj n _ e2
        rw [h1] at g1; cases g1
        rw [h2] at g2; cases g2
        exact .inr (.inr (.inr ⟨a, b, vs, ws, rfl, rfl, ea, eb, by rw [reps_len hv, reps_len hw]; exact hl, fun q hq => post_lst hr p (reps_append hv hw) hq⟩))
      · exact False.elim p
    · exact False.elim p
theorem p_sub : P2 X (binaryOp .Sub) subM := by
  refine ⟨_, op_sub, fun W σ rr H hp x y v w Q hr rx ry p => ?_⟩
  cases x <;> cases y <;> try exact False.elim p
  rename_i i j
  obtain rfl := rep_int rx
  obtain rfl := rep_int ry
  exact ⟨i, j, rfl, rfl, post_at hr p of_int⟩
theorem p_mul : P2 X (binaryOp .Mult) mulM := by
  refine ⟨_, op_mul.or op_repT, fun W σ rr H hp x y v w Q hr rx ry p => ?_⟩
  cases x <;> cases y <;> try exact False.elim p
  · rename_i i j
    obtain rfl := rep_int rx
    obtain rfl := rep_int ry
    simp only [mulM] at p
    split at p
    · rename_i hc
      refine .inl ⟨i, j, rfl, rfl, ?_, post_at hr p of_int⟩
      unfold mulOk at hc
      simpa [CMul] using hc
    · exact False.elim p
  · rename_i xs k
    obtain ⟨a, vs, rfl, h1, h2⟩ := rep_tup rx
    obtain rfl := rep_int ry
    simp only [mulM] at p
    split at p
    · rename_i hc
      obtain ⟨c1, c2, c3, c4⟩ := hc
      refine .inr ⟨a, k, vs, rfl, rfl, h1, ?_, c2, c3, by rw [reps_len h2]; exact c4, fun q hq => post_tup hr p ?_ hq⟩
      · intro z
        have := reps_len h2
        rw [z] at this
        exact c1 (List.length_eq_zero_iff.mp this.symm)
      · generalize k.toNat = n
        induction n with
        | zero => exact reps_nil
        | succ n ih => rw [List.replicate_succ, List.replicate_succ, List.flatten_cons, List.flatten_cons]; exact reps_append h2 ih
    · exact False.elim p
theorem p_fdiv : P2 X (binaryOp .FloorDiv) fdivM := by
  refine ⟨_, op_fdiv, fun W σ rr H hp x y v w Q hr rx ry p => ?_⟩
  cases x <;> cases y <;> try exact False.elim p
  rename_i i j
  obtain rfl := rep_int rx
  obtain rfl := rep_int ry
  simp only [fdivM] at p
  split at p
  · rename_i hc
    exact ⟨i, j, rfl, rfl, hc, post_at hr p of_int⟩
  · exact False.elim p
theorem p_mod : P2 X (binaryOp .Mod) modM := by
  refine ⟨_, op_mod, fun W σ rr H hp x y v w Q hr rx ry p => ?_⟩
  cases x <;> cases y <;> try exact False.elim p
  rename_i i j
  obtain rfl := rep_int rx
  obtain rfl := rep_int ry
  simp only [modM] at p
  split at p
  · rename_i hc
    exact ⟨i, j, rfl, rfl, hc, post_at hr p of_int⟩
  · exact False.elim p
theorem p_pow : P2 X (binaryOp .Pow) powM := by
  refine ⟨_, op_pow, fun W σ rr H hp x y v w Q hr rx ry p => ?_⟩
  cases x <;> cases y <;> try exact False.elim p
  rename_i i j
  obtain rfl := rep_int rx
  obtain rfl := rep_int ry
  simp only [powM] at p
  split at p
  · rename_i hc
    exact ⟨i, j, rfl, rfl, hc, post_at hr p of_int⟩
  · exact False.elim p
end
end FT
end
section
set_option maxRecDepth 100000
namespace FT
open PySem L2
set_option autoImplicit false
/-! ### data of any depth -/
def optAll {a b : Type} (f : a → Option b) : List a → Option (List b)
  | [] => some []
  | x :: xs => match f x, optAll f xs with
    | some y, some ys => some (y :: ys)
    | _, _ => none
def pyOf (h : MH) : Nat → D → Option PyData
  | 0, _ => none
  | n + 1, d => match d with
    | .non => some .none
    | .bl b => some (.bool b)
    | .int i => some (.int i)
    | .str s => some (.str ⟨s.toArray⟩)
    | .tup ds => (optAll (pyOf h n) ds).map .tuple
    | .rol ds => (optAll (pyOf h n) ds).map .list
    | .obj m => match h[m]? with
      | some (.lst ds) => (optAll (pyOf h n) ds).map .list
      | _ => none
    | .fn _ => none
    | .ty _ => none
section
variable {wd : World} {K : PySem.W.Frag} {mg : Str → Option Value} {r : List Addr} {H : Hp} {hp : MH}
theorem optAll_cons {a b : Type} {f : a → Option b} {x : a} {xs : List a} {ps : List b} (e : optAll f (x :: xs) = some ps) : ∃ y ys, f x = some y ∧ optAll f xs = some ys ∧ ps = y :: ys := by
  unfold optAll at e
  split at e
  · rename_i y ys e1 e2
    cases e
    exact ⟨y, ys, e1, e2, rfl⟩
  · cases e
theorem pyOf_dp (hr : HR wd K mg r hp H) : ∀ (n : Nat) (d : D) (p : PyData) (v : V), pyOf hp n d = some p → Rep K mg r H d v → Dp K H v p
  | 0, _, _, _, e, _ => by cases e
  | n + 1, d, p, v, e, h => by
    have all : ∀ (ds : List D) (ps : List PyData) (vs : List V), optAll (pyOf hp n) ds = some ps → Reps K mg r H ds vs → DpAll K H vs ps := by
      intro ds
      induction ds with
      | nil =>
        intro ps vs e h
        cases e
        unfold Reps at h
        subst h
        exact .nil
      | cons d ds ih =>
        intro ps vs e h
        obtain ⟨y, ys, e1, e2, rfl⟩ := optAll_cons e
        unfold Reps at h
        obtain ⟨w, ws, rfl, h1, h2⟩ := h
        exact .cons (pyOf_dp hr n d y w e1 h1) (ih ys ws e2 h2)
    cases d with
    | non => cases e; rw [rep_non h]; exact .non
    | bl b => cases e; rw [rep_bl h]; exact .bl b
    | int i => cases e; rw [rep_int h]; exact .int i
    | str s => cases e; rw [rep_str h]; exact .str _
    | tup ds =>
      obtain ⟨a, vs, rfl, h1, h2⟩ := rep_tup h
      simp only [pyOf] at e
      cases q : optAll (pyOf hp n) ds with
      | none => rw [q] at e; cases e
      | some ps => rw [q] at e; cases e; exact .tup h1 (all ds ps vs q h2)
    | rol ds =>
      unfold Rep at h
      obtain ⟨a, vs, rfl, h1, h2⟩ := h
      simp only [pyOf] at e
      cases q : optAll (pyOf hp n) ds with
      | none => rw [q] at e; cases e
      | some ps => rw [q] at e; cases e; exact .lst h1.sq (all ds ps vs q h2)
    | obj m =>
      obtain ⟨a, rfl, h1⟩ := rep_obj h
      simp only [pyOf] at e
      split at e
      · rename_i ds e1
        obtain ⟨a', g1, vs, ea, hv⟩ := hr.obj m _ e1
        rw [h1] at g1; cases g1
        cases q : optAll (pyOf hp n) ds with
        | none => rw [q] at e; cases e
        | some ps => rw [q] at e; cases e; exact .lst (SqL.of ea) (all ds ps vs q hv)
      · cases e
    | fn _ => cases e
    | ty _ => cases e
end
def DEEP : Nat := 40
/-- both as data -/
def py2 (x y : D) (h : MH) (k : PyData → PyData → R D) : R D := match pyOf h DEEP x, pyOf h DEEP y with
  | some p, some q => if SeqAt.shaped p = true ∧ SeqAt.shaped q = true then k p q else .err
  | _, _ => .err
def eqM : D → D → MH → R D
  | .int i, .int j, h => .ok (.bl (decide (i = j))) h
  | .str s, .str t, h => .ok (.bl (decide (s = t))) h
  | .bl s, .bl t, h => .ok (.bl (decide (s = t))) h
  | x, y, h => py2 x y h fun p q => .ok (.bl (PyData.eqv p q)) h
def neM : D → D → MH → R D
  | .int i, .int j, h => .ok (.bl (!decide (i = j))) h
  | .str s, .str t, h => .ok (.bl (!decide (s = t))) h
  | .bl s, .bl t, h => .ok (.bl (!decide (s = t))) h
  | x, y, h => py2 x y h fun p q => .ok (.bl (!PyData.eqv p q)) h
def ltM : D → D → MH → R D
  | .int i, .int j, h => .ok (.bl (decide (i < j))) h
  | .str s, .str t, h => .ok (.bl (decide (s < t))) h
  | _, _, _ => .err
def leM : D → D → MH → R D
  | .int i, .int j, h => .ok (.bl (decide (i ≤ j))) h
  | _, _, _ => .err
def gtM : D → D → MH → R D
  | .int i, .int j, h => .ok (.bl (decide (j < i))) h
  | _, _, _ => .err
def geM : D → D → MH → R D
  | .int i, .int j, h => .ok (.bl (decide (j ≤ i))) h
  | _, _, _ => .err
/-- x is None, True, False (y written) -/
def D.eqK : D → D → Bool
  | .non, .non => true
  | .bl a, .bl b => a == b
  | _, _ => false
def D.isN : D → Bool
  | .non => true
  | _ => false
def isM : D → D → MH → R D
  | x, .non, h => .ok (.bl x.isN) h
  | .bl a, .bl b, h => .ok (.bl (decide (a = b))) h
  | _, _, _ => .err
def isNotM : D → D → MH → R D
  | x, .non, h => .ok (.bl (!x.isN)) h
  | .bl a, .bl b, h => .ok (.bl (!decide (a = b))) h
  | _, _, _ => .err
def itemsM (y : D) (h : MH) : Option (List D) := match y with
  | .tup ds => some ds
  | .rol ds => some ds
  | .obj m => match h[m]? with
    | some (.lst ds) => some ds
    | _ => none
  | _ => none
def inM : D → D → MH → R D
  | .str [c], .str s, h => .ok (.bl (decide (c ∈ s))) h
  | x, y, h => py2 x y h fun p q => match q with
    | .list ds => .ok (.bl (ds.any fun z => PyData.eqv z p)) h
    | .tuple ds => .ok (.bl (ds.any fun z => PyData.eqv z p)) h
    | _ => .err
def notInM : D → D → MH → R D
  | .str [c], .str s, h => .ok (.bl (!decide (c ∈ s))) h
  | x, y, h => py2 x y h fun p q => match q with
    | .list ds => .ok (.bl (!ds.any fun z => PyData.eqv z p)) h
    | .tuple ds => .ok (.bl (!ds.any fun z => PyData.eqv z p)) h
    | _ => .err
section
variable {X : Cx}
theorem str_inj (s t : List Nat) : decide ((V.str ⟨s.toArray⟩) = V.str ⟨t.toArray⟩) = decide (s = t) := by
  rw [decide_eq_decide]
  constructor
  · intro h
    injection h with h
    have := congrArg Str.cps h
    simpa using this
  · rintro rfl; rfl
theorem py2_run {W : WX} {σ : L2.St} {rr : List Addr} {H : Hp} {hp : MH} {x y : D} {v w : V} {Q : VK} {k : PyData → PyData → R D} (hr : HR X.w X.K X.mg rr hp H) (rx : Rep X.K X.mg rr H x v) (ry : Rep X.K X.mg rr H y w)
    (p : Post X.w X.K X.mg W rr H σ (LV X.K X.mg) Q (py2 x y hp k)) : ∃ d e, Dp X.K H v d ∧ Dp X.K H w e ∧ SeqAt.shaped d = true ∧ SeqAt.shaped e = true ∧ Post X.w X.K X.mg W rr H σ (LV X.K X.mg) Q (k d e) := by
  unfold py2 at p
  split at p
  · rename_i d e e1 e2
    split at p
    · rename_i hc
      exact ⟨d, e, pyOf_dp hr _ _ _ _ e1 rx, pyOf_dp hr _ _ _ _ e2 ry, hc.1, hc.2, p⟩
    · exact False.elim p
  · exact False.elim p
theorem dec_int' (i j : Int) : decide (V.int i = V.int j) = decide (i = j) := by
  rw [decide_eq_decide]
  constructor
  · intro h; injection h
  · rintro rfl; rfl
theorem dec_bl' (i j : Bool) : decide (V.bl i = V.bl j) = decide (i = j) := by
  rw [decide_eq_decide]
  constructor
  · intro h; injection h
  · rintro rfl; rfl
theorem p_eq (hu : X.A.units + 64 < cLine) : P2 X (compareOp .Eq) eqM := by
  refine ⟨_, op_eq.or (op_eqD hu), fun W σ rr H hp x y v w Q hr rx ry p => ?_⟩
  have gen : Post X.w X.K X.mg W rr H σ (LV X.K X.mg) Q (py2 x y hp fun p q => .ok (.bl (PyData.eqv p q)) hp) → rEq v w H Q ∨ rEqD X.K v w H Q := fun p => by
    obtain ⟨d, e, h1, h2, h3, h4, q⟩ := py2_run hr rx ry p
    exact .inr ⟨d, e, h1, h2, h3, h4, post_at hr q of_bl⟩
  cases x <;> cases y <;> first
    | exact gen p
    | (rename_i i j; obtain rfl := rep_int rx; obtain rfl := rep_int ry; exact .inl ⟨rfl, by rw [dec_int']; exact post_at hr p of_bl⟩)
    | (rename_i i j; obtain rfl := rep_str rx; obtain rfl := rep_str ry; exact .inl ⟨rfl, by rw [str_inj]; exact post_at hr p of_bl⟩)
    | (rename_i i j; obtain rfl := rep_bl rx; obtain rfl := rep_bl ry; exact .inl ⟨rfl, by rw [dec_bl']; exact post_at hr p of_bl⟩)
theorem p_ne (hu : X.A.units + 64 < cLine) : P2 X (compareOp .NotEq) neM := by
  refine ⟨_, op_ne.or (op_neD hu), fun W σ rr H hp x y v w Q hr rx ry p => ?_⟩
  have gen : Post X.w X.K X.mg W rr H σ (LV X.K X.mg) Q (py2 x y hp fun p q => .ok (.bl (!PyData.eqv p q)) hp) → rNe v w H Q ∨ rNeD X.K v w H Q := fun p => by
    obtain ⟨d, e, h1, h2, h3, h4, q⟩ := py2_run hr rx ry p
    exact .inr ⟨d, e, h1, h2, h3, h4, post_at hr q of_bl⟩
  cases x <;> cases y <;> first
    | exact gen p
    | (rename_i i j; obtain rfl := rep_int rx; obtain rfl := rep_int ry; exact .inl ⟨rfl, by rw [dec_int']; exact post_at hr p of_bl⟩)
    | (rename_i i j; obtain rfl := rep_str rx; obtain rfl := rep_str ry; exact .inl ⟨rfl, by rw [str_inj]; exact post_at hr p of_bl⟩)
    | (rename_i i j; obtain rfl := rep_bl rx; obtain rfl := rep_bl ry; exact .inl ⟨rfl, by rw [dec_bl']; exact post_at hr p of_bl⟩)
theorem p_lt : P2 X (compareOp .Lt) ltM := by
  refine ⟨_, op_lt.or op_lt_str, fun W σ rr H hp x y v w Q hr rx ry p => ?_⟩
  cases x <;> cases y <;> try exact False.elim p
  · rename_i i j; obtain rfl := rep_int rx; obtain rfl := rep_int ry; exact .inl ⟨i, j, rfl, rfl, post_at hr p of_bl⟩
  · rename_i i j; obtain rfl := rep_str rx; obtain rfl := rep_str ry; exact .inr ⟨_, _, rfl, rfl, by simpa using post_at hr p of_bl⟩
theorem p_le : P2 X (compareOp .LtE) leM := by
  refine ⟨_, op_le, fun W σ rr H hp x y v w Q hr rx ry p => ?_⟩
  cases x <;> cases y <;> try exact False.elim p
  rename_i i j; obtain rfl := rep_int rx; obtain rfl := rep_int ry; exact ⟨i, j, rfl, rfl, post_at hr p of_bl⟩
theorem p_gt : P2 X (compareOp .Gt) gtM := by
  refine ⟨_, op_gt, fun W σ rr H hp x y v w Q hr rx ry p => ?_⟩
  cases x <;> cases y <;> try exact False.elim p
  rename_i i j; obtain rfl := rep_int rx; obtain rfl := rep_int ry; exact ⟨i, j, rfl, rfl, post_at hr p of_bl⟩
theorem p_ge : P2 X (compareOp .GtE) geM := by
  refine ⟨_, op_ge, fun W σ rr H hp x y v w Q hr rx ry p => ?_⟩
  cases x <;> cases y <;> try exact False.elim p
  rename_i i j; obtain rfl := rep_int rx; obtain rfl := rep_int ry; exact ⟨i, j, rfl, rfl, post_at hr p of_bl⟩
theorem isN_of {K : PySem.W.Frag} {mg : Str → Option Value} {r : List Addr} {H : Hp} {x : D} {v : V} (h : Rep K mg r H x v) : decide (v = .non) = x.isN := by
  cases x with
  | non => rw [rep_non h]; rfl
  | bl _ => rw [rep_bl h]; rfl
  | int _ => rw [rep_int h]; rfl
  | str _ => rw [rep_str h]; rfl
  | tup _ => obtain ⟨a, vs, rfl, _⟩ := rep_tup h; rfl
  | obj _ => obtain ⟨a, rfl, _⟩ := rep_obj h; rfl
  | fn _ => unfold Rep at h; obtain ⟨a, rfl, _⟩ := h; rfl
  | ty _ => unfold Rep at h; rw [h]; rfl
  | rol _ => unfold Rep at h; obtain ⟨a, _, rfl, _⟩ := h; rfl
theorem p_is : P2 X (compareOp .Is) isM := by
  refine ⟨_, op_isN.or op_isBl, fun W σ rr H hp x y v w Q hr rx ry p => ?_⟩
  cases y with
  | non =>
    obtain rfl := rep_non ry
    refine .inl ⟨rfl, ?_⟩
    rw [isN_of rx]
    cases x <;> exact post_at hr p of_bl
  | bl b =>
    cases x <;> try exact False.elim p
    rename_i a
    obtain rfl := rep_bl rx
    obtain rfl := rep_bl ry
    exact .inr ⟨a, b, rfl, rfl, post_at hr p of_bl⟩
  | _ => cases x <;> exact False.elim p
theorem p_isNot : P2 X (compareOp .IsNot) isNotM := by
  refine ⟨_, op_notN.or op_notBl, fun W σ rr H hp x y v w Q hr rx ry p => ?_⟩
  cases y with
  | non =>
    obtain rfl := rep_non ry
    refine .inl ⟨rfl, ?_⟩
    rw [isN_of rx]
    cases x <;> exact post_at hr p of_bl
  | bl b =>
    cases x <;> try exact False.elim p
    rename_i a
    obtain rfl := rep_bl rx
    obtain rfl := rep_bl ry
    exact .inr ⟨a, b, rfl, rfl, post_at hr p of_bl⟩
  | _ => cases x <;> exact False.elim p
/-! ### in -/
def rInDT (K : PySem.W.Frag) (neg : Bool) : R2 := fun x y H Q => ∃ d ds, Dp K H x d ∧ Dp K H y (.tuple ds) ∧ SeqAt.shaped d = true ∧ SeqAt.shaped (.tuple ds) = true ∧ Q (.bl (if neg then !ds.any fun z => PyData.eqv z d else ds.any fun z => PyData.eqv z d)) H
theorem op_inDT (hu : X.A.units + 65 < cLine) : OpR X (compareOp .In) (rInDT X.K false) := by
  intro pins s σ H x y v u Q I rx ry h
  obtain ⟨d, ds, hd, he, sd, se, q⟩ := h
  obtain ⟨as, r1⟩ := Dp.reads I d x v hd rx
  obtain ⟨bs, r2⟩ := Dp.reads I (.tuple ds) y u he ry
  exact SeqAt.in_tuple_reads r2 r1 (SeqAt.canLay_of_shaped se) (SeqAt.canLay_of_shaped sd) (PyProof.Rows.room_in_shaped sd hu) ⟨.bl _, H, I, rfl, q⟩
theorem op_notInDT (hu : X.A.units + 65 < cLine) : OpR X (compareOp .NotIn) (rInDT X.K true) := by
  intro pins s σ H x y v u Q I rx ry h
  obtain ⟨d, ds, hd, he, sd, se, q⟩ := h
  obtain ⟨as, r1⟩ := Dp.reads I d x v hd rx
  obtain ⟨bs, r2⟩ := Dp.reads I (.tuple ds) y u he ry
  exact SeqAt.notIn_tuple_reads r2 r1 (SeqAt.canLay_of_shaped se) (SeqAt.canLay_of_shaped sd) (PyProof.Rows.room_in_shaped sd hu) ⟨.bl _, H, I, rfl, q⟩
theorem p_in (hu : X.A.units + 65 < cLine) : P2 X (compareOp .In) inM := by
  refine ⟨_, op_in_sign.or ((op_inD hu).or (op_inDT hu)), fun W σ rr H hp x y v w Q hr rx ry p => ?_⟩
  unfold inM at p
  split at p
  · rename_i c s
    obtain rfl := rep_str rx
    obtain rfl := rep_str ry
    exact .inl ⟨c, _, rfl, rfl, by simpa using post_at hr p of_bl⟩
  · obtain ⟨d, e, h1, h2, h3, h4, q⟩ := py2_run hr rx ry p
    split at q
    · exact .inr (.inl ⟨d, _, h1, h2, h3, h4, post_at hr q of_bl⟩)
    · exact .inr (.inr ⟨d, _, h1, h2, h3, h4, post_at hr q of_bl⟩)
    · exact False.elim q
theorem p_notIn (hu : X.A.units + 65 < cLine) : P2 X (compareOp .NotIn) notInM := by
  refine ⟨_, op_notIn_sign.or ((op_notInD hu).or (op_notInDT hu)), fun W σ rr H hp x y v w Q hr rx ry p => ?_⟩
  unfold notInM at p
  split at p
  · rename_i c s
    obtain rfl := rep_str rx
    obtain rfl := rep_str ry
    exact .inl ⟨c, _, rfl, rfl, by simpa using post_at hr p of_bl⟩
  · obtain ⟨d, e, h1, h2, h3, h4, q⟩ := py2_run hr rx ry p
    split at q
    · exact .inr (.inl ⟨d, _, h1, h2, h3, h4, post_at hr q of_bl⟩)
    · exact .inr (.inr ⟨d, _, h1, h2, h3, h4, post_at hr q of_bl⟩)
    · exact False.elim q
end
end FT
end
section
set_option maxRecDepth 100000
namespace FT
open PySem L2
set_option autoImplicit false
/-! ### statements -/
inductive SR where
  | next (e : Ev) (h : MH) | ret (d : D) (h : MH) | brk (e : Ev) (h : MH) | cont (e : Ev) (h : MH) | exc (c : Str) (e : Ev) (h : MH) | err
abbrev S := Ev → MH → SR
def R.toS {a : Type} (r : R a) (env : Ev) (k : a → MH → SR) : SR := match r with
  | .ok x h => k x h
  | .exc c h => .exc c env h
  | .err => .err
section
variable (wd : World) (K : PySem.W.Frag) (mg : Str → Option Value)
def PostS (W : WX) (r : List Addr) (H : Hp) (Dn : Ends) : SR → Prop
  | .next e hp => ∀ r' H' σ', Ext K r H r' H' → HR wd K mg r' hp H' → ES K mg r' H' e σ' → Dn.nx σ' H'
  | .ret d hp => ∀ r' H' v, Ext K r H r' H' → HR wd K mg r' hp H' → Rep K mg r' H' d v → Dn.rt v H'
  | .brk e hp => ∀ r' H' σ', Ext K r H r' H' → HR wd K mg r' hp H' → ES K mg r' H' e σ' → Dn.bk σ' H'
  | .cont e hp => ∀ r' H' σ', Ext K r H r' H' → HR wd K mg r' hp H' → ES K mg r' H' e σ' → Dn.ct σ' H'
  | .exc c e hp => ∀ r' H' σ' C, Ext K r H r' H' → HR wd K mg r' hp H' → ES K mg r' H' e σ' → mg c = some (.ref C) → W (.ref C) none σ' H'
  | .err => False
def tS (W : WX) (f : S) : TS := fun Dn σ H => ∃ env hp r, ES K mg r H env σ ∧ HR wd K mg r hp H ∧ PostS wd K mg W r H Dn (f env hp)
end
section
variable {wd : World} {K : PySem.W.Frag} {mg : Str → Option Value} {r r1 : List Addr} {H H1 : Hp} {W : WX} {σ : L2.St} {Dn : Ends}
theorem PostS.weaken {x : SR} (e : Ext K r H r1 H1) (h : PostS wd K mg W r H Dn x) : PostS wd K mg W r1 H1 Dn x := by
  cases x with
  | next e1 hp => exact fun r' H' s' e' hr l => h r' H' s' (e.trans e') hr l
  | ret d hp => exact fun r' H' s' e' hr l => h r' H' s' (e.trans e') hr l
  | brk e1 hp => exact fun r' H' s' e' hr l => h r' H' s' (e.trans e') hr l
  | cont e1 hp => exact fun r' H' s' e' hr l => h r' H' s' (e.trans e') hr l
  | exc c e1 hp => exact fun r' H' s' C e' hr l m => h r' H' s' C (e.trans e') hr l m
  | err => exact h
theorem PostS.bind {a b : Type} {L : Rl a b} {x : R a} {k : a → MH → SR} {env : Ev} {Q' : b → Hp → Prop} (es : ES K mg r H env σ) (h : PostS wd K mg W r H Dn (x.toS env k))
    (hk : ∀ x hp1 r1 H1 y, Ext K r H r1 H1 → HR wd K mg r1 hp1 H1 → L r H r1 H1 x y → PostS wd K mg W r1 H1 Dn (k x hp1) → Q' y H1) : Post wd K mg W r H σ L Q' x := by
  cases x with
  | ok x hp => exact fun r' H' y e' hr l => hk x hp r' H' y e' hr l (PostS.weaken e' h)
  | exc c hp => exact fun r' H' C e' hr m => h r' H' σ C e' hr (es.mono e') m
  | err => exact h
end
abbrev MS (X : Cx) (W : WX) (st : Stmt) (f : S) : Prop := PS X st (tS X.w X.K X.mg W f)
abbrev MSs (X : Cx) (W : WX) (sts : List Stmt) (f : S) : Prop := PSs X sts (tS X.w X.K X.mg W f)
section
variable {X : Cx} {W : WX} {st : Stmt} {rest : List Stmt} {f g : S} {e : Expr} {fe : E D} {fb : E Bool} {pos : Pos}
def sSeq (f g : S) : S := fun env hp => match f env hp with
  | .next e h => g e h
  | x => x
def sNext : S := fun env hp => .next env hp
def sErr : S := fun _ _ => .err
theorem mss_nil : MSs X W [] sNext := PSsm pss_nil fun Dn σ H h => by
  obtain ⟨env, hp, r, es, hr, q⟩ := h
  exact q r H σ Ext.refl hr es
theorem mss_one (h : MS X W st f) : MSs X W [st] f := pss_one h
theorem mss_cons (h1 : MS X W st f) (h2 : MSs X W rest g) : MSs X W (st :: rest) (sSeq f g) := PSsm (pss_cons h1 h2) fun Dn σ H h => by
  obtain ⟨env, hp, r, es, hr, q⟩ := h
  refine ⟨env, hp, r, es, hr, ?_⟩
  unfold sSeq at q
  cases z : f env hp with
  | next e h =>
    rw [z] at q
    exact fun r' H' σ' e' hr' es' => ⟨e, h, r', es', hr', PostS.weaken e' q⟩
  | ret d h => rw [z] at q; exact q
  | brk e h => rw [z] at q; exact q
  | cont e h => rw [z] at q; exact q
  | exc c e h => rw [z] at q; exact q
  | err => rw [z] at q; exact q
theorem ms_never : MS X W st sErr := PSm ps_never fun Dn σ H h => by
  obtain ⟨env, hp, r, es, hr, q⟩ := h
  exact q
theorem ms_pass : MS X W (.Pass pos) sNext := PSm ps_pass fun Dn σ H h => by
  obtain ⟨env, hp, r, es, hr, q⟩ := h
  exact q r H σ Ext.refl hr es
def sRet (fe : E D) : S := fun env hp => (fe env hp).toS env fun d h => .ret d h
theorem ms_ret (he : ME X W e fe) : MS X W (.Return (some e) pos) (sRet fe) := PSm (ps_ret he) fun Dn σ H h => by
  obtain ⟨env, hp, r, es, hr, q⟩ := h
  exact ⟨env, hp, r, es, hr, PostS.bind es q fun x hp1 r1 H1 y e1 hr1 l q1 => q1 r1 H1 y Ext.refl hr1 l⟩
def sRetN : S := fun _ hp => .ret .non hp
theorem ms_retN : MS X W (.Return none pos) sRetN := PSm ps_retN fun Dn σ H h => by
  obtain ⟨env, hp, r, es, hr, q⟩ := h
  exact q r H .non Ext.refl hr of_non
def sExpr (fe : E D) : S := fun env hp => (fe env hp).toS env fun _ h => .next env h
theorem ms_expr (he : ME X W e fe) (hs : swapsWith e none pos.line X.env = pure false := by rfl) : MS X W (.Expr e pos) (sExpr fe) := PSm (ps_expr he hs) fun Dn σ H h => by
  obtain ⟨env, hp, r, es, hr, q⟩ := h
  exact ⟨env, hp, r, es, hr, PostS.bind es q fun x hp1 r1 H1 y e1 hr1 l q1 => q1 r1 H1 σ Ext.refl hr1 (es.mono e1)⟩
def sIf (c : E Bool) (f g : S) : S := fun env hp => (c env hp).toS env fun b h => if b = true then f env h else g env h
theorem ms_if {c : Expr} {a b : List Stmt} (hc : MT X W c fb) (ha : MSs X W a f) (hb : MSs X W b g) : MS X W (.If c a b pos) (sIf fb f g) := PSm (ps_if hc ha hb) fun Dn σ H h => by
  obtain ⟨env, hp, r, es, hr, q⟩ := h
  refine ⟨env, hp, r, es, hr, PostS.bind es q fun x hp1 r1 H1 y e1 hr1 l q1 => ?_⟩
  subst l
  cases x with
  | true => exact ⟨env, hp1, r1, es.mono e1, hr1, q1⟩
  | false => exact ⟨env, hp1, r1, es.mono e1, hr1, q1⟩
/-! ### names are stored -/
theorem ES.set {K : PySem.W.Frag} {mg : Str → Option Value} {r : List Addr} {H : Hp} {env : Ev} {σ : L2.St} (es : ES K mg r H env σ) (i : Nat) {d : D} {v : V} (h : Rep K mg r H d v) : ES K mg r H (env.set i (some d)) (σ.set i (some v)) := by
  refine ⟨by simpa using es.len, fun j d' e => ?_⟩
  by_cases hj : j = i
  · subst hj
    by_cases hl : j < env.length
    · rw [List.getElem?_set_self hl] at e
      cases e
      exact ⟨v, by rw [List.getElem?_set_self (by rw [es.len]; exact hl)], h⟩
    · rw [List.getElem?_eq_none (by simpa using hl)] at e; cases e
  · rw [List.getElem?_set_ne (Ne.symm hj)] at e
    obtain ⟨w, e1, e2⟩ := es.val j d' e
    exact ⟨w, by rw [List.getElem?_set_ne (Ne.symm hj)]; exact e1, e2⟩
def sSet (i : Nat) (fe : E D) : S := fun env hp => (fe env hp).toS env fun d h => .next (env.set i (some d)) h
theorem set_run {i : Nat} {t : TE} {Dn : Ends} {σ : L2.St} {H : Hp} (k : ∀ Q, tR X.w X.K X.mg W (LV X.K X.mg) fe σ H Q → t σ H Q) (h : tS X.w X.K X.mg W (sSet i fe) Dn σ H) : tAsg t (gName i) Dn σ H := by
  obtain ⟨env, hp, r, es, hr, q⟩ := h
  exact k _ ⟨env, hp, r, es, hr, PostS.bind es q fun x hp1 r1 H1 y e1 hr1 l q1 => q1 r1 H1 _ Ext.refl hr1 ((es.mono e1).set i l)⟩
theorem ms_set {i : Nat} {x : Str} {pos' : Pos} (hN : X.N.Nodup) (hi : X.N[i]? = some x) (hx : Loc X.env.scope x) (he : ME X W e fe) (hs : swapsWith e (some (.Name x pos')) pos.line X.env = pure false := by rfl) (hf : X.fn x = true ∨ X.env.scope.names.lookup x = some .local := by first | exact .inl rfl | exact .inr rfl | assumption) :
    MS X W (.Assign [.Name x pos'] e pos) (sSet i fe) := PSm (ps_set hN hi hx he hs hf) fun Dn σ H h => set_run (fun Q q => q) h
end
/-! ### arguments, calls -/
section
variable {X : Cx} {W : WX} {e : Expr} {es : List Expr} {f : E D} {g : E (List D)} {pos p : Pos}
def aNil : E (List D) := fun _ hp => .ok [] hp
def aCons (f : E D) (g : E (List D)) : E (List D) := fun env hp => (f env hp).bind fun x h1 => (g env h1).bind fun xs h2 => .ok (x :: xs) h2
theorem ma_nil : MA X W [] aNil := PAm pa_nil fun σ H Q h => by
  obtain ⟨env, hp, r, es, hr, q⟩ := h
  exact q r H [] Ext.refl hr reps_nil
theorem ma_cons (ha : ME X W e f) (hr : MA X W es g) (hs : starEach (e :: es) X.env = (false, eval e X.env) :: starEach es X.env := by rfl) : MA X W (e :: es) (aCons f g) := PAm (pa_cons ha hr hs) fun σ H Q h => by
  obtain ⟨env, hp, rr, es, hh, q⟩ := h
  refine ⟨env, hp, rr, es, hh, Post.bind q fun x hp1 r1 H1 v e1 hr1 rv q1 => ?_⟩
  refine ⟨env, hp1, r1, es.mono e1, hr1, Post.bind q1 fun y hp2 r2 H2 w e2 hr2 rw q2 => ?_⟩
  exact q2 r2 H2 _ Ext.refl hr2 (reps_cons (Rep.mono e2 x rv) rw)
/-- what a def of the program promises by its mirror -/
def spM (wd : World) (K : PySem.W.Frag) (mg : Str → Option Value) (n : Nat) (m : List D → MH → R D) : Sp := fun vs H Q Ex => vs.length = n ∧ ∃ ds hp r, Reps K mg r H ds vs ∧ HR wd K mg r hp H ∧ Post wd K mg (fun c d _ H => Ex c d H) r H [] (LV K mg) Q (m ds hp)
structure Cal (P : Program) (w : World) (K : PySem.W.Frag) (mg : Str → Option Value) (base : Heap) (k : Nat) (x : Str) (n : Nat) (m : List D → MH → R D) : Prop where
  len : ∀ ds hp, ds.length ≠ n → m ds hp = .err
  ex : ∃ f fd ps, FnOk P w K mg base (L2.CX P w) k f fd ps (spM w K mg n m) ∧ mg x = some (.ref f) ∧ PySem.W.keepIn K (.ref f) = true ∧ Binds K fd ps []
def vCall (m : List D → MH → R D) (g : E (List D)) : E D := fun env hp => (g env hp).bind fun ds h => m ds h
theorem post_sp {wd : World} {K : PySem.W.Frag} {mg : Str → Option Value} {r : List Addr} {H : Hp} {σ : L2.St} {Q : VK} {x : R D} (h : Post wd K mg W r H σ (LV K mg) Q x) : Post wd K mg (fun c d _ H => WE W σ c d H) r H [] (LV K mg) Q x := by
  cases x with
  | ok x hp => exact h
  | exc c hp => exact fun r' H' C e' hr m => h r' H' C e' hr m
  | err => exact h
theorem me_call {k n : Nat} {x : Str} {m : List D → MH → R D} (C : Cal X.prog X.w X.K X.mg X.base k x n m) (hr : Room k X.A) (hg : Gl X x) (tk : Takes X W) (ha : MA X W (e :: es) g)
    (hd : (x == ("__debug__" : Str)) = false := by decide)
    (he : starEach (e :: es) X.env = (false, eval e X.env) :: starEach es X.env := by rfl) (hpl : (backTo pos (starEach es X.env)).any (·.1) = false := by rfl) : ME X W (.Call (.Name x p) (e :: es) [] pos) (vCall m g) := by
  obtain ⟨f, fd, ps, F, hm, hk, hb⟩ := C.ex
  refine PEm (pe_callS F hr hg hm hk hb (fun σ => passAt tk σ) ha hd he hpl) fun σ H Q h => ?_
  obtain ⟨env, hp, rr, es, hh, q⟩ := h
  refine ⟨env, hp, rr, es, hh, ?_⟩
  have q0 := q
  unfold vCall at q
  cases z : g env hp with
  | ok ds h' =>
    rw [z] at q
    by_cases hl : ds.length = n
    · exact fun r1 H1 vs e1 hr1 rv => ⟨by rw [reps_len rv]; exact hl, ds, h', r1, rv, hr1, post_sp (Post.weaken e1 q)⟩
    · have q1 : Post X.w X.K X.mg W rr H σ (LV X.K X.mg) Q (m ds h') := q
      rw [C.len ds h' hl] at q1
      exact False.elim q1
  | exc c h' => rw [z] at q; exact q
  | err => rw [z] at q; exact q
end
/-! ### defs -/
def fnM (n m : Nat) (b : S) : List D → MH → R D := fun ds hp => if ds.length = n then (match b (ds.map some ++ List.replicate (m - n) none) hp with
  | .ret d h => .ok d h
  | .next _ h => .ok .non h
  | .exc c _ h => .exc c h
  | _ => .err) else .err
section
variable {P : Program} {w : World} {wd : World} {K : PySem.W.Frag} {mg : Str → Option Value} {base : Heap}
theorem es_start {r : List Addr} {H : Hp} {N : List Str} : ∀ {ds : List D} {vs : List V}, Reps K mg r H ds vs → ES K mg r H (ds.map some ++ List.replicate (N.length - ds.length) none) (L2.start N vs) := fun {ds vs} h => by
  have hl := reps_len h
  refine ⟨by unfold L2.start; simp [hl], fun i d e => ?_⟩
  by_cases hi : i < ds.length
  · rw [List.getElem?_append_left (by simpa using hi), List.getElem?_map] at e
    cases z : ds[i]? with
    | none => rw [z] at e; cases e
    | some d' =>
      rw [z] at e
      cases e
      obtain ⟨v, e1, e2⟩ := reps_get h z
      refine ⟨v, ?_, e2⟩
      unfold L2.start
      rw [List.getElem?_append_left (by simpa [hl] using hi), List.getElem?_map, e1]
      rfl
  · rw [List.getElem?_append_right (by simpa using hi), List.getElem?_replicate] at e
    split at e
    · cases e
    · cases e
theorem fn_ok {x qual : Str} {st : Stmt} {f : Addr} {fd : FuncData} {N ps : List Str} {k n m : Nat} {b : S} (F : Fun K x qual st f fd) (S : FnScope N ps (defScope st)) (hn : ps.length = n) (hm : N.length = m)
    (hb : ∀ (cdv : Value) (A : Around) (outer : List Env) (s : Shared) (H : Hp) (Ex : XK), Room k (A.deeper (PyProof.Rows.envOfC qual (defScope st) s.heap.objs.size f cdv)) →
      MSs (cxOf (L2.CX P w) P w K mg base N qual (defScope st) f cdv A outer s H Ex) (fun c d _ H => Ex c d H) (defBody st) b) :
    FnOk P w K mg base (L2.CX P w) (k + 1) f fd ps (spM w K mg n (fnM n m b)) := by
  subst hn hm
  refine F.okX S (fun vs H Q E h => h.1) (fun cdv A outer s H vs Q E hr h => ⟨_, hb cdv A outer s H E hr, ?_⟩)
  obtain ⟨hl, ds, hp, r, h1, h2, h3⟩ := h
  have hd : ds.length = ps.length := by rw [← reps_len h1]; exact hl
  have es := es_start (N := N) h1
  rw [hd] at es
  refine ⟨_, hp, r, es, h2, ?_⟩
  unfold fnM at h3
  rw [if_pos hd] at h3
  cases z : b (ds.map some ++ List.replicate (N.length - ps.length) none) hp with
  | next e h => rw [z] at h3; exact fun r' H' σ' e' hr' _ => h3 r' H' .non e' hr' of_non
  | ret d h => rw [z] at h3; exact h3
  | brk e h => rw [z] at h3; exact False.elim h3
  | cont e h => rw [z] at h3; exact False.elim h3
  | exc c e h => rw [z] at h3; exact fun r' H' σ' C e' hr' _ m => h3 r' H' C e' hr' m
  | err => rw [z] at h3; exact False.elim h3
end
end FT
end
section
set_option maxRecDepth 100000
namespace FT
open PySem L2
set_option autoImplicit false
section
variable {X : Cx} {W : WX} {e : Expr} {es : List Expr} {f : E D} {g fl gl : E (List D)} {pos p : Pos}
/-! ### displays -/
def vTup (g : E (List D)) : E D := fun env hp => (g env hp).bind fun ds h => if ds.length ≤ LIM then .ok (.tup ds) h else .err
theorem me_tup {x1} (h : MA X W es g) : ME X W (.Tuple es x1 pos) (vTup g) := PEm (pe_tup h) fun σ H Q h => by
  obtain ⟨env, hp, rr, es, hh, q⟩ := h
  refine ⟨env, hp, rr, es, hh, Post.bind q fun ds hp1 r1 H1 vs e1 hr1 rv q1 => ?_⟩
  split at q1
  · rename_i hl
    exact ⟨by rw [reps_len rv]; exact hl, fun a ha => post_tup hr1 q1 rv ha⟩
  · exact False.elim q1
def lLst (g : E (List D)) : E (List D) := fun env hp => (g env hp).bind fun ds h => if ds.length ≤ LIM then .ok ds h else .err
/-- a new list -/
theorem post_new {wd : World} {K : PySem.W.Frag} {mg : Str → Option Value} {r : List Addr} {H : Hp} {hp : MH} {σ : L2.St} {Q : VK} {ds : List D} {vs : List V} {q : Addr} (hr : HR wd K mg r hp H) (p : Post wd K mg W r H σ (LL K mg) Q (.ok ds hp)) (h : Reps K mg r H ds vs) (hn : H q = none) : Q (.ref q) (upd H q (.lst vs)) :=
  p r _ (.ref q) (ext_new hn) (hr_new hr hn) ⟨q, vs, rfl, hr_nin hr hn, hn, upd_same, Reps.mono (ext_new hn) ds h⟩
theorem ml_lst (h : MA X W es g) : ML X W (.List es pos) (lLst g) := PEm (pe_lst h) fun σ H Q h => by
  obtain ⟨env, hp, rr, es, hh, q⟩ := h
  refine ⟨env, hp, rr, es, hh, Post.bind q fun ds hp1 r1 H1 vs e1 hr1 rv q1 => ?_⟩
  split at q1
  · rename_i hl
    exact ⟨by rw [reps_len rv]; exact hl, fun a ha => post_new hr1 q1 rv ha⟩
  · exact False.elim q1
/-- a new list that is kept -/
def vAlloc (g : E (List D)) : E D := fun env hp => (g env hp).bind fun ds h => .ok (.obj h.length) (h ++ [.lst ds])
theorem alloc_run {σ : L2.St} {H : Hp} {Q : VK} (h : tR X.w X.K X.mg W (LV X.K X.mg) (vAlloc fl) σ H Q) : tR X.w X.K X.mg W (LL X.K X.mg) fl σ H Q := by
  obtain ⟨env, hp, rr, es, hh, q⟩ := h
  refine ⟨env, hp, rr, es, hh, ?_⟩
  unfold vAlloc at q
  cases z : fl env hp with
  | ok ds h' =>
    rw [z] at q
    intro r' H' y e1 hr1 l
    obtain ⟨a, vs, rfl, na, n0, ea, hv⟩ := l
    exact q (r' ++ [a]) H' (.ref a) (ext_take e1 na n0) (hr_take hr1 na ea hv) (of_obj (by rw [← hr1.len]; simp))
  | exc c h' => rw [z] at q; exact q
  | err => rw [z] at q; exact q
theorem me_alloc (h : ML X W e fl) : ME X W e (vAlloc fl) := PEm h fun σ H Q q => alloc_run q
/-! ### a new list as an argument -/
def vL (p : List D → MH → R D) (f : E (List D)) : E D := fun env hp => (f env hp).bind fun ds h => p ds h
/-- what a call asks of one list that nobody else knows -/
structure P1L (X : Cx) (r : List V → Hp → VK → Prop) (p : List D → MH → R D) : Prop where
  ok : ∀ (W : WX) (σ : L2.St) (rr : List Addr) (H : Hp) (hp : MH) (ds : List D) (a : Addr) (vs : List V) (Q : VK), HR X.w X.K X.mg rr hp H → H a = some (.lst vs) → Reps X.K X.mg rr H ds vs → Post X.w X.K X.mg W rr H σ (LV X.K X.mg) Q (p ds hp) → r [.ref a] H Q
theorem l1_run {r : List V → Hp → VK → Prop} {p : List D → MH → R D} (P : P1L X r p) {σ : L2.St} {H : Hp} {Q : VK} (h : tR X.w X.K X.mg W (LV X.K X.mg) (vL p fl) σ H Q) : tCB r (tCons (tR X.w X.K X.mg W (LL X.K X.mg) fl) tNil) σ H Q := by
  obtain ⟨env, hp, rr, es, hh, q⟩ := h
  refine ⟨env, hp, rr, es, hh, Post.bind q fun ds hp1 r1 H1 y e1 hr1 l q1 => ?_⟩
  obtain ⟨a, vs, rfl, na, n0, ea, hv⟩ := l
  exact P.ok W σ r1 H1 hp1 ds a vs Q hr1 ea hv q1
theorem me_callL {id : String} {x : Str} {r : List V → Hp → VK → Prop} {q : List D → MH → R D} (hc : CallR X (.builtin id) r) (P : P1L X r q) (hg : Gl X x) (hm : X.mg x = none) (hv : bootBuiltins x = some (.builtin id)) (ha : ML X W e fl)
    (hn : x ≠ "__name__" := by decide) (hdb : (x == ("__debug__" : Str)) = false := by decide) (he : starEach [e] X.env = (false, eval e X.env) :: starEach [] X.env := by rfl) (hpl : (backTo pos (starEach [] X.env)).any (·.1) = false := by rfl) :
    ME X W (.Call (.Name x p) [e] [] pos) (vL q fl) := PEm (pe_callB hc hg hm hv (pa_cons ha pa_nil he) hn hdb he hpl) fun σ H Q h => l1_run P h
theorem me_callTyL {T : String} {x : Str} {r : List V → Hp → VK → Prop} {q : List D → MH → R D} (hc : CallR X (.type T) r) (P : P1L X r q) (hg : Gl X x) (hm : X.mg x = none) (hv : bootBuiltins x = some (.type T)) (ha : ML X W e fl)
    (hn : x ≠ "__name__" := by decide) (hdb : (x == ("__debug__" : Str)) = false := by decide) (he : starEach [e] X.env = (false, eval e X.env) :: starEach [] X.env := by rfl) (hpl : (backTo pos (starEach [] X.env)).any (·.1) = false := by rfl) :
    ME X W (.Call (.Name x p) [e] [] pos) (vL q fl) := PEm (pe_callTy hc hg hm hv (pa_cons ha pa_nil he) hn hdb he hpl) fun σ H Q h => l1_run P h
def blsOf : List D → Option (List Bool)
  | [] => some []
  | .bl b :: r => (blsOf r).map (b :: ·)
  | _ => none
def intsOf : List D → Option (List Int)
  | [] => some []
  | .int b :: r => (intsOf r).map (b :: ·)
  | _ => none
def strsOf : List D → Option (List (List Nat))
  | [] => some []
  | .str b :: r => (strsOf r).map (b :: ·)
  | _ => none
theorem blsOf_eq : ∀ {ds : List D} {bs : List Bool}, blsOf ds = some bs → ds = bs.map .bl
  | [], _, h => by cases h; rfl
  | d :: ds, bs, h => by
    cases d <;> first
      | (simp only [blsOf] at h
         cases q : blsOf ds with
         | none => rw [q] at h; cases h
         | some r => rw [q] at h; cases h; rw [blsOf_eq q]; rfl)
      | cases h
theorem intsOf_eq : ∀ {ds : List D} {bs : List Int}, intsOf ds = some bs → ds = bs.map .int
  | [], _, h => by cases h; rfl
  | d :: ds, bs, h => by
    cases d <;> first
      | (simp only [intsOf] at h
         cases q : intsOf ds with
         | none => rw [q] at h; cases h
         | some r => rw [q] at h; cases h; rw [intsOf_eq q]; rfl)
      | cases h
theorem strsOf_eq : ∀ {ds : List D} {bs : List (List Nat)}, strsOf ds = some bs → ds = bs.map .str
  | [], _, h => by cases h; rfl
  | d :: ds, bs, h => by
    cases d <;> first
      | (simp only [strsOf] at h
         cases q : strsOf ds with
         | none => rw [q] at h; cases h
         | some r => rw [q] at h; cases h; rw [strsOf_eq q]; rfl)
      | cases h
def allP (ds : List D) (h : MH) : R D := match blsOf ds with
  | some bs => .ok (.bl (bs.all id)) h
  | none => .err
def anyP (ds : List D) (h : MH) : R D := match blsOf ds with
  | some bs => .ok (.bl (bs.any id)) h
  | none => .err
def sumP (ds : List D) (h : MH) : R D := match intsOf ds with
  | some bs => .ok (.int bs.sum) h
  | none => .err
def minI : List Int → Int → Int
  | [], m => m
  | x :: r, m => minI r (if x < m then x else m)
def maxI : List Int → Int → Int
  | [], m => m
  | x :: r, m => maxI r (if m < x then x else m)
def minP (ds : List D) (h : MH) : R D := match intsOf ds with
  | some (x :: r) => .ok (.int (minI r x)) h
  | _ => .err
def maxP (ds : List D) (h : MH) : R D := match intsOf ds with
  | some (x :: r) => .ok (.int (maxI r x)) h
  | _ => .err
def tupP (ds : List D) (h : MH) : R D := .ok (.tup ds) h
def lenP (ds : List D) (h : MH) : R D := .ok (.int ds.length) h
theorem minI_mem : ∀ (r : List Int) (m : Int), minI r m ∈ m :: r
  | [], m => by simp [minI]
  | x :: r, m => by
    unfold minI
    have := minI_mem r (if x < m then x else m)
    rcases List.mem_cons.mp this with e | e
    · rw [e]; split <;> simp
    · exact List.mem_cons_of_mem _ (List.mem_cons_of_mem _ e)
theorem minI_le : ∀ (r : List Int) (m : Int), ∀ y ∈ m :: r, minI r m ≤ y
  | [], m => by simp [minI]
  | x :: r, m => by
    intro y hy
    unfold minI
    have ih := minI_le r (if x < m then x else m)
    have h0 := ih _ List.mem_cons_self
    have hm : (if x < m then x else m) ≤ m ∧ (if x < m then x else m) ≤ x := by split <;> omega
    rcases List.mem_cons.mp hy with e | e
    · rw [e]; exact Int.le_trans h0 hm.1
    · rcases List.mem_cons.mp e with e | e
      · rw [e]; exact Int.le_trans h0 hm.2
      · exact ih y (List.mem_cons_of_mem _ e)
theorem maxI_mem : ∀ (r : List Int) (m : Int), maxI r m ∈ m :: r
  | [], m => by simp [maxI]
  | x :: r, m => by
    unfold maxI
    have := maxI_mem r (if m < x then x else m)
    rcases List.mem_cons.mp this with e | e
    · rw [e]; split <;> simp
    · exact List.mem_cons_of_mem _ (List.mem_cons_of_mem _ e)
theorem maxI_ge : ∀ (r : List Int) (m : Int), ∀ y ∈ m :: r, y ≤ maxI r m
  | [], m => by simp [maxI]
  | x :: r, m => by
    intro y hy
    unfold maxI
    have ih := maxI_ge r (if m < x then x else m)
    have h0 := ih _ List.mem_cons_self
    have hm : m ≤ (if m < x then x else m) ∧ x ≤ (if m < x then x else m) := by split <;> omega
    rcases List.mem_cons.mp hy with e | e
    · rw [e]; exact Int.le_trans hm.1 h0
    · rcases List.mem_cons.mp e with e | e
      · rw [e]; exact Int.le_trans hm.2 h0
      · exact ih y (List.mem_cons_of_mem _ e)
theorem l_all : P1L X (rAll X.K) allP := ⟨fun W σ rr H hp ds a vs Q hr ea hv p => by
  unfold allP at p
  split at p
  · rename_i bs e
    obtain rfl := blsOf_eq e
    obtain rfl := reps_bls hv
    exact ⟨a, bs, rfl, SqL.of ea, post_at hr p of_bl⟩
  · exact False.elim p⟩
theorem l_any : P1L X (rAny X.K) anyP := ⟨fun W σ rr H hp ds a vs Q hr ea hv p => by
  unfold anyP at p
  split at p
  · rename_i bs e
    obtain rfl := blsOf_eq e
    obtain rfl := reps_bls hv
    exact ⟨a, bs, rfl, SqL.of ea, post_at hr p of_bl⟩
  · exact False.elim p⟩
theorem l_sum : P1L X (rSum X.K) sumP := ⟨fun W σ rr H hp ds a vs Q hr ea hv p => by
  unfold sumP at p
  split at p
  · rename_i bs e
    obtain rfl := intsOf_eq e
    obtain rfl := reps_ints hv
    exact ⟨a, bs, rfl, SqL.of ea, post_at hr p of_int⟩
  · exact False.elim p⟩
theorem l_min : P1L X (rMin X.K) minP := ⟨fun W σ rr H hp ds a vs Q hr ea hv p => by
  unfold minP at p
  split at p
  · rename_i x r e
    obtain rfl := intsOf_eq e
    obtain rfl := reps_ints hv
    refine ⟨a, x :: r, rfl, SqL.of ea, by simp, fun m hm hl => ?_⟩
    have e : minI r x = m := Int.le_antisymm (minI_le r x m hm) (hl _ (minI_mem r x))
    rw [← e]
    exact post_at hr p of_int
  · exact False.elim p⟩
theorem l_max : P1L X (rMax X.K) maxP := ⟨fun W σ rr H hp ds a vs Q hr ea hv p => by
  unfold maxP at p
  split at p
  · rename_i x r e
    obtain rfl := intsOf_eq e
    obtain rfl := reps_ints hv
    refine ⟨a, x :: r, rfl, SqL.of ea, by simp, fun m hm hl => ?_⟩
    have e : maxI r x = m := Int.le_antisymm (hl _ (maxI_mem r x)) (maxI_ge r x m hm)
    rw [← e]
    exact post_at hr p of_int
  · exact False.elim p⟩
theorem l_tup : P1L X (fun xs H Q => ∃ p ys, xs = [.ref p] ∧ ((SqL X.K H p ys ∧ ∀ l, H l = none → Q (.ref l) (upd H l (.tup ys))) ∨ (SqT X.K H p ys ∧ Q (.ref p) H))) tupP := ⟨fun W σ rr H hp ds a vs Q hr ea hv p =>
  ⟨a, vs, rfl, .inl ⟨SqL.of ea, fun l hl => post_tup hr p hv hl⟩⟩⟩
theorem l_len : P1L X (fun xs H Q => ∃ p ys, xs = [.ref p] ∧ (SqL X.K H p ys ∨ SqT X.K H p ys) ∧ Q (.int ys.length) H) lenP := ⟨fun W σ rr H hp ds a vs Q hr ea hv p =>
  ⟨a, vs, rfl, .inl (SqL.of ea), by rw [reps_len hv]; exact post_at hr p of_int⟩⟩
end
end FT
end
section
set_option maxRecDepth 100000
namespace FT
open PySem L2
set_option autoImplicit false
section
variable {X : Cx} {W : WX} {e a b : Expr} {es : List Expr} {f k : E D} {g fl gl : E (List D)} {pos p : Pos}
/-! ### built-ins on values -/
structure PV (X : Cx) (r : List V → Hp → VK → Prop) (p : List D → MH → R D) : Prop where
  ok : ∀ (W : WX) (σ : L2.St) (rr : List Addr) (H : Hp) (hp : MH) (ds : List D) (vs : List V) (Q : VK), HR X.w X.K X.mg rr hp H → Reps X.K X.mg rr H ds vs → Post X.w X.K X.mg W rr H σ (LV X.K X.mg) Q (p ds hp) → r vs H Q
theorem v_run {r : List V → Hp → VK → Prop} {p : List D → MH → R D} (P : PV X r p) {σ : L2.St} {H : Hp} {Q : VK} (h : tR X.w X.K X.mg W (LV X.K X.mg) (vCall p g) σ H Q) : tCB r (tR X.w X.K X.mg W (LA X.K X.mg) g) σ H Q := by
  obtain ⟨env, hp, rr, es, hh, q⟩ := h
  exact ⟨env, hp, rr, es, hh, Post.bind q fun ds hp1 r1 H1 y e1 hr1 l q1 => P.ok W σ r1 H1 hp1 ds y Q hr1 l q1⟩
theorem me_callB {id : String} {x : Str} {r : List V → Hp → VK → Prop} {q : List D → MH → R D} (hc : CallR X (.builtin id) r) (P : PV X r q) (hg : Gl X x) (hm : X.mg x = none) (hv : bootBuiltins x = some (.builtin id)) (ha : MA X W (e :: es) g)
    (hn : x ≠ "__name__" := by decide) (hdb : (x == ("__debug__" : Str)) = false := by decide) (he : starEach (e :: es) X.env = (false, eval e X.env) :: starEach es X.env := by rfl) (hpl : (backTo pos (starEach es X.env)).any (·.1) = false := by rfl) :
    ME X W (.Call (.Name x p) (e :: es) [] pos) (vCall q g) := PEm (pe_callB hc hg hm hv ha hn hdb he hpl) fun σ H Q h => v_run P h
theorem me_callTy {T : String} {x : Str} {r : List V → Hp → VK → Prop} {q : List D → MH → R D} (hc : CallR X (.type T) r) (P : PV X r q) (hg : Gl X x) (hm : X.mg x = none) (hv : bootBuiltins x = some (.type T)) (ha : MA X W (e :: es) g)
    (hn : x ≠ "__name__" := by decide) (hdb : (x == ("__debug__" : Str)) = false := by decide) (he : starEach (e :: es) X.env = (false, eval e X.env) :: starEach es X.env := by rfl) (hpl : (backTo pos (starEach es X.env)).any (·.1) = false := by rfl) :
    ME X W (.Call (.Name x p) (e :: es) [] pos) (vCall q g) := PEm (pe_callTy hc hg hm hv ha hn hdb he hpl) fun σ H Q h => v_run P h
theorem reps1 {K : PySem.W.Frag} {mg : Str → Option Value} {r : List Addr} {H : Hp} {d : D} {vs : List V} (h : Reps K mg r H [d] vs) : ∃ v, vs = [v] ∧ Rep K mg r H d v := by
  unfold Reps at h
  obtain ⟨v, us, rfl, h1, h2⟩ := h
  unfold Reps at h2
  subst h2
  exact ⟨v, rfl, h1⟩
theorem reps2 {K : PySem.W.Frag} {mg : Str → Option Value} {r : List Addr} {H : Hp} {d d' : D} {vs : List V} (h : Reps K mg r H [d, d'] vs) : ∃ v w, vs = [v, w] ∧ Rep K mg r H d v ∧ Rep K mg r H d' w := by
  unfold Reps at h
  obtain ⟨v, us, rfl, h1, h2⟩ := h
  obtain ⟨w, rfl, h3⟩ := reps1 h2
  exact ⟨v, w, rfl, h1, h3⟩
/-- a built-in class as a value -/
theorem me_ty (n : Nat) {x : Str} {pos : Pos} (hg : Gl X x) (hm : X.mg x = none) (hv : bootBuiltins x = some (.type (tyName n))) (hn : x ≠ "__name__" := by decide) (hd : (x == ("__debug__" : Str)) = false := by decide) : ME X W (.Name x pos) (vC (.ty n)) :=
  PEm (pe_bltn (v := .ty (tyName n)) hg hm hv rfl hn hd) (tC_of (d := .ty n) fun _ _ => by unfold Rep; rfl)
/-- a text that the module holds -/
theorem me_gstr {x : Str} {s : List Nat} {z : Str} {t : Tok} {pos : Pos} (hg : Gl X x) (hm : X.mg x = some (.str z t)) (hz : z.cps.toList = s := by decide +kernel) (hd : (x == ("__debug__" : Str)) = false := by decide) : ME X W (.Name x pos) (vC (.str s)) :=
  PEm (pe_glob (v := .str z) hg hm ⟨t, rfl⟩ hd) (tC_of (d := .str s) fun _ _ => by unfold Rep; subst hz; cases z; simp)
theorem me_gint {x : Str} {s : Int} {t : Tok} {pos : Pos} (hg : Gl X x) (hm : X.mg x = some (.int s t)) (hd : (x == ("__debug__" : Str)) = false := by decide) : ME X W (.Name x pos) (vC (.int s)) :=
  PEm (pe_glob (v := .int s) hg hm ⟨t, rfl⟩ hd) (tC_of (d := .int s) fun _ _ => by unfold Rep; rfl)
/-! ### isinstance -/
def tyOf (d : D) (h : MH) : Option Nat := match d with
  | .non => some 6
  | .bl _ => some 1
  | .int _ => some 0
  | .str _ => some 2
  | .tup _ => some 3
  | .rol _ => some 4
  | .obj n => match h[n]? with
    | some (.lst _) => some 4
    | _ => none
  | _ => none
/-- is the one a subclass of the other -/
def subTy (t c : Nat) : Bool := t == c || (t == 1 && c == 0)
def isiP (ds : List D) (h : MH) : R D := match ds with
  | [x, .ty c] => match tyOf x h with
    | some t => if t < 7 ∧ c < 6 then .ok (.bl (subTy t c)) h else .err
    | none => .err
  | _ => .err
theorem sub_ok : ∀ t, t < 7 → ∀ c, c < 6 → kitB (tyName t) (tyName c) = some (subTy t c) := by decide +kernel
theorem tyx_of {rr : List Addr} {H : Hp} {hp : MH} {x : D} {v : V} {t : Nat} (hr : HR X.w X.K X.mg rr hp H) (h : Rep X.K X.mg rr H x v) (e : tyOf x hp = some t) : TyX X.K H v (.type (tyName t)) := by
  cases x with
  | non => cases e; rw [rep_non h]; exact .base .non
  | bl b => cases e; rw [rep_bl h]; exact .base (.bl b)
  | int b => cases e; rw [rep_int h]; exact .base (.int b)
  | str b => cases e; rw [rep_str h]; exact .base (.str _)
  | tup ds =>
    cases e
    obtain ⟨a, vs, rfl, hs, _⟩ := rep_tup h
    rcases hs with (hs | ⟨o, hs⟩) | ⟨o, its, n, hk, hc, _⟩
    · exact .base (.tup hs)
    · exact .fTuple hs
    · exact .kTuple hk hc
  | rol ds =>
    cases e
    unfold Rep at h
    obtain ⟨a, vs, rfl, hs, _⟩ := h
    rcases hs with ⟨o, hs⟩ | hs
    · exact .base (.frz hs)
    · rcases hs (fun _ => none) with (hs | ⟨o, hs⟩) | ⟨o, its, n, hk, hc, _⟩
      · cases hs
      · cases hs
      · exact .kList hk hc
  | obj n =>
    obtain ⟨a, rfl, h1⟩ := rep_obj h
    simp only [tyOf] at e
    split at e
    · rename_i xs e1
      obtain ⟨a', g1, vs, ea, hv⟩ := hr.obj _ _ e1
      rw [h1] at g1; cases g1
      cases e
      exact .base (.lst ea)
    · cases e
  | fn _ => cases e
  | ty _ => cases e
theorem v_isi : PV X (rIsi X.K) isiP := ⟨fun W σ rr H hp ds vs Q hr hv p => by
  unfold isiP at p
  split at p
  · rename_i x c
    split at p
    · rename_i t e
      split at p
      · rename_i hc
        obtain ⟨v, w, rfl, h1, h2⟩ := reps2 hv
        unfold Rep at h2
        subst h2
        exact ⟨v, .ty (tyName c), _, _, subTy t c, rfl, .ty _, tyx_of hr h1 e, kit_ty (sub_ok t hc.1 c hc.2), post_at hr p of_bl⟩
      · exact False.elim p
    · exact False.elim p
  · exact False.elim p⟩
/-! ### len -/
def lenV (ds : List D) (h : MH) : R D := match ds with
  | [.str s] => if s.length ≤ LIM then .ok (.int s.length) h else .err
  | [x] => match itemsM x h with
    | some ds => .ok (.int ds.length) h
    | none => .err
  | _ => .err
theorem items_sq {rr : List Addr} {H : Hp} {hp : MH} {x : D} {v : V} {ds : List D} (hr : HR X.w X.K X.mg rr hp H) (h : Rep X.K X.mg rr H x v) (e : itemsM x hp = some ds) : ∃ a vs, v = .ref a ∧ (SqL X.K H a vs ∨ SqT X.K H a vs) ∧ Reps X.K X.mg rr H ds vs := by
  cases x with
  | tup _ =>
    cases e
    obtain ⟨a, vs, rfl, hs, hv⟩ := rep_tup h
    exact ⟨a, vs, rfl, .inr hs, hv⟩
  | rol _ =>
    cases e
    unfold Rep at h
    obtain ⟨a, vs, rfl, hs, hv⟩ := h
    exact ⟨a, vs, rfl, .inl hs.sq, hv⟩
  | obj n =>
    obtain ⟨a, rfl, h1⟩ := rep_obj h
    simp only [itemsM] at e
    split at e
    · rename_i xs e1
      obtain ⟨a', g1, vs, ea, hv⟩ := hr.obj _ _ e1
      rw [h1] at g1; cases g1
      cases e
      exact ⟨a, vs, rfl, .inl (SqL.of ea), hv⟩
    · cases e
  | _ => cases e
theorem v_len : PV X (fun xs H Q => (∃ p ys, xs = [.ref p] ∧ (SqL X.K H p ys ∨ SqT X.K H p ys) ∧ Q (.int ys.length) H) ∨ (∃ z, xs = [.str z] ∧ z.length ≤ sizeLine ∧ Q (.int z.length) H)) lenV := ⟨fun W σ rr H hp ds vs Q hr hv p => by
  unfold lenV at p
  split at p
  · obtain ⟨v, rfl, h1⟩ := reps1 hv
    obtain rfl := rep_str h1
    split at p
    · rename_i hl
      exact .inr ⟨_, rfl, by rw [str_len]; exact hl, by rw [str_len]; exact post_at hr p of_int⟩
    · exact False.elim p
  · obtain ⟨v, rfl, h1⟩ := reps1 hv
    split at p
    · rename_i xs e
      obtain ⟨a, ws, rfl, h2, h3⟩ := items_sq hr h1 e
      exact .inl ⟨a, ws, rfl, h2, by rw [reps_len h3]; exact post_at hr p of_int⟩
    · exact False.elim p
  · exact False.elim p⟩
theorem call_lenM : CallR X (.builtin "len") (fun xs H Q => (∃ p ys, xs = [.ref p] ∧ (SqL X.K H p ys ∨ SqT X.K H p ys) ∧ Q (.int ys.length) H) ∨ (∃ z, xs = [.str z] ∧ z.length ≤ sizeLine ∧ Q (.int z.length) H)) := call_len_seq.or call_len_str
/-! ### min(a, b), max(a, b), int(x), str(x) -/
def min2P (ds : List D) (h : MH) : R D := match ds with
  | [.int i, .int j] => .ok (.int (if j < i then j else i)) h
  | _ => .err
def max2P (ds : List D) (h : MH) : R D := match ds with
  | [.int i, .int j] => .ok (.int (if i < j then j else i)) h
  | _ => .err
theorem v_min2 : PV X (fun xs H Q => ∃ i j, xs = [.int i, .int j] ∧ Q (.int (if j < i then j else i)) H) min2P := ⟨fun W σ rr H hp ds vs Q hr hv p => by
  unfold min2P at p
  split at p
  · obtain ⟨v, w, rfl, h1, h2⟩ := reps2 hv
    obtain rfl := rep_int h1
    obtain rfl := rep_int h2
    exact ⟨_, _, rfl, post_at hr p of_int⟩
  · exact False.elim p⟩
theorem v_max2 : PV X (fun xs H Q => ∃ i j, xs = [.int i, .int j] ∧ Q (.int (if j > i then j else i)) H) max2P := ⟨fun W σ rr H hp ds vs Q hr hv p => by
  unfold max2P at p
  split at p
  · obtain ⟨v, w, rfl, h1, h2⟩ := reps2 hv
    obtain rfl := rep_int h1
    obtain rfl := rep_int h2
    exact ⟨_, _, rfl, post_at hr p of_int⟩
  · exact False.elim p⟩
/-- the signs of a number -/
def decL (n : Nat) : List Nat := (Nat.toDigits 10 n).map Char.toNat
theorem dec_str (n : Nat) : Str.ofString (toString ((n : Nat) : Int)) = ⟨(decL n).toArray⟩ := by
  rw [Str.ofString_eq_toList]
  show (⟨((Nat.repr n).toList.map Char.toNat).toArray⟩ : Str) = _
  unfold Nat.repr decL
  rw [String.toList_ofList]
def strP (ds : List D) (h : MH) : R D := match ds with
  | [.int i] => if 0 ≤ i ∧ i.natAbs.log2 < 1920 then .ok (.str (decL i.toNat)) h else .err
  | [.str s] => .ok (.str s) h
  | _ => .err
theorem call_strM : CallR X (.type "str") (fun xs H Q => (∃ i, xs = [.int i] ∧ i.natAbs.log2 < 1920 ∧ Q (.str (toString i)) H) ∨ (∃ a, xs = [.str a] ∧ Q (.str a) H)) := call_str_int.or SkE.call_str_str
theorem v_str : PV X (fun xs H Q => (∃ i, xs = [.int i] ∧ i.natAbs.log2 < 1920 ∧ Q (.str (toString i)) H) ∨ (∃ a, xs = [.str a] ∧ Q (.str a) H)) strP := ⟨fun W σ rr H hp ds vs Q hr hv p => by
  unfold strP at p
  split at p
  · rename_i i
    obtain ⟨v, rfl, h1⟩ := reps1 hv
    obtain rfl := rep_int h1
    split at p
    · rename_i hl
      refine .inl ⟨i, rfl, hl.2, ?_⟩
      have e : i = ((i.toNat : Nat) : Int) := by omega
      have q : Q (.str (Str.ofString (toString i))) H := by
        rw [e, dec_str]
        exact post_at hr p of_str
      exact q
    · exact False.elim p
  · obtain ⟨v, rfl, h1⟩ := reps1 hv
    obtain rfl := rep_str h1
    exact .inr ⟨_, rfl, post_at hr p of_str⟩
  · exact False.elim p⟩
end
end FT
end
section
set_option maxRecDepth 100000
namespace FT
open PySem L2
set_option autoImplicit false
section
variable {X : Cx} {W : WX} {e a b o i : Expr} {es : List Expr} {f k fo fi : E D} {g fl gl : E (List D)} {pos p : Pos}
/-! ### int(x) -/
def isDigs (s : List Nat) : Bool := s.all fun c => decide (48 ≤ c ∧ c ≤ 57)
def intP (ds : List D) (h : MH) : R D := match ds with
  | [.int i] => .ok (.int i) h
  | [.bl b] => .ok (.int (if b then 1 else 0)) h
  | [.str s] => if isDigs s = true ∧ s ≠ [] ∧ s.length ≤ 640 then .ok (.int ((NumText.digitsVal s : Nat) : Int)) h else .err
  | _ => .err
theorem call_intM : CallR X (.type "int") (fun xs H Q => ((∃ i, xs = [.int i] ∧ Q (.int i) H) ∨ ∃ k, xs = [.bl k] ∧ Q (.int (if k then 1 else 0)) H) ∨ (∃ a n, xs = [.str a] ∧ PySem.intText? a = some n ∧ a.length ≤ 640 ∧ Q (.int n) H)) := call_int1.or call_int_str
theorem v_int : PV X (fun xs H Q => ((∃ i, xs = [.int i] ∧ Q (.int i) H) ∨ ∃ k, xs = [.bl k] ∧ Q (.int (if k then 1 else 0)) H) ∨ (∃ a n, xs = [.str a] ∧ PySem.intText? a = some n ∧ a.length ≤ 640 ∧ Q (.int n) H)) intP := ⟨fun W σ rr H hp ds vs Q hr hv p => by
  unfold intP at p
  split at p
  · obtain ⟨v, rfl, h1⟩ := reps1 hv
    obtain rfl := rep_int h1
    exact .inl (.inl ⟨_, rfl, post_at hr p of_int⟩)
  · obtain ⟨v, rfl, h1⟩ := reps1 hv
    obtain rfl := rep_bl h1
    exact .inl (.inr ⟨_, rfl, post_at hr p of_int⟩)
  · rename_i s
    obtain ⟨v, rfl, h1⟩ := reps1 hv
    obtain rfl := rep_str h1
    split at p
    · rename_i hc
      obtain ⟨c1, c2, c3⟩ := hc
      refine .inr ⟨_, _, rfl, intText_digits (x := ⟨s.toArray⟩) (fun c hc => ?_) (by simpa using c2) (by rw [str_len]; omega), by rw [str_len]; exact c3, ?_⟩
      · have := List.all_eq_true.mp c1 c (by simpa using hc)
        simpa using this
      · simpa using post_at hr p of_int
    · exact False.elim p
  · exact False.elim p⟩
/-! ### x[i] -/
def ixM : D → D → MH → R D
  | .tup ds, .int i, h => match atI ds i with
    | some d => .ok d h
    | none => .err
  | .rol ds, .int i, h => match atI ds i with
    | some d => .ok d h
    | none => .err
  | .str s, .int i, h => if s.length ≤ LIM then (match atI s i with
    | some c => .ok (.str [c]) h
    | none => .err) else .err
  | .obj m, .int i, h => match h[m]? with
    | some (.lst ds) => (match atI ds i with
      | some d => .ok d h
      | none => .err)
    | _ => .err
  | _, _, _ => .err
theorem reps_atI {K : PySem.W.Frag} {mg : Str → Option Value} {r : List Addr} {H : Hp} {ds : List D} {vs : List V} {i : Int} {d : D} (h : Reps K mg r H ds vs) (e : atI ds i = some d) : ∃ v, atI vs i = some v ∧ Rep K mg r H d v := by
  unfold atI at e ⊢
  rw [reps_len h]
  cases q : ixN ds.length i with
  | none => rw [q] at e; cases e
  | some j =>
    rw [q] at e
    exact reps_get h e
theorem me_ix (ha : ME X W a f) (hb : ME X W b k) (hs : PlainIx b := by intro _ _; rfl) : ME X W (.Subscript a b pos) (op2 ixM f k) := PEm (pe_ix ix_seq ha hb hs) fun σ H Q h => op2_run (W := W) (fun rr H hp x y v w hr rx ry p => by
  cases y with
  | int i =>
    obtain rfl := rep_int ry
    cases x <;> try exact False.elim p
    · rename_i s
      obtain rfl := rep_str rx
      simp only [ixM] at p
      split at p
      · rename_i hl
        split at p
        · rename_i c e
          exact .inr (.inr ⟨_, i, c, rfl, rfl, by rw [str_len]; exact hl, by simpa using e, by simpa using post_at hr p of_str⟩)
        · exact False.elim p
      · exact False.elim p
    · rename_i ds
      obtain ⟨q, vs, rfl, h1, h2⟩ := rep_tup rx
      simp only [ixM] at p
      split at p
      · rename_i d e
        obtain ⟨v, e1, e2⟩ := reps_atI h2 e
        exact .inr (.inl ⟨q, vs, i, v, rfl, rfl, h1, e1, post_at hr p e2⟩)
      · exact False.elim p
    · rename_i m
      obtain ⟨q, rfl, h1⟩ := rep_obj rx
      simp only [ixM] at p
      split at p
      · rename_i ds e0
        split at p
        · rename_i d e
          obtain ⟨q', g1, vs, ea, hv⟩ := hr.obj _ _ e0
          rw [h1] at g1; cases g1
          obtain ⟨v, e1, e2⟩ := reps_atI hv e
          exact .inl ⟨q, vs, i, v, rfl, rfl, SqL.of ea, e1, post_at hr p e2⟩
        · exact False.elim p
      · exact False.elim p
    · rename_i ds
      unfold Rep at rx
      obtain ⟨q, vs, rfl, h1, h2⟩ := rx
      simp only [ixM] at p
      split at p
      · rename_i d e
        obtain ⟨v, e1, e2⟩ := reps_atI h2 e
        exact .inl ⟨q, vs, i, v, rfl, rfl, h1.sq, e1, post_at hr p e2⟩
      · exact False.elim p
  | _ => cases x <;> exact False.elim p) h
/-! ### x[i:j] -/
def cutL {t : Type} (xs : List t) (lo hi : Option Int) : List t := (xs.drop (HT.sIx xs.length 0 lo)).take (HT.sIx xs.length xs.length hi - HT.sIx xs.length 0 lo)
def slM (x : D) (lo hi : Option Int) (h : MH) : R D := match x with
  | .str s => if s.length ≤ LIM then .ok (.str (cutL s lo hi)) h else .err
  | .tup ds => .ok (.tup (cutL ds lo hi)) h
  | .obj m => match h[m]? with
    | some (.lst ds) => .ok (.obj h.length) (h ++ [.lst (cutL ds lo hi)])
    | _ => .err
  | _ => .err
def asI (x : D) (k : Int → R D) : R D := match x with
  | .int i => k i
  | _ => .err
/-- an end of a slice: written or not -/
def slE (p : Option (E D)) (env : Ev) (hp : MH) (k : Option Int → MH → R D) : R D := match p with
  | none => k none hp
  | some f => (f env hp).bind fun x h => asI x fun i => k (some i) h
def vSl (f : E D) (lo hi : Option (E D)) : E D := fun env hp => (f env hp).bind fun x h1 => slE lo env h1 fun l h2 => slE hi env h2 fun u h3 => slM x l u h3
theorem reps_cut {K : PySem.W.Frag} {mg : Str → Option Value} {r : List Addr} {H : Hp} {ds : List D} {vs : List V} (lo hi : Option Int) (h : Reps K mg r H ds vs) : Reps K mg r H (cutL ds lo hi) (cutV vs lo hi) := by
  unfold cutL cutV
  rw [reps_len h]
  exact reps_take _ (reps_drop _ h)
theorem sl_run {σ : L2.St} {rr : List Addr} {H : Hp} {hp : MH} {x : D} {v : V} {l u : Option Int} {Q : VK} (hr : HR X.w X.K X.mg rr hp H) (rx : Rep X.K X.mg rr H x v) (p : Post X.w X.K X.mg W rr H σ (LV X.K X.mg) Q (slM x l u hp)) :
    rSlA X.K v l u H Q ∨ rSlS v l u H Q ∨ rSlL X.K v l u H Q := by
  cases x <;> try exact False.elim p
  · rename_i s
    obtain rfl := rep_str rx
    simp only [slM] at p
    split at p
    · rename_i hl
      refine .inr (.inl ⟨_, rfl, by rw [str_len]; exact hl, ?_⟩)
      have e : cutS ⟨s.toArray⟩ l u = ⟨(cutL s l u).toArray⟩ := by unfold cutS cutL; rw [str_len]
      rw [e]
      exact post_at hr p of_str
    · exact False.elim p
  · rename_i ds
    obtain ⟨q, vs, rfl, h1, h2⟩ := rep_tup rx
    refine .inl ⟨q, vs, rfl, h1, fun hw => ?_, fun _ q' hq => post_tup hr p (reps_cut l u h2) hq⟩
    have e : cutL ds l u = ds := by
      unfold cutL
      rw [← reps_len h2, hw.1, hw.2, List.drop_zero, Nat.sub_zero, reps_len h2, List.take_length]
    have p' : Post X.w X.K X.mg W rr H σ (LV X.K X.mg) Q (.ok (.tup (cutL ds l u)) hp) := p
    rw [e] at p'
    exact post_at hr p' (of_tup h1 h2)
  · rename_i m
    obtain ⟨q, rfl, h1⟩ := rep_obj rx
    simp only [slM] at p
    split at p
    · rename_i ds e0
      obtain ⟨q', g1, vs, ea, hv⟩ := hr.obj _ _ e0
      rw [h1] at g1; cases g1
      exact .inr (.inr ⟨q, vs, rfl, SqL.of ea, fun q' hq => post_lst hr p (reps_cut l u hv) hq⟩)
    · exact False.elim p
/-- the ends of a slice -/
structure MO' (X : Cx) (W : WX) (e : Option Expr) (f : Option (E D)) : Prop where
  ex : ∃ t, PO X e t ∧ ∀ (env : Ev) (σ : L2.St) (rr : List Addr) (H : Hp) (hp : MH) (k : Option Int → MH → R D) (Q : VK) (Q' : Option Int → Hp → Prop), ES X.K X.mg rr H env σ → HR X.w X.K X.mg rr hp H → Post X.w X.K X.mg W rr H σ (LV X.K X.mg) Q (slE f env hp k) →
    (∀ l hp1 r1 H1, Ext X.K rr H r1 H1 → HR X.w X.K X.mg r1 hp1 H1 → Post X.w X.K X.mg W r1 H1 σ (LV X.K X.mg) Q (k l hp1) → Q' l H1) → t σ H Q'
theorem mo_none : MO' X W none none := ⟨tNoPart, po_none, fun env σ rr H hp k Q Q' es hr p q => q none hp rr H Ext.refl hr p⟩
theorem mo_some (h : ME X W e f) : MO' X W (some e) (some f) := ⟨_, po_some h, fun env σ rr H hp k Q Q' es hr p q => by
  refine ⟨env, hp, rr, es, hr, Post.bind p fun x hp1 r1 H1 v e1 hr1 rv q1 => ?_⟩
  cases x with
  | int i => exact ⟨i, rep_int rv, q (some i) hp1 r1 H1 e1 hr1 q1⟩
  | _ => exact False.elim q1⟩
theorem me_sl {lo hi : Option Expr} {flo fhi : Option (E D)} {p2 : Pos} (he : ME X W a f) (hl : MO' X W lo flo) (hu : MO' X W hi fhi) : ME X W (.Subscript a (.Slice lo hi none p2) pos) (vSl f flo fhi) := by
  obtain ⟨tl, h1, h1'⟩ := hl.ex
  obtain ⟨tu, h2, h2'⟩ := hu.ex
  refine PEm (pe_slice (sl_tupA.or (sl_str.or sl_list)) he h1 h2) fun σ H Q h => ?_
  obtain ⟨env, hp, rr, es, hh, q⟩ := h
  refine ⟨env, hp, rr, es, hh, Post.bind q fun x hp1 r1 H1 v e1 hr1 rv q1 => ?_⟩
  refine h1' env σ r1 H1 hp1 _ Q _ (es.mono e1) hr1 q1 fun l hp2 r2 H2 e2 hr2 q2 => ?_
  refine h2' env σ r2 H2 hp2 _ Q _ ((es.mono e1).mono e2) hr2 q2 fun u hp3 r3 H3 e3 hr3 q3 => ?_
  exact sl_run hr3 (Rep.mono (e2.trans e3) x rv) q3
/-! ### x[i] = v for a list -/
def setM (o i v : D) (h : MH) : Option MH := match o, i with
  | .obj m, .int k => match h[m]? with
    | some (.lst ds) => (match ixN ds.length k with
      | some j => some (h.set m (.lst (ds.set j v)))
      | none => none)
    | _ => none
  | _, _ => none
def sSub (fo fi fv : E D) : S := fun env hp => (fv env hp).toS env fun v h1 => (fo env h1).toS env fun o h2 => (fi env h2).toS env fun i h3 => match setM o i v h3 with
  | some h4 => .next env h4
  | none => .err
theorem ms_sub {fv : E D} {v : Expr} {pos' : Pos} (hv : ME X W v fv) (ho : ME X W o fo) (hi : ME X W i fi)
    (ha : ∀ v, assign (.Subscript o i pos') X.env v = (do
      let ov ← holding [v] (eval o X.env)
      let iv ← holding [v, ov] (eval i X.env)
      standAt pos'
      holding [v, ov, iv] (setItem ov iv v)
      release [v, ov, iv] []) := by intro _; rfl)
    (hs : swapsWithSole [.Subscript o i pos'] v pos.line X.env = pure false := by rfl) (hw : swappedStores [.Subscript o i pos'] v X.env = pure none := by rfl)
    (h1 : (assignEach [.Subscript o i pos'] X.env).map (·.2) = [assign (.Subscript o i pos') X.env] := by rfl) : MS X W (.Assign [.Subscript o i pos'] v pos) (sSub fo fi fv) :=
  PSm (ps_asg hv (pg_sub ho hi set_list ha) hs hw h1) fun Dn σ H h => by
    obtain ⟨env, hp, rr, es, hh, q⟩ := h
    refine ⟨env, hp, rr, es, hh, PostS.bind es q fun x hp1 r1 H1 y e1 hr1 l1 q1 => ?_⟩
    refine ⟨env, hp1, r1, es.mono e1, hr1, PostS.bind (es.mono e1) q1 fun ov hp2 r2 H2 y2 e2 hr2 l2 q2 => ?_⟩
    refine ⟨env, hp2, r2, (es.mono e1).mono e2, hr2, PostS.bind ((es.mono e1).mono e2) q2 fun iv hp3 r3 H3 y3 e3 hr3 l3 q3 => ?_⟩
    split at q3
    · rename_i h4 e4
      unfold setM at e4
      split at e4
      · rename_i m k
        split at e4
        · rename_i ds e5
          split at e4
          · rename_i j e6
            cases e4
            obtain rfl := rep_int l3
            obtain ⟨a, rfl, g1⟩ := rep_obj (Rep.mono e3 _ l2)
            obtain ⟨a', g2, vs, ea, hv⟩ := hr3.obj _ _ e5
            rw [g1] at g2; cases g2
            have rv := Rep.mono (e2.trans e3) x l1
            obtain ⟨e7, hr7⟩ := hr_set hr3 g1 e5 (reps_set rv j hv)
            refine ⟨a, vs, k, j, rfl, rfl, ea, by rw [reps_len hv]; exact e6, ?_⟩
            exact q3 r3 _ σ e7 hr7 ((((es.mono e1).mono e2).mono e3).mono e7)
          · cases e4
        · cases e4
      · cases e4
    · exact False.elim q3
end
end FT
end
section
set_option maxRecDepth 100000
namespace FT
open PySem L2
set_option autoImplicit false
/-! ### targets -/
inductive Tg where
  | nm (i : Nat) | tp (is : List Nat)
def setAll : List Nat → List D → Ev → Option Ev
  | [], [], e => some e
  | i :: is, d :: ds, e => setAll is ds (e.set i (some d))
  | _, _, _ => none
def tgM : Tg → D → Ev → Option Ev
  | .nm i, d, e => some (e.set i (some d))
  | .tp is, .tup ds, e => setAll is ds e
  | _, _, _ => none
def gNames : List Nat → TGs
  | [] => gNil
  | i :: is => gCons (gName i) (gNames is)
def gT (K : PySem.W.Frag) : Tg → TG
  | .nm i => gName i
  | .tp is => gTup K is.length (gNames is)
def Tg.slots : Tg → List Nat
  | .nm i => [i]
  | .tp is => is
abbrev MG (X : Cx) (tg : Expr) (t : Tg) : Prop := PG X tg (gT X.K t)
section
variable {X : Cx} {pos : Pos}
theorem mg_name {i : Nat} {x : Str} (hN : X.N.Nodup) (hi : X.N[i]? = some x) (hx : Loc X.env.scope x) (hf : X.fn x = true ∨ X.env.scope.names.lookup x = some .local := by first | exact .inl rfl | exact .inr rfl | assumption) : MG X (.Name x pos) (.nm i) := pg_name hN hi hx hf
theorem mg_tup {es : List Expr} {k : Nat} {is : List Nat} (hc : X.calm = true) (h : PGs X es (gNames is)) (hn : (assignEach es X.env).length = is.length := by rfl) (hst : (assignEach es X.env).findIdx? (·.1) = none := by rfl) : MG X (.Tuple es k pos) (.tp is) := pg_tup hc h hn hst
end
section
variable {wd : World} {K : PySem.W.Frag} {mg : Str → Option Value} {r : List Addr} {H : Hp}
theorem setAll_run : ∀ (is : List Nat) (ds : List D) (env env' : Ev) (σ : L2.St) (vs : List V) (Q : L2.St → Hp → Prop), setAll is ds env = some env' → ES K mg r H env σ → Reps K mg r H ds vs → (∀ σ', ES K mg r H env' σ' → (∀ own, (∀ i ∈ is, i ∈ own) → wipe σ' own = wipe σ own) → Q σ' H) → gNames is vs σ H Q
  | [], [], env, env', σ, vs, Q, e, es, hv, q => by
    cases e
    unfold Reps at hv
    exact ⟨hv, q σ es fun _ _ => rfl⟩
  | i :: is, d :: ds, env, env', σ, vs, Q, e, es, hv, q => by
    unfold Reps at hv
    obtain ⟨v, us, rfl, h1, h2⟩ := hv
    refine ⟨v, us, rfl, ?_⟩
    exact setAll_run is ds (env.set i (some d)) env' (σ.set i (some v)) us Q e (es.set i h1) h2 fun σ' es' hw => q σ' es' fun own ho => by
      rw [hw own fun j hj => ho j (List.mem_cons_of_mem _ hj)]
      exact wipe_set (ho i List.mem_cons_self)
  | [], d :: ds, env, env', σ, vs, Q, e, es, hv, q => by cases e
  | i :: is, [], env, env', σ, vs, Q, e, es, hv, q => by cases e
where
  wipe_set {σ : L2.St} {i : Nat} {v : Option V} : ∀ {own : List Nat}, i ∈ own → wipe (σ.set i v) own = wipe σ own
    | j :: own, h => by
      unfold wipe
      by_cases hj : i = j
      · subst hj
        by_cases hm : i ∈ own
        · rw [wipe_set hm]
        · apply List.ext_getElem?
          intro m
          by_cases hmi : m = i
          · subst hmi
            by_cases hl : m < σ.length
            · rw [List.getElem?_set_self (by rw [wipe_length]; simpa using hl), List.getElem?_set_self (by rw [wipe_length]; exact hl)]
            · rw [List.getElem?_eq_none (by simp [wipe_length]; omega), List.getElem?_eq_none (by simp [wipe_length]; omega)]
          · rw [List.getElem?_set_ne (Ne.symm hmi), List.getElem?_set_ne (Ne.symm hmi), wipe_get (Ne.symm hmi)]
      · have hm : i ∈ own := by
          rcases List.mem_cons.mp h with z | z
          · exact absurd z hj
          · exact z
        rw [wipe_set hm]
  wipe_get {σ : L2.St} {i m : Nat} {v : Option V} (hne : i ≠ m) : ∀ {own : List Nat}, (wipe (σ.set i v) own)[m]? = (wipe σ own)[m]?
    | [] => by unfold wipe; rw [List.getElem?_set_ne hne]
    | j :: own => by
      unfold wipe
      by_cases hj : j = m
      · subst hj
        by_cases hl : j < σ.length
        · rw [List.getElem?_set_self (by rw [wipe_length]; simpa using hl), List.getElem?_set_self (by rw [wipe_length]; exact hl)]
        · rw [List.getElem?_eq_none (by simp [wipe_length]; omega), List.getElem?_eq_none (by simp [wipe_length]; omega)]
      · rw [List.getElem?_set_ne hj, List.getElem?_set_ne hj, wipe_get hne]
theorem tg_run {t : Tg} {d : D} {env env' : Ev} {σ : L2.St} {v : V} {Q : L2.St → Hp → Prop} (e : tgM t d env = some env') (es : ES K mg r H env σ) (h : Rep K mg r H d v) (q : ∀ σ', ES K mg r H env' σ' → (∀ own, (∀ i ∈ t.slots, i ∈ own) → wipe σ' own = wipe σ own) → Q σ' H) : gT K t v σ H Q := by
  cases t with
  | nm i =>
    cases e
    exact q _ (es.set i h) fun own ho => setAll_run.wipe_set (ho i (by simp [Tg.slots]))
  | tp is =>
    cases d <;> try cases e
    rename_i ds
    obtain ⟨a, vs, rfl, h1, h2⟩ := rep_tup h
    refine ⟨a, vs, rfl, h1, ?_, setAll_run is ds env env' σ vs Q e es h2 q⟩
    rw [reps_len h2]
    exact len is ds env env' e
where
  len : ∀ (is : List Nat) (ds : List D) (env env' : Ev), setAll is ds env = some env' → ds.length = is.length
    | [], [], _, _, _ => rfl
    | i :: is, d :: ds, env, env', e => by
      have := len is ds _ _ (show setAll is ds (env.set i (some d)) = some env' from e)
      simp [this]
    | [], d :: ds, _, _, e => by cases e
    | i :: is, [], _, _, e => by cases e
end
/-! ### what is walked -/
inductive Sc where
  | items (ds : List D) | live (n : Nat)
def Sc.nx : Sc → Nat → MH → Option (Option D)
  | .items ds, i, _ => some ds[i]?
  | .live n, i, h => match h[n]? with
    | some (.lst ys) => some ys[i]?
    | _ => none
def Sc.size : Sc → MH → Nat
  | .items ds, _ => ds.length
  | .live n, h => match h[n]? with
    | some (.lst ys) => ys.length
    | _ => 0
section
variable (wd : World) (K : PySem.W.Frag) (mg : Str → Option Value)
def ItOk (J : It) (r1 : List Addr) (H1 : Hp) (sc : Sc) : Prop := ∀ (i : Nat) (r2 : List Addr) (H2 : Hp) (hp2 : MH), Ext K r1 H1 r2 H2 → HR wd K mg r2 hp2 H2 →
  (sc.nx i hp2 = some none → J.stop i H2) ∧ ∀ d, sc.nx i hp2 = some (some d) → J.go i H2 ∧ ∀ x H3, J.yld i H2 x H3 → Ext K r2 H2 r2 H3 ∧ HR wd K mg r2 hp2 H3 ∧ Rep K mg r2 H3 d x
abbrev LI : Rl Sc It := fun _ _ r' H' sc J => ItOk wd K mg J r' H' sc
instance : RlOk K (LI wd K mg) := ⟨fun _ _ h => h⟩
end
structure MI (X : Cx) (W : WX) (tg iter : Expr) (f : E Sc) : Prop where
  ex : ∃ wi, PI X tg iter wi ∧ ∀ (env : Ev) (σ : L2.St) (rr : List Addr) (H : Hp) (hp : MH) (Rr : It → Hp → Prop), ES X.K X.mg rr H env σ → HR X.w X.K X.mg rr hp H → Post X.w X.K X.mg W rr H σ (LI X.w X.K X.mg) Rr (f env hp) → wi σ H Rr
/-! ### for -/
def forGo (sc : Sc) (t : Tg) (body : S) : Nat → Nat → S
  | 0, _ => fun _ _ => .err
  | f + 1, i => fun env hp => match sc.nx i hp with
    | none => .err
    | some none => .next env hp
    | some (some d) => match tgM t d env with
      | none => .err
      | some env' => match body env' hp with
        | .next e h => forGo sc t body f (i + 1) e h
        | .cont e h => forGo sc t body f (i + 1) e h
        | .brk e h => .next e h
        | x => x
def sFor (src : E Sc) (t : Tg) (body : S) : S := fun env hp => (src env hp).toS env fun sc h => forGo sc t body (sc.size h + 1) 0 env h
section
variable {X : Cx} {W : WX} {tg iter : Expr} {body : List Stmt} {src : E Sc} {t : Tg} {fb : S} {pos : Pos}
theorem ms_for (hp : PassesOwn (model X.prog X.w) X.A X.env X.xe) (hc : X.calm = true) (hi : MI X W tg iter src) (hg : MG X tg t) (hb : MSs X W body fb)
    (hs : ∀ x, foldedSetIterable iter X.env x = pure x := by intro _; rfl) : MS X W (.For tg iter body [] pos) (sFor src t fb) := by
  obtain ⟨wi, h1, h2⟩ := hi.ex
  refine PSm (ps_for hp hc h1 hg hb hs) fun Dn σ H h => ?_
  obtain ⟨env, hp, rr, es, hh, q⟩ := h
  refine h2 env σ rr H hp _ es hh (PostS.bind es q fun sc hp1 r1 H1 J e1 hr1 l1 q1 => ?_)
  refine ⟨fun i m σ' H' => ∃ env' hp' r', Ext X.K r1 H1 r' H' ∧ ES X.K X.mg r' H' env' σ' ∧ HR X.w X.K X.mg r' hp' H' ∧ PostS X.w X.K X.mg W r' H' Dn (forGo sc t fb m i env' hp'),
    ⟨_, env, hp1, r1, Ext.refl, es.mono e1, hr1, q1⟩, ?_⟩
  rintro i m σ' H' ⟨env', hp', r', e', es', hr', q'⟩
  cases m with
  | zero => exact False.elim q'
  | succ f =>
    obtain ⟨s1, s2⟩ := l1 i r' H' hp' e' hr'
    simp only [forGo] at q'
    split at q'
    · exact False.elim q'
    · rename_i z
      exact .inl ⟨s1 z, q' r' H' σ' Ext.refl hr' es'⟩
    · rename_i d z
      obtain ⟨g1, g2⟩ := s2 d z
      refine .inr ⟨g1, fun σ2 H2 => ∃ env2 hp2 r2, Ext X.K r1 H1 r2 H2 ∧ ES X.K X.mg r2 H2 env2 σ2 ∧ HR X.w X.K X.mg r2 hp2 H2 ∧ PostS X.w X.K X.mg W r2 H2 Dn (forGo sc t fb f (i + 1) env2 hp2), fun σ2 H2 h => ⟨f, Nat.lt_succ_self _, h⟩, fun x H3 hy => ?_⟩
      obtain ⟨e3, hr3, rx⟩ := g2 x H3 hy
      split at q'
      · exact False.elim q'
      · rename_i env2 ez
        refine tg_run ez (es'.mono e3) rx fun σ2 es2 _ => ?_
        refine ⟨env2, hp', r', es2, hr3, ?_⟩
        split at q'
        · rename_i e h eb
          rw [eb]
          exact fun r4 H4 σ4 e4 hr4 es4 => ⟨e, h, r4, (e'.trans e3).trans e4, es4, hr4, PostS.weaken (e3.trans e4) q'⟩
        · rename_i e h eb
          rw [eb]
          exact fun r4 H4 σ4 e4 hr4 es4 => ⟨e, h, r4, (e'.trans e3).trans e4, es4, hr4, PostS.weaken (e3.trans e4) q'⟩
        · rename_i e h eb
          rw [eb]
          exact fun r4 H4 σ4 e4 hr4 es4 => q' r4 H4 σ4 (e3.trans e4) hr4 es4
        · rename_i x1 x2 x3
          cases eb : fb env2 hp' with
          | next e h => exact absurd eb (x1 e h)
          | cont e h => exact absurd eb (x2 e h)
          | brk e h => exact absurd eb (x3 e h)
          | ret d h => rw [eb] at q'; exact PostS.weaken (x := .ret d h) e3 q'
          | exc c e h => rw [eb] at q'; exact PostS.weaken (x := .exc c e h) e3 q'
          | err => rw [eb] at q'; exact q'
end
end FT
end
section
set_option maxRecDepth 100000
namespace FT
open PySem L2
set_option autoImplicit false
/-! ### while -/
def whileGo (c : E Bool) (b : S) : Nat → S
  | 0 => fun _ _ => .err
  | f + 1 => fun env hp => (c env hp).toS env fun x h => if x = true then (match b env h with
    | .next e h => whileGo c b f e h
    | .cont e h => whileGo c b f e h
    | .brk e h => .next e h
    | x => x) else .next env h
def FUEL : Nat := 1152921504606846976
def sWhile (c : E Bool) (b : S) : S := whileGo c b FUEL
section
variable {X : Cx} {W : WX} {c : Expr} {body : List Stmt} {fc : E Bool} {fb : S} {pos : Pos}
theorem ms_while (hp : PassesOwn (model X.prog X.w) X.A X.env X.xe) (hc : MT X W c fc) (hb : MSs X W body fb) : MS X W (.While c body [] pos) (sWhile fc fb) := by
  refine PSm (ps_while hp hc hb) fun Dn σ H h => ?_
  obtain ⟨env, hp, rr, es, hh, q⟩ := h
  refine ⟨fun m σ' H' => ∃ env' hp' r', Ext X.K rr H r' H' ∧ ES X.K X.mg r' H' env' σ' ∧ HR X.w X.K X.mg r' hp' H' ∧ PostS X.w X.K X.mg W r' H' Dn (whileGo fc fb m env' hp'),
    ⟨FUEL, env, hp, rr, Ext.refl, es, hh, q⟩, ?_⟩
  rintro m σ' H' ⟨env', hp', r', e', es', hr', q'⟩
  cases m with
  | zero => exact False.elim q'
  | succ f =>
    refine ⟨env', hp', r', es', hr', PostS.bind es' q' fun x hp1 r1 H1 y e1 hr1 l q1 => ?_⟩
    subst l
    cases x with
    | false => exact q1 r1 H1 σ' Ext.refl hr1 (es'.mono e1)
    | true =>
      refine ⟨fun σ2 H2 => ∃ env2 hp2 r2, Ext X.K rr H r2 H2 ∧ ES X.K X.mg r2 H2 env2 σ2 ∧ HR X.w X.K X.mg r2 hp2 H2 ∧ PostS X.w X.K X.mg W r2 H2 Dn (whileGo fc fb f env2 hp2), fun σ2 H2 h => ⟨f, Nat.lt_succ_self _, h⟩, ?_⟩
      refine ⟨env', hp1, r1, es'.mono e1, hr1, ?_⟩
      simp only [if_true] at q1
      cases eb : fb env' hp1 with
      | next e h =>
        rw [eb] at q1
        exact fun r4 H4 σ4 e4 hr4 es4 => ⟨e, h, r4, (e'.trans e1).trans e4, es4, hr4, PostS.weaken e4 q1⟩
      | cont e h =>
        rw [eb] at q1
        exact fun r4 H4 σ4 e4 hr4 es4 => ⟨e, h, r4, (e'.trans e1).trans e4, es4, hr4, PostS.weaken e4 q1⟩
      | brk e h => rw [eb] at q1; exact fun r4 H4 σ4 e4 hr4 es4 => q1 r4 H4 σ4 e4 hr4 es4
      | ret d h => rw [eb] at q1; exact q1
      | exc c e h => rw [eb] at q1; exact q1
      | err => rw [eb] at q1; exact q1
end
/-! ### comprehensions -/
def R.noX {a : Type} : R a → R a
  | .exc _ _ => .err
  | x => x
def wipeE (env : Ev) : List Nat → Ev
  | [] => env
  | v :: vs => (wipeE env vs).set v none
def bTrue : E Bool := fun _ h => .ok true h
def lcGo (sc : Sc) (t : Tg) (test : E Bool) (elt : E D) (env : Ev) : Nat → Nat → MH → R (List D)
  | 0, _, _ => .err
  | f + 1, i, h => match sc.nx i h with
    | none => .err
    | some none => .ok [] h
    | some (some d) => match tgM t d env with
      | none => .err
      | some env' => (test env' h).noX.bind fun b h1 => if b = true then (elt env' h1).noX.bind fun y h2 => (lcGo sc t test elt env f (i + 1) h2).bind fun ys h3 => .ok (y :: ys) h3 else lcGo sc t test elt env f (i + 1) h1
def lcM (src : E Sc) (own : List Nat) (t : Tg) (test : E Bool) (elt : E D) : E (List D) := fun env hp => (src env hp).bind fun sc h => if sc.size h < LIM then lcGo sc t test elt (wipeE env own) (sc.size h + 1) 0 h else .err
section
variable {wd : World} {K : PySem.W.Frag} {mg : Str → Option Value} {r : List Addr} {H : Hp}
theorem wipeE_len (env : Ev) : ∀ own : List Nat, (wipeE env own).length = env.length
  | [] => rfl
  | v :: vs => by unfold wipeE; rw [List.length_set, wipeE_len env vs]
theorem ES.none {env : Ev} {σ : L2.St} (es : ES K mg r H env σ) (i : Nat) : ES K mg r H (env.set i none) (σ.set i none) := by
  refine ⟨by simpa using es.len, fun j d' e => ?_⟩
  by_cases hj : j = i
  · subst hj
    by_cases hl : j < env.length
    · rw [List.getElem?_set_self hl] at e; cases e
    · rw [List.getElem?_eq_none (by simpa using hl)] at e; cases e
  · rw [List.getElem?_set_ne (Ne.symm hj)] at e
    obtain ⟨w, e1, e2⟩ := es.val j d' e
    exact ⟨w, by rw [List.getElem?_set_ne (Ne.symm hj)]; exact e1, e2⟩
theorem ES.wipe {env : Ev} {σ : L2.St} (es : ES K mg r H env σ) : ∀ own : List Nat, ES K mg r H (wipeE env own) (L2.wipe σ own)
  | [] => es
  | v :: vs => by
    unfold wipeE L2.wipe
    exact (ES.wipe es vs).none v
abbrev W0 : WX := fun _ _ _ _ => False
theorem Post.noX {a b c d : Type} {W : WX} {r0 : List Addr} {H0 : Hp} {σ σ' : L2.St} {L : Rl a b} {L2 : Rl c d} {Q : d → Hp → Prop} {Q' : b → Hp → Prop} {x : R a} {k : a → MH → R c}
    (h : Post wd K mg W r0 H0 σ L2 Q (x.noX.bind k)) (hk : ∀ x hp1 r1 H1 y, Ext K r H r1 H1 → HR wd K mg r1 hp1 H1 → L r H r1 H1 x y → Post wd K mg W r0 H0 σ L2 Q (k x hp1) → Q' y H1) : Post wd K mg W0 r H σ' L Q' x := by
  cases x with
  | ok x hp => exact fun r' H' y e' hr l => hk x hp r' H' y e' hr l h
  | exc c hp => exact False.elim h
  | err => exact h
theorem wipe_sub (σ : L2.St) (own : List Nat) : ∀ vs : List Nat, (∀ i ∈ vs, i ∈ own) → L2.wipe (L2.wipe σ vs) own = L2.wipe σ own
  | [], _ => rfl
  | v :: vs, h => by
    show L2.wipe ((L2.wipe σ vs).set v none) own = _
    rw [setAll_run.wipe_set (h v List.mem_cons_self)]
    exact wipe_sub σ own vs fun i hi => h i (List.mem_cons_of_mem _ hi)
theorem bind_assoc' {a b c : Type} (x : R a) (k : a → MH → R b) (l : b → MH → R c) : (x.bind k).bind l = x.bind fun y h => (k y h).bind l := by cases x <;> rfl
/-- a list outside of the mirror's heap changes -/
theorem wk_other {D : Addr} {acc acc' : List V} (hD : H D = some (.lst acc)) : Wk K r H r (upd H D (.lst acc')) := by
  refine ⟨⟨[], by simp⟩, fun c ws z => ?_, fun c ws z => ?_⟩
  · rcases z with (z | ⟨ob, z⟩) | z
    · exact .inl (.inl (by rw [upd_ne (ne_of z hD (by intro w; cases w))]; exact z))
    · exact .inl (.inr ⟨ob, by rw [upd_ne (ne_of z hD (by intro w; cases w))]; exact z⟩)
    · exact .inr z
  · rcases z with ⟨ob, z⟩ | z
    · exact .inl ⟨ob, by rw [upd_ne (ne_of z hD (by intro w; cases w))]; exact z⟩
    · exact .inr z
theorem hr_other {hp : MH} {D : Addr} {acc acc' : List V} (hr : HR wd K mg r hp H) (hD : H D = some (.lst acc)) (nD : D ∉ r) : HR wd K mg r hp (upd H D (.lst acc')) :=
  ⟨hr.len, hr.nd, fun n o e => by
    obtain ⟨a, e1, q⟩ := hr.obj n o e
    exact ⟨a, e1, q.mono (wk_other hD) (upd_ne fun z => nD (by rw [← z]; exact List.mem_of_getElem? e1))⟩⟩
theorem ext_other {r1 : List Addr} {H1 : Hp} {D : Addr} {acc acc' : List V} (e : Ext K r1 H1 r H) (hD : H D = some (.lst acc)) (h1 : H1 D = none) : Ext K r1 H1 r (upd H D (.lst acc')) := by
  have w := wk_other (K := K) (r := r) (acc' := acc') hD
  refine ⟨⟨e.pre, fun a vs z => w.tup a vs (e.tup a vs z), fun a vs z => w.fl a vs (e.fl a vs z)⟩, fun a o z n => ?_, fun a ob u z => by rw [upd_ne (ne_of_none z h1)]; exact e.frz a ob u z⟩
  obtain ⟨n1, z1⟩ := e.keep a o z n
  exact ⟨n1, by rw [upd_ne (ne_of_none z h1)]; exact z1⟩
end
section
variable {X : Cx} {W : WX} {elt tg iter : Expr} {ifs : List Expr} {src : E Sc} {t : Tg} {test : E Bool} {fe : E D} {pos : Pos} {own : List Nat}
theorem lc_run {wi : TI} (h2 : ∀ (env : Ev) (σ : L2.St) (rr : List Addr) (H : Hp) (hp : MH) (Rr : It → Hp → Prop), ES X.K X.mg rr H env σ → HR X.w X.K X.mg rr hp H → Post X.w X.K X.mg W rr H σ (LI X.w X.K X.mg) Rr (src env hp) → wi σ H Rr)
    (ho : ∀ i ∈ t.slots, i ∈ own) {σ : L2.St} {H : Hp} {Q : VK} (h : tR X.w X.K X.mg W (LL X.K X.mg) (lcM src own t test fe) σ H Q) :
    tLc wi (gT X.K t) (tR X.w X.K X.mg W0 LB test) (tR X.w X.K X.mg W0 (LV X.K X.mg) fe) own σ H Q := by
  obtain ⟨env, hp, rr, es, hh, q⟩ := h
  refine h2 env σ rr H hp _ es hh (Post.bind q fun sc hp1 r1 H1 J e1 hr1 l1 q1 => fun D hD => ?_)
  split at q1
  rotate_left
  · exact False.elim q1
  rename_i hsz
  have nD : D ∉ r1 := hr_nin hr1 hD
  refine ⟨fun i m H' => ∃ hp' r' acc dacc, i + m ≤ sc.size hp1 + 1 ∧ acc.length ≤ i ∧ Ext X.K r1 H1 r' H' ∧ HR X.w X.K X.mg r' hp' H' ∧ D ∉ r' ∧ H' D = some (.lst acc) ∧ Reps X.K X.mg r' H' dacc acc ∧
      Post X.w X.K X.mg W r1 H1 σ (LL X.K X.mg) Q ((lcGo sc t test fe (wipeE env own) m i hp').bind fun ys h3 => .ok (dacc ++ ys) h3), ?_, ?_⟩
  · refine ⟨sc.size hp1 + 1, hp1, r1, [], [], by omega, Nat.le_refl _, ext_new hD, hr_new hr1 hD, nD, upd_same, reps_nil, ?_⟩
    cases z : lcGo sc t test fe (wipeE env own) (sc.size hp1 + 1) 0 hp1 with
    | ok ys h3 => rw [z] at q1; exact q1
    | exc c h3 => rw [z] at q1; exact q1
    | err => rw [z] at q1; exact q1
  · rintro i m H' ⟨hp', r', acc, dacc, him, hacc, e', hr', nD', hDa, hv, q'⟩
    cases m with
    | zero => exact False.elim q'
    | succ f =>
      obtain ⟨s1, s2⟩ := l1 i r' H' hp' e' hr'
      simp only [lcGo] at q'
      split at q'
      · exact False.elim q'
      · rename_i z
        refine .inl ⟨s1 z, ?_⟩
        have q2 : Post X.w X.K X.mg W r1 H1 σ (LL X.K X.mg) Q (.ok (dacc ++ []) hp') := q'
        rw [List.append_nil] at q2
        exact q2 r' H' (.ref D) e' hr' ⟨D, acc, rfl, nD', hD, hDa, hv⟩
      · rename_i d z
        obtain ⟨g1, g2⟩ := s2 d z
        refine .inr ⟨g1, fun H2 => ∃ hp' r' acc dacc, (i + 1) + f ≤ sc.size hp1 + 1 ∧ acc.length ≤ i + 1 ∧ Ext X.K r1 H1 r' H2 ∧ HR X.w X.K X.mg r' hp' H2 ∧ D ∉ r' ∧ H2 D = some (.lst acc) ∧ Reps X.K X.mg r' H2 dacc acc ∧
          Post X.w X.K X.mg W r1 H1 σ (LL X.K X.mg) Q ((lcGo sc t test fe (wipeE env own) f (i + 1) hp').bind fun ys h3 => .ok (dacc ++ ys) h3), fun H2 h => ⟨f, Nat.lt_succ_self _, h⟩, fun x H3 hy => ?_⟩
        obtain ⟨e3, hr3, rx⟩ := g2 x H3 hy
        have keepD : ∀ {r4 : List Addr} {H4 : Hp}, Ext X.K r' H' r4 H4 → D ∉ r4 ∧ H4 D = some (.lst acc) := fun e4 => e4.keep D _ hDa nD'
        split at q'
        · exact False.elim q'
        · rename_i env2 ez
          refine tg_run ez ((((es.mono e1).mono e').mono e3).wipe own) rx fun σ2 es2 hw => ⟨?_, ?_⟩
          · rw [hw own ho]
            exact wipe_sub σ own own fun _ h => h
          · rw [bind_assoc'] at q'
            refine ⟨env2, hp', r', es2, hr3, Post.noX q' fun b hp4 r4 H4 b' e4 hr4 lb q4 => ?_⟩
            subst lb
            have e34 := e3.trans e4
            obtain ⟨nD4, hD4⟩ := keepD e34
            cases b with
            | false => exact ⟨hp4, r4, acc, dacc, by omega, by omega, e'.trans e34, hr4, nD4, hD4, Reps.mono e34 dacc hv, q4⟩
            | true =>
              have q5 : Post X.w X.K X.mg W r1 H1 σ (LL X.K X.mg) Q (((fe env2 hp4).noX.bind fun y h2 => (lcGo sc t test fe (wipeE env own) f (i + 1) h2).bind fun ys h3 => .ok (y :: ys) h3).bind fun ys h3 => .ok (dacc ++ ys) h3) := q4
              rw [bind_assoc'] at q5
              refine ⟨env2, hp4, r4, es2.mono e4, hr4, Post.noX q5 fun y hp6 r6 H6 vy e6 hr6 ly q6 => ?_⟩
              have e36 := e34.trans e6
              obtain ⟨nD6, hD6⟩ := keepD e36
              refine ⟨acc, hD6, Nat.lt_of_le_of_lt hacc (by have : sc.size hp1 < sizeLine := hsz; omega), ?_⟩
              refine ⟨hp6, r6, acc ++ [vy], dacc ++ [y], by omega, by simp; omega, ext_other (e'.trans e36) hD6 hD, hr_other hr6 hD6 nD6, nD6, upd_same, ?_, ?_⟩
              · exact Reps.monoW (wk_other hD6) _ (reps_append (Reps.mono e36 dacc hv) (reps_cons ly reps_nil))
              · cases z6 : lcGo sc t test fe (wipeE env own) f (i + 1) hp6 with
                | ok ys h3 =>
                  rw [z6] at q6
                  have q7 : Post X.w X.K X.mg W r1 H1 σ (LL X.K X.mg) Q (.ok (dacc ++ (y :: ys)) h3) := q6
                  show Post X.w X.K X.mg W r1 H1 σ (LL X.K X.mg) Q (.ok ((dacc ++ [y]) ++ ys) h3)
                  rw [List.append_assoc]
                  exact q7
                | exc c h3 => rw [z6] at q6; exact q6
                | err => rw [z6] at q6; exact q6
theorem ml_lc {scope : Scope} {own' : List (Str × Nat)} (hc : X.calm = true) (hN : X.N.Nodup) (hi : MI X W tg iter src) (ok : BlkOk X.N X.env.scope scope own') (ho : ∀ i ∈ t.slots, i ∈ own'.map (·.2))
    (hg : ∀ (s : Shared) (H : Hp) (C : Addr) (cl : List (Str × Addr)) (fp : List Addr), MG (X.blk s H scope (compEnvC scope cl C X.env) fp) tg t)
    (ht : ∀ (s : Shared) (H : Hp) (C : Addr) (cl : List (Str × Addr)) (fp : List Addr), PTs (X.blk s H scope (compEnvC scope cl C X.env) fp) ifs (tR X.w X.K X.mg W0 LB test))
    (he : ∀ (s : Shared) (H : Hp) (C : Addr) (cl : List (Str × Addr)) (fp : List Addr), ME (X.blk s H scope (compEnvC scope cl C X.env) fp) W0 elt fe) (hs : ∀ x, foldedSetIterable iter X.env x = pure x := by intro _; rfl) :
    ML X W (.ListComp elt [⟨tg, iter, ifs, 0⟩] scope pos) (lcM src (own'.map (·.2)) t test fe) := by
  obtain ⟨wi, h1, h2⟩ := hi.ex
  exact PEm (pe_lc hc hN h1 ok hg ht he hs) fun σ H Q h => lc_run h2 ho h
/-- y = [..] -/
theorem ms_setLc {scope : Scope} {own' : List (Str × Nat)} {i : Nat} {y : Str} {py spos : Pos} (hc : X.calm = true) (hN : X.N.Nodup) (hy : X.N[i]? = some y) (hyl : X.env.scope.names.lookup y = some .local)
    (hsw : swapsWith (.ListComp elt [⟨tg, iter, ifs, 0⟩] scope pos) (some (.Name y py)) spos.line X.env = pure true) (hi : MI X W tg iter src) (ok : BlkOk X.N X.env.scope scope own') (ho : ∀ i ∈ t.slots, i ∈ own'.map (·.2))
    (hg : ∀ (s : Shared) (H : Hp) (C : Addr) (cl : List (Str × Addr)) (fp : List Addr), MG (X.blk s H scope (compEnvC scope cl C X.env) fp) tg t)
    (ht : ∀ (s : Shared) (H : Hp) (C : Addr) (cl : List (Str × Addr)) (fp : List Addr), PTs (X.blk s H scope (compEnvC scope cl C X.env) fp) ifs (tR X.w X.K X.mg W0 LB test))
    (he : ∀ (s : Shared) (H : Hp) (C : Addr) (cl : List (Str × Addr)) (fp : List Addr), ME (X.blk s H scope (compEnvC scope cl C X.env) fp) W0 elt fe) (hs : ∀ x, foldedSetIterable iter X.env x = pure x := by intro _; rfl) :
    MS X W (.Assign [.Name y py] (.ListComp elt [⟨tg, iter, ifs, 0⟩] scope pos) spos) (sSet i (vAlloc (lcM src (own'.map (·.2)) t test fe))) := by
  obtain ⟨wi, h1, h2⟩ := hi.ex
  exact PSm (ps_setLc hc hN hy hyl hsw h1 ok hg ht he hs) fun Dn σ H h => set_run (fun Q q => lc_run h2 ho (alloc_run q)) h
theorem mts_nil : PTs X [] (tR X.w X.K X.mg W LB bTrue) := ⟨fun pins s σ H Q I h => pts_nil.run pins s σ H Q I (by
  obtain ⟨env, hp, rr, es, hh, q⟩ := h
  exact q rr H true Ext.refl hh rfl)⟩
theorem mts_one {c : Expr} {f : E Bool} (h : MT X W c f) : PTs X [c] (tR X.w X.K X.mg W LB f) := pts_one h
end
end FT
end
section
set_option maxRecDepth 100000
namespace FT
open PySem L2
set_option autoImplicit false
section
variable {X : Cx} {W : WX} {tg e e2 : Expr} {f : E D} {fl g : E (List D)} {pos p tpos : Pos}
/-! ### what a loop walks -/
def srcOf (x : D) (h : MH) : R Sc := match x with
  | .tup ds => .ok (.items ds) h
  | .rol ds => .ok (.items ds) h
  | .str s => .ok (.items (s.map fun c => .str [c])) h
  | .obj n => match h[n]? with
    | some (.lst _) => .ok (.live n) h
    | _ => .err
  | _ => .err
def vSrc (f : E D) : E Sc := fun env hp => (f env hp).bind fun x h => srcOf x h
theorem it_tup {r : List Addr} {H : Hp} {a : Addr} {vs : List V} {ds : List D} (h1 : SqT X.K H a vs) (h2 : Reps X.K X.mg r H ds vs) : ItOk X.w X.K X.mg (Itt X.K a) r H (.items ds) := by
  intro i r2 H2 hp2 e2 hr2
  have h3 := e2.tup a vs h1
  have h4 := Reps.mono e2 ds h2
  refine ⟨fun z => ⟨vs, h3, ?_⟩, fun d z => ?_⟩
  · have z' : ds[i]? = none := by injection z
    rw [reps_len h4]
    exact List.getElem?_eq_none_iff.mp z'
  · have z' : ds[i]? = some d := by injection z
    obtain ⟨v, e3, e4⟩ := reps_get h4 z'
    refine ⟨⟨vs, v, h3, e3⟩, fun x H3 hy => ?_⟩
    obtain ⟨rfl, hy⟩ := hy
    have := hy vs h3
    rw [e3] at this; cases this
    exact ⟨Ext.refl, hr2, e4⟩
theorem it_rol {r : List Addr} {H : Hp} {a : Addr} {vs : List V} {ds : List D} (h1 : SqF X.K H a vs) (h2 : Reps X.K X.mg r H ds vs) : ItOk X.w X.K X.mg (Itl X.K a) r H (.items ds) := by
  intro i r2 H2 hp2 e2 hr2
  have h3 := (e2.fl a vs h1).sq
  have h4 := Reps.mono e2 ds h2
  refine ⟨fun z => ⟨vs, h3, ?_⟩, fun d z => ?_⟩
  · have z' : ds[i]? = none := by injection z
    rw [reps_len h4]
    exact List.getElem?_eq_none_iff.mp z'
  · have z' : ds[i]? = some d := by injection z
    obtain ⟨v, e3, e4⟩ := reps_get h4 z'
    refine ⟨⟨vs, v, h3, e3⟩, fun x H3 hy => ?_⟩
    obtain ⟨rfl, hy⟩ := hy
    have := hy vs h3
    rw [e3] at this; cases this
    exact ⟨Ext.refl, hr2, e4⟩
theorem it_new {r : List Addr} {H : Hp} {a : Addr} {vs : List V} {ds : List D} (h1 : H a = some (.lst vs)) (na : a ∉ r) (h2 : Reps X.K X.mg r H ds vs) : ItOk X.w X.K X.mg (Itl X.K a) r H (.items ds) := by
  intro i r2 H2 hp2 e2 hr2
  have h3 : SqL X.K H2 a vs := SqL.of (e2.keep a _ h1 na).2
  have h4 := Reps.mono e2 ds h2
  refine ⟨fun z => ⟨vs, h3, ?_⟩, fun d z => ?_⟩
  · have z' : ds[i]? = none := by injection z
    rw [reps_len h4]
    exact List.getElem?_eq_none_iff.mp z'
  · have z' : ds[i]? = some d := by injection z
    obtain ⟨v, e3, e4⟩ := reps_get h4 z'
    refine ⟨⟨vs, v, h3, e3⟩, fun x H3 hy => ?_⟩
    obtain ⟨rfl, hy⟩ := hy
    have := hy vs h3
    rw [e3] at this; cases this
    exact ⟨Ext.refl, hr2, e4⟩
theorem it_live {r : List Addr} {H : Hp} {a : Addr} {n : Nat} (h1 : r[n]? = some a) : ItOk X.w X.K X.mg (Itl X.K a) r H (.live n) := by
  intro i r2 H2 hp2 e2 hr2
  have g := e2.at h1
  constructor
  · intro z
    simp only [Sc.nx] at z
    split at z
    · rename_i ys ez
      obtain ⟨a', g', vs, ea, hv⟩ := hr2.obj _ _ ez
      rw [g] at g'; cases g'
      have z' : ys[i]? = none := by injection z
      exact ⟨vs, SqL.of ea, by rw [reps_len hv]; exact List.getElem?_eq_none_iff.mp z'⟩
    · cases z
  · intro d z
    simp only [Sc.nx] at z
    split at z
    · rename_i ys ez
      obtain ⟨a', g', vs, ea, hv⟩ := hr2.obj _ _ ez
      rw [g] at g'; cases g'
      have z' : ys[i]? = some d := by injection z
      obtain ⟨v, e3, e4⟩ := reps_get hv z'
      refine ⟨⟨vs, v, SqL.of ea, e3⟩, fun x H3 hy => ?_⟩
      obtain ⟨rfl, hy⟩ := hy
      have := hy vs (SqL.of ea)
      rw [e3] at this; cases this
      exact ⟨Ext.refl, hr2, e4⟩
    · cases z
theorem it_str {r : List Addr} {H : Hp} (s : List Nat) : ItOk X.w X.K X.mg (Its ⟨s.toArray⟩) r H (.items (s.map fun c => .str [c])) := by
  intro i r2 H2 hp2 e2 hr2
  refine ⟨fun z => ?_, fun d z => ?_⟩
  · have z' : (s.map fun c => D.str [c])[i]? = none := by injection z
    have := List.getElem?_eq_none_iff.mp z'
    show (⟨s.toArray⟩ : Str).cps.size ≤ i
    simpa using this
  · have z' : (s.map fun c => D.str [c])[i]? = some d := by injection z
    rw [List.getElem?_map] at z'
    cases zz : s[i]? with
    | none => rw [zz] at z'; cases z'
    | some c =>
      rw [zz] at z'
      cases z'
      refine ⟨by show i < (⟨s.toArray⟩ : Str).cps.size; simpa using (List.getElem?_eq_some_iff.mp zz).1, fun x H3 hy => ?_⟩
      obtain ⟨rfl, c', h1, rfl⟩ := hy
      have : s[i]? = some c' := by simpa using h1
      rw [zz] at this; cases this
      exact ⟨Ext.refl, hr2, of_str⟩
theorem PI.or {w1 w2 : TI} (h1 : PI X tg e w1) (h2 : PI X tg e w2) : PI X tg e (fun σ H R => w1 σ H R ∨ w2 σ H R) := ⟨fun pins s σ H R I h => by
  rcases h with h | h
  · exact h1.run pins s σ H R I h
  · exact h2.run pins s σ H R I h⟩
theorem mi_val (h : ME X W e f) : MI X W tg e (vSrc f) := ⟨_, PI.or (pi_tup h) (PI.or (pi_list h) (pi_str h)), fun env σ rr H hp Rr es hr p => by
  unfold vSrc at p
  have p0 := p
  cases z : f env hp with
  | err => rw [z] at p; exact False.elim p
  | exc c h' =>
    rw [z] at p
    refine .inl ⟨env, hp, rr, es, hr, ?_⟩
    rw [z]
    exact p
  | ok x h' =>
    rw [z] at p
    have p' : Post X.w X.K X.mg W rr H σ (LI X.w X.K X.mg) Rr (srcOf x h') := p
    cases x <;> try exact False.elim p'
    · rename_i s
      refine .inr (.inr ⟨env, hp, rr, es, hr, ?_⟩)
      rw [z]
      exact fun r1 H1 v e1 hr1 l => ⟨_, rep_str l, p' r1 H1 _ e1 hr1 (it_str s)⟩
    · rename_i ds
      refine .inl ⟨env, hp, rr, es, hr, ?_⟩
      rw [z]
      intro r1 H1 v e1 hr1 l
      obtain ⟨a, vs, rfl, h1, h2⟩ := rep_tup l
      exact ⟨a, rfl, ⟨vs, h1⟩, p' r1 H1 _ e1 hr1 (it_tup h1 h2)⟩
    · rename_i n
      refine .inr (.inl ⟨env, hp, rr, es, hr, ?_⟩)
      rw [z]
      intro r1 H1 v e1 hr1 l
      obtain ⟨a, rfl, h1⟩ := rep_obj l
      simp only [srcOf] at p'
      split at p'
      · rename_i ys ez
        obtain ⟨a', g', vs, ea, hv⟩ := hr1.obj _ _ ez
        rw [h1] at g'; cases g'
        exact ⟨a, rfl, ⟨vs, SqL.of ea⟩, p' r1 H1 _ e1 hr1 (it_live h1)⟩
      · exact False.elim p'
    · rename_i ds
      refine .inr (.inl ⟨env, hp, rr, es, hr, ?_⟩)
      rw [z]
      intro r1 H1 v e1 hr1 l
      unfold LV Rep at l
      obtain ⟨a, vs, rfl, h1, h2⟩ := l
      exact ⟨a, rfl, ⟨vs, h1.sq⟩, p' r1 H1 _ e1 hr1 (it_rol h1 h2)⟩⟩
/-- over a new list -/
def lSrc (fl : E (List D)) : E Sc := fun env hp => (fl env hp).bind fun ds h => .ok (.items ds) h
theorem mi_list (h : ML X W e fl) : MI X W tg e (lSrc fl) := ⟨_, pi_list h, fun env σ rr H hp Rr es hr p => by
  refine ⟨env, hp, rr, es, hr, Post.bind p fun ds hp1 r1 H1 y e1 hr1 l q => ?_⟩
  obtain ⟨a, vs, rfl, na, _, ea, hv⟩ := l
  exact ⟨a, rfl, ⟨vs, SqL.of ea⟩, q r1 H1 _ Ext.refl hr1 (it_new ea na hv)⟩⟩
/-! ### range -/
def upTo (lo : Int) : Nat → List D
  | 0 => []
  | n + 1 => .int lo :: upTo (lo + 1) n
def rng1 (ds : List D) (h : MH) : R Sc := match ds with
  | [.int j] => if -(2 ^ 62) ≤ j ∧ j < 2 ^ 62 then .ok (.items (upTo 0 j.toNat)) h else .err
  | _ => .err
def rng2 (ds : List D) (h : MH) : R Sc := match ds with
  | [.int i, .int j] => if -(2 ^ 62) ≤ i ∧ i < 2 ^ 62 ∧ -(2 ^ 62) ≤ j ∧ j < 2 ^ 62 then .ok (.items (upTo i (j - i).toNat)) h else .err
  | _ => .err
def aSrc (q : List D → MH → R Sc) (g : E (List D)) : E Sc := fun env hp => (g env hp).bind fun ds h => q ds h
theorem upTo_get : ∀ (n : Nat) (lo : Int) (i : Nat), (upTo lo n)[i]? = if i < n then some (.int (lo + i)) else none
  | 0, lo, i => by simp [upTo]
  | n + 1, lo, 0 => by simp [upTo]
  | n + 1, lo, i + 1 => by
    simp only [upTo, List.getElem?_cons_succ, upTo_get n (lo + 1) i]
    by_cases h : i < n
    · rw [if_pos h, if_pos (by omega)]
      congr 2
      push_cast
      omega
    · rw [if_neg h, if_neg (by omega)]
theorem it_rng {r : List Addr} {H : Hp} (lo : Int) (n : Nat) : ItOk X.w X.K X.mg (Itr lo n) r H (.items (upTo lo n)) := by
  intro i r2 H2 hp2 e2 hr2
  refine ⟨fun z => ?_, fun d z => ?_⟩
  · have z' : (upTo lo n)[i]? = none := by injection z
    rw [upTo_get] at z'
    split at z'
    · cases z'
    · show n ≤ i
      omega
  · have z' : (upTo lo n)[i]? = some d := by injection z
    rw [upTo_get] at z'
    split at z'
    · rename_i h
      cases z'
      refine ⟨h, fun x H3 hy => ?_⟩
      obtain ⟨rfl, rfl⟩ := hy
      exact ⟨Ext.refl, hr2, of_int⟩
    · cases z'
theorem aSrc_run {q : List D → MH → R Sc} {env : Ev} {σ : L2.St} {rr : List Addr} {H : Hp} {hp : MH} {Rr : It → Hp → Prop} {Q : List V → Hp → Prop} (es : ES X.K X.mg rr H env σ) (hr : HR X.w X.K X.mg rr hp H) (p : Post X.w X.K X.mg W rr H σ (LI X.w X.K X.mg) Rr (aSrc q g env hp))
    (k : ∀ ds h' r1 H1 vs, Ext X.K rr H r1 H1 → HR X.w X.K X.mg r1 h' H1 → Reps X.K X.mg r1 H1 ds vs → Post X.w X.K X.mg W r1 H1 σ (LI X.w X.K X.mg) Rr (q ds h') → Q vs H1) : tR X.w X.K X.mg W (LA X.K X.mg) g σ H Q :=
  ⟨env, hp, rr, es, hr, Post.bind p fun ds hp1 r1 H1 y e1 hr1 l q => k ds hp1 r1 H1 y e1 hr1 l q⟩
theorem mi_range1 (hg : Gl X "range") (hm : X.mg "range" = none) (ha : MA X W [e] g) (hs : starEach [e] X.env = [(false, eval e X.env)] := by rfl) : MI X W tg (.Call (.Name "range" p) [e] [] pos) (aSrc rng1 g) :=
  ⟨_, pi_range1 hg hm ha hs, fun env σ rr H hp Rr es hr p => aSrc_run es hr p fun ds h' r1 H1 vs e1 hr1 l p' => by
      unfold rng1 at p'
      split at p'
      · obtain ⟨v, rfl, h1⟩ := reps1 l
        obtain rfl := rep_int h1
        split at p'
        · rename_i hc
          exact ⟨_, rfl, hc.1, hc.2, p' r1 H1 _ Ext.refl hr1 (it_rng 0 _)⟩
        · exact False.elim p'
      · exact False.elim p'⟩
theorem mi_range2 (hg : Gl X "range") (hm : X.mg "range" = none) (ha : MA X W [e, e2] g) (hs : starEach [e, e2] X.env = [(false, eval e X.env), (false, eval e2 X.env)] := by rfl) (hs2 : starEach [e2] X.env = [(false, eval e2 X.env)] := by rfl) : MI X W tg (.Call (.Name "range" p) [e, e2] [] pos) (aSrc rng2 g) :=
  ⟨_, pi_range2 hg hm ha hs hs2, fun env σ rr H hp Rr es hr p => aSrc_run es hr p fun ds h' r1 H1 vs e1 hr1 l p' => by
      unfold rng2 at p'
      split at p'
      · obtain ⟨v, w, rfl, h1, h2⟩ := reps2 l
        obtain rfl := rep_int h1
        obtain rfl := rep_int h2
        split at p'
        · rename_i hc
          exact ⟨_, _, rfl, hc, p' r1 H1 _ Ext.refl hr1 (it_rng _ _)⟩
        · exact False.elim p'
      · exact False.elim p'⟩
/-! ### zip of two tuples -/
def zipD : List D → List D → List D
  | x :: xs, y :: ys => .tup [x, y] :: zipD xs ys
  | _, _ => []
def zipT (ds : List D) (h : MH) : R Sc := match ds with
  | [.tup xs, .tup ys] => .ok (.items (zipD xs ys)) h
  | _ => .err
theorem zipD_get : ∀ (xs ys : List D) (i : Nat), (zipD xs ys)[i]? = match xs[i]?, ys[i]? with
    | some x, some y => some (.tup [x, y])
    | _, _ => none
  | [], ys, i => by simp [zipD]
  | x :: xs, [], i => by simp [zipD]
  | x :: xs, y :: ys, 0 => by simp [zipD]
  | x :: xs, y :: ys, i + 1 => by simp [zipD, zipD_get xs ys i]
theorem it_zipT {r : List Addr} {H : Hp} {a b : Addr} {vs ws : List V} {ds es : List D} (h1 : SqT X.K H a vs) (h2 : Reps X.K X.mg r H ds vs) (h3 : SqT X.K H b ws) (h4 : Reps X.K X.mg r H es ws) : ItOk X.w X.K X.mg (RZ.ItzT X.K a b) r H (.items (zipD ds es)) := by
  intro i r2 H2 hp2 e2 hr2
  have g1 := e2.tup a vs h1
  have g2 := Reps.mono e2 ds h2
  have g3 := e2.tup b ws h3
  have g4 := Reps.mono e2 es h4
  refine ⟨fun z => ⟨vs, ws, g1, g3, ?_⟩, fun d z => ?_⟩
  · have z' : (zipD ds es)[i]? = none := by injection z
    rw [zipD_get] at z'
    rw [reps_len g2, reps_len g4]
    split at z'
    · cases z'
    · rename_i hne
      by_cases h5 : ds.length ≤ i
      · exact .inl h5
      · by_cases h6 : es.length ≤ i
        · exact .inr h6
        · exact absurd (List.getElem?_eq_getElem (by omega : i < es.length)) (hne _ _ (List.getElem?_eq_getElem (by omega : i < ds.length)))
  · have z' : (zipD ds es)[i]? = some d := by injection z
    rw [zipD_get] at z'
    split at z'
    · rename_i x y ex ey
      cases z'
      obtain ⟨v, k1, k2⟩ := reps_get g2 ex
      obtain ⟨w, k3, k4⟩ := reps_get g4 ey
      refine ⟨⟨vs, ws, v, w, g1, g3, k1, k3⟩, fun z H3 hy => ?_⟩
      obtain ⟨T, v', w', rfl, nT, rfl, y1, y2⟩ := hy
      have z1 := y1 vs g1
      rw [k1] at z1; cases z1
      have z2 := y2 ws g3
      rw [k3] at z2; cases z2
      exact ⟨ext_new nT, hr_new hr2 nT, of_tup (SqT.of upd_same) (reps_cons (Rep.mono (ext_new nT) _ k2) (reps_cons (Rep.mono (ext_new nT) _ k4) reps_nil))⟩
    · cases z'
theorem mi_zipT {elts : List Expr} {kk : Nat} (hg : Gl X "zip") (hm : X.mg "zip" = none) (ha : MA X W [e, e2] g)
    (hs : starEach [e, e2] X.env = (false, eval e X.env) :: starEach [e2] X.env := by rfl) (hpl : (backTo pos (starEach [e2] X.env)).any (·.1) = false := by rfl) : MI X W (.Tuple elts kk tpos) (.Call (.Name "zip" p) [e, e2] [] pos) (aSrc zipT g) :=
  ⟨_, RZ.pi_zipA hg hm ha hs hpl, fun env σ rr H hp Rr es hr p => aSrc_run es hr p fun ds h' r1 H1 vs e1 hr1 l p' => by
      unfold zipT at p'
      split at p'
      · obtain ⟨v, w, rfl, h1, h2⟩ := reps2 l
        obtain ⟨a, us, rfl, k1, k2⟩ := rep_tup h1
        obtain ⟨b, ws, rfl, k3, k4⟩ := rep_tup h2
        exact ⟨a, b, us, ws, rfl, .inr ⟨k1, k3, p' r1 H1 _ Ext.refl hr1 (it_zipT k1 k2 k3 k4)⟩⟩
      · exact False.elim p'⟩
end
end FT
end
section
set_option maxRecDepth 100000
namespace FT
open PySem L2
set_option autoImplicit false
section
variable {X : Cx} {W : WX} {e a b o : Expr} {f k fo : E D} {fl gl : E (List D)} {pos p apos cpos : Pos}
/-! ### sep.join(new list of texts) -/
def joinP (sep : D) (ds : List D) (h : MH) : R D := match sep, strsOf ds with
  | .str s, some ps => if (ps.map List.length).sum + ps.length * s.length ≤ LIM then .ok (.str (TL.joinL s ps)) h else .err
  | _, _ => .err
def vJoin (f : E D) (fl : E (List D)) : E D := fun env hp => (f env hp).bind fun s h1 => (fl env h1).bind fun ds h2 => joinP s ds h2
theorem isStr_of {d : D} {ds : List D} {h : MH} {W : WX} {r : List Addr} {H : Hp} {σ : L2.St} {Q : VK} (p : Post X.w X.K X.mg W r H σ (LV X.K X.mg) Q (joinP d ds h)) : ∃ s, d = .str s := by
  cases d <;> first | exact ⟨_, rfl⟩ | exact False.elim p
theorem join_str (s : List Nat) (ps : List (List Nat)) : Txt.join (⟨s.toArray⟩ : Str) (ps.map fun q => (⟨q.toArray⟩ : Str)) = ⟨(TL.joinL s ps).toArray⟩ := by
  rw [TL.join_eq]
  have h := TL.tl_join (⟨s.toArray⟩ : Str) (ps.map fun q => (⟨q.toArray⟩ : Str))
  generalize Str.join (⟨s.toArray⟩ : Str) (ps.map fun q => (⟨q.toArray⟩ : Str)) = z at h
  cases z
  rename_i c
  have h' : c.toList = TL.joinL s ps := by
    have e1 : (List.map TL.tl (List.map (fun q => (⟨q.toArray⟩ : Str)) ps)) = ps := by
      rw [List.map_map]
      conv => rhs; rw [← List.map_id ps]
      apply List.map_congr_left
      intro q _
      simp [TL.tl]
    rw [e1] at h
    simpa [TL.tl] using h
  rw [← h']
/-- the value of the receiver is a text whatever comes behind -/
def asStr (x : D) (k : R D) : R D := match x with
  | .str _ => k
  | _ => .err
theorem me_join (ho : ME X W o f) (he : ML X W e fl) (hs : starEach [e] X.env = [(false, eval e X.env)] := by rfl) (hbase : attributeBase o "join" X.env (eval o X.env) = eval o X.env := by rfl) (hline : (apos.endLine == pos.line) = true := by rfl) :
    ME X W (.Call (.Attribute o "join" apos) [e] [] pos) (fun env hp => (f env hp).bind fun s h1 => asStr s ((fl env h1).bind fun ds h2 => joinP s ds h2)) := PEm (pe_join ho he hs hbase hline) fun σ H Q h => by
  obtain ⟨env, hp, rr, es, hh, q⟩ := h
  refine ⟨env, hp, rr, es, hh, Post.bind q fun s hp1 r1 H1 v e1 hr1 rv q1 => ?_⟩
  cases s <;> try exact False.elim q1
  rename_i s
  obtain rfl := rep_str rv
  have q1' : Post X.w X.K X.mg W r1 H1 σ (LV X.K X.mg) Q ((fl env hp1).bind fun ds h2 => joinP (.str s) ds h2) := q1
  refine ⟨⟨_, rfl⟩, env, hp1, r1, es.mono e1, hr1, Post.bind q1' fun ds hp2 r2 H2 y e2 hr2 l q2 => ?_⟩
  obtain ⟨a, vs, rfl, na, n0, ea, hv⟩ := l
  simp only [joinP] at q2
  split at q2
  · rename_i s' ps es' ep
    cases es'
    split at q2
    · rename_i hl
      obtain rfl := strsOf_eq ep
      obtain rfl := reps_strs hv
      have e2 : (ps.map fun s => V.str ⟨s.toArray⟩) = (ps.map fun q => (⟨q.toArray⟩ : Str)).map V.str := by rw [List.map_map]; rfl
      have e3 : ((ps.map fun q => (⟨q.toArray⟩ : Str)).map (·.length)) = ps.map List.length := by
        rw [List.map_map]
        apply List.map_congr_left
        intro q _
        exact str_len q
      refine ⟨_, a, ps.map (fun q => (⟨q.toArray⟩ : Str)), rfl, rfl, .inl (SqL.of (by rw [← e2]; exact ea)), ?_, ?_⟩
      · rw [e3, str_len, List.length_map]
        exact hl
      · rw [join_str]
        exact post_at hr2 q2 of_str
    · exact False.elim q2
  · exact False.elim q2
/-! ### lists are put together -/
def catLL (fl gl : E (List D)) : E (List D) := fun env hp => (fl env hp).bind fun xs h1 => (gl env h1).bind fun ys h2 => if xs.length + ys.length ≤ LIM then .ok (xs ++ ys) h2 else .err
theorem ml_catLL (ha : ML X W a fl) (hb : ML X W b gl) : ML X W (.BinOp a .Add b pos) (catLL fl gl) := PEm (pe_op op_cat ha hb) fun σ H Q h => by
  obtain ⟨env, hp, rr, es, hh, q⟩ := h
  refine ⟨env, hp, rr, es, hh, Post.bind q fun xs hp1 r1 H1 v e1 hr1 l1 q1 => ?_⟩
  obtain ⟨a, vs, rfl, na, n0, ea, hv⟩ := l1
  refine ⟨env, hp1, r1, es.mono e1, hr1, Post.bind q1 fun ys hp2 r2 H2 w e2 hr2 l2 q2 => ?_⟩
  obtain ⟨b, ws, rfl, nb, m0, eb, hw⟩ := l2
  split at q2
  · rename_i hl
    exact ⟨a, b, vs, ws, rfl, rfl, (e2.keep a _ ea na).2, eb, by rw [reps_len hv, reps_len hw]; exact hl, fun q hq => post_new hr2 q2 (reps_append (Reps.mono e2 xs hv) hw) hq⟩
  · exact False.elim q2
def lstOf (x : D) (h : MH) : Option (List D) := match x with
  | .obj n => match h[n]? with
    | some (.lst ds) => some ds
    | _ => none
  | _ => none
theorem lstOf_sq {rr : List Addr} {H : Hp} {hp : MH} {x : D} {v : V} {ds : List D} (hr : HR X.w X.K X.mg rr hp H) (h : Rep X.K X.mg rr H x v) (e : lstOf x hp = some ds) : ∃ a vs n, v = .ref a ∧ x = .obj n ∧ rr[n]? = some a ∧ hp[n]? = some (.lst ds) ∧ H a = some (.lst vs) ∧ Reps X.K X.mg rr H ds vs := by
  cases x <;> try cases e
  rename_i n
  obtain ⟨a, rfl, h1⟩ := rep_obj h
  simp only [lstOf] at e
  split at e
  · rename_i xs e1
    obtain ⟨a', g1, vs, ea, hv⟩ := hr.obj _ _ e1
    rw [h1] at g1; cases g1
    cases e
    exact ⟨a, vs, n, rfl, rfl, h1, e1, ea, hv⟩
  · cases e
def catOL (f : E D) (gl : E (List D)) : E (List D) := fun env hp => (f env hp).bind fun x h1 => (gl env h1).bind fun ys h2 => match lstOf x h2 with
  | some xs => if xs.length + ys.length ≤ LIM then .ok (xs ++ ys) h2 else .err
  | none => .err
theorem ml_catOL (ha : ME X W a f) (hb : ML X W b gl) : ML X W (.BinOp a .Add b pos) (catOL f gl) := PEm (pe_op op_cat ha hb) fun σ H Q h => by
  obtain ⟨env, hp, rr, es, hh, q⟩ := h
  refine ⟨env, hp, rr, es, hh, Post.bind q fun x hp1 r1 H1 v e1 hr1 l1 q1 => ?_⟩
  refine ⟨env, hp1, r1, es.mono e1, hr1, Post.bind q1 fun ys hp2 r2 H2 w e2 hr2 l2 q2 => ?_⟩
  obtain ⟨b, ws, rfl, nb, m0, eb, hw⟩ := l2
  split at q2
  · rename_i xs ex
    split at q2
    · rename_i hl
      obtain ⟨a, vs, n, rfl, _, _, _, ea, hv⟩ := lstOf_sq hr2 (Rep.mono e2 x l1) ex
      exact ⟨a, b, vs, ws, rfl, rfl, ea, eb, by rw [reps_len hv, reps_len hw]; exact hl, fun q hq => post_new hr2 q2 (reps_append hv hw) hq⟩
    · exact False.elim q2
  · exact False.elim q2
def catLO (fl : E (List D)) (g : E D) : E (List D) := fun env hp => (fl env hp).bind fun xs h1 => (g env h1).bind fun y h2 => match lstOf y h2 with
  | some ys => if xs.length + ys.length ≤ LIM then .ok (xs ++ ys) h2 else .err
  | none => .err
theorem ml_catLO (ha : ML X W a fl) (hb : ME X W b f) : ML X W (.BinOp a .Add b pos) (catLO fl f) := PEm (pe_op op_cat ha hb) fun σ H Q h => by
  obtain ⟨env, hp, rr, es, hh, q⟩ := h
  refine ⟨env, hp, rr, es, hh, Post.bind q fun xs hp1 r1 H1 v e1 hr1 l1 q1 => ?_⟩
  obtain ⟨a, vs, rfl, na, n0, ea, hv⟩ := l1
  refine ⟨env, hp1, r1, es.mono e1, hr1, Post.bind q1 fun y hp2 r2 H2 w e2 hr2 l2 q2 => ?_⟩
  split at q2
  · rename_i ys ex
    split at q2
    · rename_i hl
      obtain ⟨b, ws, n, rfl, _, _, _, eb, hw⟩ := lstOf_sq hr2 l2 ex
      exact ⟨a, b, vs, ws, rfl, rfl, (e2.keep a _ ea na).2, eb, by rw [reps_len hv, reps_len hw]; exact hl, fun q hq => post_new hr2 q2 (reps_append (Reps.mono e2 xs hv) hw) hq⟩
    · exact False.elim q2
  · exact False.elim q2
/-- [..] * n -/
def repL (fl : E (List D)) (g : E D) : E (List D) := fun env hp => (fl env hp).bind fun xs h1 => (g env h1).bind fun y h2 => match y with
  | .int k => if -(2 ^ 63) ≤ k ∧ k < 2 ^ 63 ∧ xs.length * k.toNat ≤ LIM then .ok (List.replicate k.toNat xs).flatten h2 else .err
  | _ => .err
theorem ml_rep (ha : ML X W a fl) (hb : ME X W b f) : ML X W (.BinOp a .Mult b pos) (repL fl f) := PEm (pe_op op_rep ha hb) fun σ H Q h => by
  obtain ⟨env, hp, rr, es, hh, q⟩ := h
  refine ⟨env, hp, rr, es, hh, Post.bind q fun xs hp1 r1 H1 v e1 hr1 l1 q1 => ?_⟩
  obtain ⟨a, vs, rfl, na, n0, ea, hv⟩ := l1
  refine ⟨env, hp1, r1, es.mono e1, hr1, Post.bind q1 fun y hp2 r2 H2 w e2 hr2 l2 q2 => ?_⟩
  split at q2
  · rename_i k
    obtain rfl := rep_int l2
    split at q2
    · rename_i hl
      refine ⟨a, k, vs, rfl, rfl, (e2.keep a _ ea na).2, hl.1, hl.2.1, by rw [reps_len hv]; exact hl.2.2, fun q hq => post_new hr2 q2 ?_ hq⟩
      have hv2 := Reps.mono e2 xs hv
      generalize k.toNat = n
      induction n with
      | zero => exact reps_nil
      | succ n ih => rw [List.replicate_succ, List.replicate_succ, List.flatten_cons, List.flatten_cons]; exact reps_append hv2 ih
    · exact False.elim q2
  · exact False.elim q2
/-! ### list(x) -/
def listP (ds : List D) (h : MH) : R (List D) := match ds with
  | [.str s] => if s.length ≤ LIM then .ok (s.map fun c => .str [c]) h else .err
  | [x] => match itemsM x h with
    | some ds => .ok ds h
    | none => .err
  | _ => .err
theorem call_list_txt (hc : X.calm = true) : CallR X (.type "list") (fun xs H Q => ∃ z : Str, xs = [.str z] ∧ z.length ≤ sizeLine ∧ ∀ l, H l = none → Q (.ref l) (upd H l (.lst (z.cps.toList.map fun c => V.str ⟨#[c]⟩)))) := by
  intro pins s σ H xs us Q I r h
  obtain ⟨z, rfl, hz, q⟩ := h
  obtain ⟨u, rfl, rx⟩ := vals1 r
  obtain ⟨t, rfl⟩ := rx
  refine call_list_str (I.ok.hd hc) z t (fun h' tk acc' c' kp e it => ?_) hz
  have hv : Vals (z.cps.toList.map fun c => V.str ⟨#[c]⟩) acc'.toList := by
    obtain ⟨h1, h2⟩ := it
    have key : ∀ (cs : List Nat) (us : List Value), us.length = cs.length → (∀ (j : Nat) (v : Value), us[j]? = some v → ∃ c u, cs[j]? = some c ∧ v = .str ⟨#[c]⟩ u) → Vals (cs.map fun c => V.str ⟨#[c]⟩) us := by
      intro cs
      induction cs with
      | nil =>
        intro us hl _
        have : us = [] := List.length_eq_zero_iff.mp hl
        subst this
        exact .nil
      | cons c cs ih =>
        intro us hl hj
        cases us with
        | nil => simp at hl
        | cons u us =>
          obtain ⟨c', t', e1, e2⟩ := hj 0 u rfl
          have e1' : c = c' := by simpa using e1
          subst e1'
          exact .cons ⟨t', e2⟩ (ih us (by simpa using hl) fun j v hv => by
            obtain ⟨c2, t2, e3, e4⟩ := hj (j + 1) v (by simpa using hv)
            exact ⟨c2, t2, by simpa using e3, e4⟩)
    refine key z.cps.toList acc'.toList (by simpa using h1) fun j v hj => ?_
    obtain ⟨c, u, e1, e2⟩ := h2 j v (by simpa using hj)
    exact ⟨c, u, by simpa using e1, e2⟩
  refine ⟨.ref s.heap.objs.size, _, I.laid (t' := tk) (o := .lst (z.cps.toList.map fun c => V.str ⟨#[c]⟩)) kp (Nat.le_refl _) ?_, rfl, q _ (I.hok.fresh (Nat.le_refl _))⟩
  exact ⟨by simpa [Str.length] using hz, acc'.toList, c', hv, by rw [Array.toArray_toList]; exact e⟩
def lCall (q : List D → MH → R (List D)) (g : E (List D)) : E (List D) := fun env hp => (g env hp).bind fun ds h => q ds h
theorem ml_list {g : E (List D)} (hc : X.calm = true) (hg : Gl X "list") (hm : X.mg "list" = none) (hv : bootBuiltins "list" = some (.type "list")) (ha : MA X W [e] g) (he : starEach [e] X.env = (false, eval e X.env) :: starEach [] X.env := by rfl) (hpl : (backTo pos (starEach [] X.env)).any (·.1) = false := by rfl) :
    ML X W (.Call (.Name "list" p) [e] [] pos) (lCall listP g) := PEm (pe_callTy (call_list_of.or (call_list_txt hc)) hg hm hv ha (by decide) (by decide) he hpl) fun σ H Q h => by
  obtain ⟨env, hp, rr, es, hh, q⟩ := h
  refine ⟨env, hp, rr, es, hh, Post.bind q fun ds hp1 r1 H1 v e1 hr1 l1 q1 => ?_⟩
  unfold listP at q1
  split at q1
  · rename_i s
    obtain ⟨v, rfl, h1⟩ := reps1 l1
    obtain rfl := rep_str h1
    split at q1
    · rename_i hl
      refine .inr ⟨_, rfl, by rw [str_len]; exact hl, fun q hq => post_new hr1 q1 ?_ hq⟩
      have key : ∀ cs : List Nat, Reps X.K X.mg r1 H1 (cs.map fun c => .str [c]) (cs.map fun c => V.str ⟨#[c]⟩) := fun cs => by
        induction cs with
        | nil => exact reps_nil
        | cons c cs ih => exact reps_cons of_str ih
      exact key s
    · exact False.elim q1
  · obtain ⟨v, rfl, h1⟩ := reps1 l1
    split at q1
    · rename_i xs ex
      obtain ⟨a, vs, rfl, h2, h3⟩ := items_sq hr1 h1 ex
      exact .inl ⟨a, vs, rfl, h2, fun q hq => post_new hr1 q1 h3 hq⟩
    · exact False.elim q1
  · exact False.elim q1
/-! ### x == [], x != [] -/
def rNil (K : PySem.W.Frag) (neg : Bool) : R2 := fun x y H Q => ∃ a b vs, x = .ref a ∧ y = .ref b ∧ SqL K H a vs ∧ SqL K H b [] ∧ Q (.bl (if neg then !vs.isEmpty else vs.isEmpty)) H
theorem op_eqNil (hu : X.A.units + 64 < cLine) : OpR X (compareOp .Eq) (rNil X.K false) := by
  intro pins s σ H x y v u Q I rx ry h
  obtain ⟨a, b, vs, rfl, rfl, ha, hb, q⟩ := h
  cases rx
  cases ry
  obtain ⟨its, r1, p1, _⟩ := I.list ha
  obtain ⟨its2, r2, p2, _⟩ := I.list hb
  cases r2
  cases r1 with
  | nil =>
    refine SeqAt.eq_listAt (e := fun _ => true) p1.isList p2.isList rfl (by omega) (fun j h1 _ => absurd h1 (by simp)) ?_
    exact ⟨.bl true, H, I, rfl, q⟩
  | cons r t => exact SeqAt.eq_list_lengthsAt p1.isList p2.isList (by simp) (by omega) ⟨.bl false, H, I, rfl, q⟩
theorem op_neNil (hu : X.A.units + 64 < cLine) : OpR X (compareOp .NotEq) (rNil X.K true) := by
  intro pins s σ H x y v u Q I rx ry h
  obtain ⟨a, b, vs, rfl, rfl, ha, hb, q⟩ := h
  cases rx
  cases ry
  obtain ⟨its, r1, p1, _⟩ := I.list ha
  obtain ⟨its2, r2, p2, _⟩ := I.list hb
  cases r2
  cases r1 with
  | nil =>
    refine SeqAt.RcNeAt.lists (e := fun _ => true) p1.isList p2.isList rfl (by omega) (fun j h1 _ => absurd h1 (by simp)) _ _ _ _ ?_
    exact ⟨.bl false, H, I, rfl, q⟩
  | cons r t => exact SeqAt.RcNeAt.lists_lengths p1.isList p2.isList (by simp) (by omega) _ _ _ _ ⟨.bl true, H, I, rfl, q⟩
def listItems (x : D) (h : MH) : Option (List D) := match x with
  | .rol ds => some ds
  | .obj n => match h[n]? with
    | some (.lst ds) => some ds
    | _ => none
  | _ => none
def vNil (neg : Bool) (f : E D) : E D := fun env hp => (f env hp).bind fun x h => match listItems x h with
  | some ds => .ok (.bl (if neg then !ds.isEmpty else ds.isEmpty)) h
  | none => .err
def lNil (neg : Bool) (fl : E (List D)) : E D := fun env hp => (fl env hp).bind fun ds h => .ok (.bl (if neg then !ds.isEmpty else ds.isEmpty)) h
theorem empty_of {rr : List Addr} {H : Hp} {ds : List D} {vs : List V} (h : Reps X.K X.mg rr H ds vs) : vs.isEmpty = ds.isEmpty := by
  have := reps_len h
  cases ds <;> cases vs <;> simp_all
theorem nil_run {neg : Bool} {σ : L2.St} {H : Hp} {Q : VK} (h : tR X.w X.K X.mg W (LV X.K X.mg) (vNil neg f) σ H Q) : tOp (rNil X.K neg) (tR X.w X.K X.mg W (LV X.K X.mg) f) (tLst tNil) σ H Q := by
  obtain ⟨env, hp, rr, es, hh, q⟩ := h
  refine ⟨env, hp, rr, es, hh, Post.bind q fun x hp1 r1 H1 v e1 hr1 l1 q1 => ?_⟩
  refine ⟨Nat.zero_le _, fun b hb => ?_⟩
  split at q1
  · rename_i ds ed
    have hx : ∃ a vs, v = .ref a ∧ SqL X.K H1 a vs ∧ Reps X.K X.mg r1 H1 ds vs := by
      cases x <;> try cases ed
      · rename_i n
        obtain ⟨a, rfl, h1⟩ := rep_obj l1
        simp only [listItems] at ed
        split at ed
        · rename_i xs e2
          obtain ⟨a', g1, vs, ea, hv⟩ := hr1.obj _ _ e2
          rw [h1] at g1; cases g1
          cases ed
          exact ⟨a, vs, rfl, SqL.of ea, hv⟩
        · cases ed
      · unfold LV Rep at l1
        obtain ⟨a, vs, rfl, h1, h2⟩ := l1
        exact ⟨a, vs, rfl, h1.sq, h2⟩
    obtain ⟨a, vs, rfl, h1, h2⟩ := hx
    refine ⟨a, b, vs, rfl, rfl, sql_upd_new hb h1, SqL.of upd_same, ?_⟩
    rw [empty_of h2]
    exact q1 r1 _ _ (ext_new hb) (hr_new hr1 hb) of_bl
  · exact False.elim q1
theorem lnil_run {neg : Bool} {σ : L2.St} {H : Hp} {Q : VK} (h : tR X.w X.K X.mg W (LV X.K X.mg) (lNil neg fl) σ H Q) : tOp (rNil X.K neg) (tR X.w X.K X.mg W (LL X.K X.mg) fl) (tLst tNil) σ H Q := by
  obtain ⟨env, hp, rr, es, hh, q⟩ := h
  refine ⟨env, hp, rr, es, hh, Post.bind q fun ds hp1 r1 H1 v e1 hr1 l1 q1 => ?_⟩
  refine ⟨Nat.zero_le _, fun b hb => ?_⟩
  obtain ⟨a, vs, rfl, na, n0, ea, hv⟩ := l1
  refine ⟨a, b, vs, rfl, rfl, sql_upd_new hb (SqL.of ea), SqL.of upd_same, ?_⟩
  rw [empty_of hv]
  exact q1 r1 _ _ (ext_new hb) (hr_new hr1 hb) of_bl
variable {p2 : Pos}
theorem me_eqNil (hu : X.A.units + 64 < cLine) (ha : ME X W a f) : ME X W (.Compare a [.Eq] [.List [] p2] pos) (vNil false f) := PEm (pe_cmpR (op_eqNil hu) ha (pe_lst pa_nil) (nomark _)) fun σ H Q h => nil_run h
theorem me_neNil (hu : X.A.units + 64 < cLine) (ha : ME X W a f) : ME X W (.Compare a [.NotEq] [.List [] p2] pos) (vNil true f) := PEm (pe_cmpR (op_neNil hu) ha (pe_lst pa_nil) (nomark _)) fun σ H Q h => nil_run h
theorem me_eqNilL (hu : X.A.units + 64 < cLine) (ha : ML X W a fl) : ME X W (.Compare a [.Eq] [.List [] p2] pos) (lNil false fl) := PEm (pe_cmpR (op_eqNil hu) ha (pe_lst pa_nil) (nomark _)) fun σ H Q h => lnil_run h
theorem me_neNilL (hu : X.A.units + 64 < cLine) (ha : ML X W a fl) : ME X W (.Compare a [.NotEq] [.List [] p2] pos) (lNil true fl) := PEm (pe_cmpR (op_neNil hu) ha (pe_lst pa_nil) (nomark _)) fun σ H Q h => lnil_run h
theorem mt_eqNil (hu : X.A.units + 64 < cLine) (ha : ME X W a f) : MT X W (.Compare a [.Eq] [.List [] p2] pos) (vTest (vNil false f)) := PTm (pt_cmpR (op_eqNil hu) ha (pe_lst pa_nil) (nomark _)) fun σ H Q h => nil_run (test_run h)
theorem mt_neNil (hu : X.A.units + 64 < cLine) (ha : ME X W a f) : MT X W (.Compare a [.NotEq] [.List [] p2] pos) (vTest (vNil true f)) := PTm (pt_cmpR (op_neNil hu) ha (pe_lst pa_nil) (nomark _)) fun σ H Q h => nil_run (test_run h)
theorem mt_eqNilL (hu : X.A.units + 64 < cLine) (ha : ML X W a fl) : MT X W (.Compare a [.Eq] [.List [] p2] pos) (vTest (lNil false fl)) := PTm (pt_cmpR (op_eqNil hu) ha (pe_lst pa_nil) (nomark _)) fun σ H Q h => lnil_run (test_run h)
theorem mt_neNilL (hu : X.A.units + 64 < cLine) (ha : ML X W a fl) : MT X W (.Compare a [.NotEq] [.List [] p2] pos) (vTest (lNil true fl)) := PTm (pt_cmpR (op_neNil hu) ha (pe_lst pa_nil) (nomark _)) fun σ H Q h => lnil_run (test_run h)
end
end FT
end
section
set_option maxRecDepth 100000
namespace FT
open PySem L2
set_option autoImplicit false
section
variable {X : Cx} {W : WX} {e a b o : Expr} {f k fo : E D} {fl gl g : E (List D)} {pos p apos cpos : Pos}
/-! ### methods of lists -/
def pushM (x y : D) (h : MH) : R D := match x with
  | .obj n => match h[n]? with
    | some (.lst xs) => if xs.length < LIM then .ok .non (h.set n (.lst (xs ++ [y]))) else .err
    | _ => .err
  | _ => .err
def isLst (x : D) (h : MH) (k : R D) : R D := match lstOf x h with
  | some _ => k
  | none => .err
def vAppend (fo f : E D) : E D := fun env hp => (fo env hp).bind fun x h1 => isLst x h1 ((f env h1).bind fun y h2 => pushM x y h2)
theorem me_append (ho : ME X W o fo) (ha : ME X W e f)
    (hbase : attributeBase o "append" X.env (eval o X.env) = eval o X.env := by rfl)
    (hfew : ((backTo cpos (starEach [e] X.env)).all (fun x => !x.1) && (backToKw cpos (keywordEach [] X.env)).all (fun x => x.1.isSome)
      && decide (([e] : List Expr).length + ([] : List Keyword).length + (if ([] : List Keyword).isEmpty then 0 else 1) < 30)) = true := by rfl)
    (hline : (apos.endLine == cpos.line) = true := by rfl) (hs : starEach [e] X.env = (false, eval e X.env) :: starEach [] X.env := by rfl) (hplain : (backTo cpos (starEach [] X.env)).any (·.1) = false := by rfl) :
    ME X W (.Call (.Attribute o "append" apos) [e] [] cpos) (vAppend fo f) :=
  PEm (pe_bm PySem.F.plainAttrs_list PySem.F.slot_list_append PySem.F.type_list_append mt_append ho (pa_cons ha pa_nil hs) hbase hfew hline hs hplain) fun σ H Q h => by
    obtain ⟨env, hp, rr, es, hh, q⟩ := h
    refine ⟨env, hp, rr, es, hh, Post.bind q fun x hp1 r1 H1 v e1 hr1 l1 q1 => ?_⟩
    unfold isLst at q1
    split at q1
    · rename_i ds ed
      obtain ⟨q0, vs, n, rfl, rfl, g0, hn, ea, hv⟩ := lstOf_sq hr1 l1 ed
      refine ⟨.inl ⟨rfl, vs, SqL.of ea⟩, env, hp1, r1, es.mono e1, hr1, Post.bind q1 fun y hp2 r2 H2 w e2 hr2 l2 q2 => ?_⟩
      simp only [pushM] at q2
      split at q2
      · rename_i xs ex
        split at q2
        · rename_i hl
          obtain ⟨a', g1, ws, eb, hw⟩ := hr2.obj _ _ ex
          have g2 := e2.at g0
          rw [g2] at g1; cases g1
          obtain ⟨e3, hr3⟩ := hr_set hr2 g2 ex (reps_append hw (reps_cons l2 reps_nil))
          exact ⟨q0, ws, w, rfl, rfl, eb, by rw [reps_len hw]; exact hl, q2 r2 _ _ e3 hr3 of_non⟩
        · exact False.elim q2
      · exact False.elim q2
    · exact False.elim q1
/-- o.extend([..]) -/
def extM (x : D) (ys : List D) (h : MH) : R D := match x with
  | .obj n => match h[n]? with
    | some (.lst xs) => if xs.length + ys.length ≤ LIM then .ok .non (h.set n (.lst (xs ++ ys))) else .err
    | _ => .err
  | _ => .err
def vExtend (fo : E D) (fl : E (List D)) : E D := fun env hp => (fo env hp).bind fun x h1 => isLst x h1 ((fl env h1).bind fun ys h2 => extM x ys h2)
theorem me_extend (ho : ME X W o fo) (ha : ML X W e fl)
    (hbase : attributeBase o "extend" X.env (eval o X.env) = eval o X.env := by rfl)
    (hfew : ((backTo cpos (starEach [e] X.env)).all (fun x => !x.1) && (backToKw cpos (keywordEach [] X.env)).all (fun x => x.1.isSome)
      && decide (([e] : List Expr).length + ([] : List Keyword).length + (if ([] : List Keyword).isEmpty then 0 else 1) < 30)) = true := by rfl)
    (hline : (apos.endLine == cpos.line) = true := by rfl) (hs : starEach [e] X.env = (false, eval e X.env) :: starEach [] X.env := by rfl) (hplain : (backTo cpos (starEach [] X.env)).any (·.1) = false := by rfl) :
    ME X W (.Call (.Attribute o "extend" apos) [e] [] cpos) (vExtend fo fl) :=
  PEm (pe_bm PySem.F.plainAttrs_list PySem.F.slot_list_extend PySem.F.type_list_extend mt_extend ho (pa_cons ha pa_nil hs) hbase hfew hline hs hplain) fun σ H Q h => by
    obtain ⟨env, hp, rr, es, hh, q⟩ := h
    refine ⟨env, hp, rr, es, hh, Post.bind q fun x hp1 r1 H1 v e1 hr1 l1 q1 => ?_⟩
    unfold isLst at q1
    split at q1
    · rename_i ds ed
      obtain ⟨q0, vs, n, rfl, rfl, g0, hn, ea, hv⟩ := lstOf_sq hr1 l1 ed
      refine ⟨.inl ⟨rfl, vs, SqL.of ea⟩, env, hp1, r1, es.mono e1, hr1, Post.bind q1 fun ys hp2 r2 H2 w e2 hr2 l2 q2 => ?_⟩
      obtain ⟨b, us, rfl, nb, n0, eb2, hu⟩ := l2
      simp only [extM] at q2
      split at q2
      · rename_i xs ex
        split at q2
        · rename_i hl
          obtain ⟨a', g1, ws, eb, hw⟩ := hr2.obj _ _ ex
          have g2 := e2.at g0
          rw [g2] at g1; cases g1
          obtain ⟨e3, hr3⟩ := hr_set hr2 g2 ex (reps_append hw hu)
          exact ⟨q0, b, ws, us, rfl, rfl, eb, eb2, by rw [reps_len hw, reps_len hu]; exact hl, q2 r2 _ _ e3 hr3 of_non⟩
        · exact False.elim q2
      · exact False.elim q2
    · exact False.elim q1
/-- o.pop() -/
def popM (x : D) (h : MH) : R D := match x with
  | .obj n => match h[n]? with
    | some (.lst xs) => (match xs[xs.length - 1]? with
      | some y => .ok y (h.set n (.lst xs.dropLast))
      | none => .err)
    | _ => .err
  | _ => .err
def vPop (fo : E D) : E D := fun env hp => (fo env hp).bind fun x h1 => popM x h1
theorem reps_dropLast {K : PySem.W.Frag} {mg : Str → Option Value} {r : List Addr} {H : Hp} {ds : List D} {vs : List V} (h : Reps K mg r H ds vs) : Reps K mg r H ds.dropLast vs.dropLast := by
  rw [List.dropLast_eq_take, List.dropLast_eq_take, reps_len h]
  exact reps_take _ h
theorem me_pop (ho : ME X W o fo) (hbase : attributeBase o "pop" X.env (eval o X.env) = eval o X.env := by rfl) (hline : (apos.endLine == cpos.line) = true := by rfl) :
    ME X W (.Call (.Attribute o "pop" apos) [] [] cpos) (vPop fo) :=
  PEm (pe_bm0 PySem.F.plainAttrs_list PySem.F.slot_list_pop PySem.F.type_list_pop mt_pop ho hbase hline) fun σ H Q h => by
    obtain ⟨env, hp, rr, es, hh, q⟩ := h
    refine ⟨env, hp, rr, es, hh, Post.bind q fun x hp1 r1 H1 v e1 hr1 l1 q1 => ?_⟩
    cases x <;> try exact False.elim q1
    rename_i n
    obtain ⟨a, rfl, h1⟩ := rep_obj l1
    simp only [popM] at q1
    split at q1
    · rename_i xs ex
      split at q1
      · rename_i y ey
        obtain ⟨a', g1, ws, eb, hw⟩ := hr1.obj _ _ ex
        rw [h1] at g1; cases g1
        obtain ⟨w, ew, rw'⟩ := reps_get hw ey
        obtain ⟨e3, hr3⟩ := hr_set hr1 h1 ex (reps_dropLast hw)
        exact ⟨.inl ⟨rfl, ws, SqL.of eb⟩, a, ws, w, rfl, rfl, eb, by rw [reps_len hw]; exact ew, q1 r1 _ _ e3 hr3 (Rep.mono e3 y rw')⟩
      · exact False.elim q1
    · exact False.elim q1
/-! ### a, b = e -/
def sUnp (t : Tg) (f : E D) : S := fun env hp => (f env hp).toS env fun d h => match tgM t d env with
  | some env' => .next env' h
  | none => .err
theorem ms_unp {tg : Expr} {t : Tg} (he : ME X W e f) (hg : MG X tg t) (hs : swapsWithSole [tg] e pos.line X.env = pure false := by rfl) (hw : swappedStores [tg] e X.env = pure none := by rfl)
    (h1 : (assignEach [tg] X.env).map (·.2) = [assign tg X.env] := by rfl) : MS X W (.Assign [tg] e pos) (sUnp t f) := PSm (ps_asg he hg hs hw h1) fun Dn σ H h => by
  obtain ⟨env, hp, rr, es, hh, q⟩ := h
  refine ⟨env, hp, rr, es, hh, PostS.bind es q fun x hp1 r1 H1 v e1 hr1 l1 q1 => ?_⟩
  split at q1
  · rename_i env' ez
    exact tg_run ez (es.mono e1) l1 fun σ' es' _ => q1 r1 H1 σ' Ext.refl hr1 es'
  · exact False.elim q1
/-! ### a, b = x, y -/
def sPar (i j : Nat) (g : E (List D)) : S := fun env hp => (g env hp).toS env fun ds h => match ds with
  | [x, y] => .next ((env.set i (some x)).set j (some y)) h
  | _ => .err
theorem ms_par {i j : Nat} {x y : Str} {px py pt : Pos} {kt k2 pt2} (hc : X.calm = true) (hN : X.N.Nodup) (hi : X.N[i]? = some x) (hj : X.N[j]? = some y) (hij : i ≠ j)
    (hx : X.env.scope.names.lookup x = some .local) (hy : X.env.scope.names.lookup y = some .local) (ha : MA X W [a, b] g)
    (hw : swappedStores [.Tuple [.Name x px, .Name y py] kt pt] (.Tuple [a, b] k2 pt2) X.env = pure (some [x, y]))
    (hs : swapsWithSole [.Tuple [.Name x px, .Name y py] kt pt] (.Tuple [a, b] k2 pt2) pos.line X.env = pure false := by rfl) :
    MS X W (.Assign [.Tuple [.Name x px, .Name y py] kt pt] (.Tuple [a, b] k2 pt2) pos) (sPar i j g) := PSm (ps_par hc hN hi hj hij hx hy ha hw hs) fun Dn σ H h => by
  obtain ⟨env, hp, rr, es, hh, q⟩ := h
  refine ⟨env, hp, rr, es, hh, PostS.bind es q fun ds hp1 r1 H1 v e1 hr1 l1 q1 => ?_⟩
  split at q1
  · obtain ⟨v, w, rfl, h1, h2⟩ := reps2 l1
    exact ⟨v, w, rfl, q1 r1 H1 _ Ext.refl hr1 (((es.mono e1).set i h1).set j h2)⟩
  · exact False.elim q1
end
end FT
end
section
set_option maxRecDepth 100000
set_option maxHeartbeats 4000000
/-! sets of texts: made of a list, walked in whatever order, sorted -/
namespace FTS
open PySem PySem.Spec PyProof.Rows L2
def txtOf (e : Int × Value) : Str := match e.2 with
  | .str x _ => x
  | _ => Str.empty
def GoodT (w : World) (e : Int × Value) : Prop := ∃ x tk, e.2 = Value.str x tk ∧ e.1 = hashStr w x
/-- the set of the texts zs at a -/
structure TSet (w : World) (h : Heap) (a : Addr) (zs : List Str) : Prop where
  ex : ∃ (o : Obj) (es : Array (Int × Value)) (ep : Nat) (t : SetTable), h.get? a = some o ∧ o.ExactSet ∧ o.data = .set es ep t ∧ (∀ e ∈ es.toList, GoodT w e) ∧ es.toList.map txtOf = zs ∧ zs.Nodup ∧ es.size < scanBound ∧
    t.fits es.size = true ∧ Ris t.place.toList ∧ (w.params.followText "set-order" = true ∨ t.led = true)
section
variable {P : Program} {w : World} {A : Around} {E : Value → Shared → Prop} {s : Shared} {a : Addr} {zs : List Str}
theorem TSet.at {h h' : Heap} (T : TSet w h a zs) (k : ∀ o, h.get? a = some o → h'.get? a = some o) : TSet w h' a zs := by
  obtain ⟨o, es, ep, t, ho, r⟩ := T.ex
  exact ⟨o, es, ep, t, k o ho, r⟩
theorem good_el {l : List (Int × Value)} (g : ∀ e ∈ l, GoodT w e) : ElemsOf (PySem.strKind P w) l := fun e he => by
  obtain ⟨x, tk, h1, h2⟩ := g e he
  exact ⟨⟨x, by rw [h1]; exact strKind_is P w x tk, h2⟩, by rw [h1] <;> rfl⟩
theorem is_txt {e : Int × Value} (g : GoodT w e) (x : Str) : (PySem.strKind P w).is x e.2 = true ↔ txtOf e = x := by
  obtain ⟨y, tk, h1, _⟩ := g
  unfold txtOf
  rw [h1]
  constructor
  · intro h
    obtain ⟨t', e'⟩ := Value.isStrOf_shape (x := x) (v := Value.str y tk) h
    injection e' with e1 _
  · rintro rfl
    exact strKind_is P w _ tk
theorem mem_txt {l : List (Int × Value)} (g : ∀ e ∈ l, GoodT w e) (x : Str) : x ∈ l.map txtOf ↔ ∃ e ∈ l, (PySem.strKind P w).is x e.2 = true := by
  rw [List.mem_map]
  constructor
  · rintro ⟨e, he, q⟩; exact ⟨e, he, (is_txt (g e he) x).2 q⟩
  · rintro ⟨e, he, q⟩; exact ⟨e, he, (is_txt (g e he) x).1 q⟩
theorem tset_tail {g : Bool → Sem Unit} (hg : ∀ (b : Bool) (s₁ : Shared) (Q' : Unit → Shared → Prop), Q' () s₁ → wpAny (model P w) A (g b) Q' E s₁)
    {o : Obj} {es : Array (Int × Value)} {ep : Nat} {t : SetTable} (ho : s.heap.get? a = some o) (hex : o.ExactSet) (hd : o.data = .set es ep t)
    {es1 : Array (Int × Value)} {t2 : SetTable} (g1 : ∀ e ∈ es1.toList, GoodT w e) (nd1 : (es1.toList.map txtOf).Nodup)
    (hb1 : es1.size < scanBound) (hf2 : t2.fits es1.size = true) (hr : Ris t2.place.toList) (hl : w.params.followText "set-order" = true ∨ t2.led = true) {wasDummy : Bool} {R : Option Bool → Shared → Prop}
    (hR : ∀ h' zs', Heap.SameBut a s.heap h' → TSet w h' a zs' → zs'.Perm (es1.toList.map txtOf) → R (some true) { s with heap := h' }) :
    wpAny (model P w) A (do
        storeSet a es1 t2
        if (!wasDummy && t2.tooFull) = true then do
            g (relayAll t2 es1 (SetTable.grown es1.size)).2.2
            storeSet a (relayAll t2 es1 (SetTable.grown es1.size)).1 (relayAll t2 es1 (SetTable.grown es1.size)).2.1
            pure (some true)
          else pure (some true)) R E s := by
  refine wpAny_bind (wpAny_storeSet_of ho hd ?_ (fits_of_scanBound hb1))
  have w1 := store_at (es' := es1) (t' := t2) ho hd
  have w2 := Heap.SameBut.update s.heap a (Obj.putSet es1 t2)
  split
  · have pm := relayAll_perm t2 es1 (SetTable.grown es1.size)
    have ft := relayAll_fits t2 es1 (SetTable.grown es1.size)
    have ri := relayAll_ris t2 es1 (SetTable.grown es1.size)
    have le := relayAll_led t2 es1 (SetTable.grown es1.size)
    generalize relayAll t2 es1 (SetTable.grown es1.size) = zz at pm ft ri le ⊢
    obtain ⟨es2, t3, gave⟩ := zz
    dsimp only at pm ft ri le ⊢
    have sz : es2.size = es1.size := by rw [← Array.length_toList, pm.length_eq, Array.length_toList]
    have b2 : es2.size < scanBound := by rw [sz]; exact hb1
    refine wpAny_bind (hg _ _ _ ?_)
    refine wpAny_bind (wpAny_storeSet_of w1 rfl ?_ (fits_of_scanBound b2))
    have w3 := store_at (es' := es2) (t' := t3) w1 rfl
    refine wpAny_pure (hR _ (es2.toList.map txtOf) (w2.trans (Heap.SameBut.update _ a _)) ⟨_, es2, _, t3, w3, hex, rfl, fun e he => g1 e (pm.mem_iff.mp he), rfl, (pm.map txtOf).nodup_iff.mpr nd1, b2, ft, ri, ?_⟩ (pm.map txtOf))
    exact hl.imp id fun z => by rw [le]; exact z
  · exact wpAny_pure (hR _ _ w2 ⟨_, es1, _, t2, w1, hex, rfl, g1, rfl, nd1, hb1, hf2, hr, hl⟩ (List.Perm.refl _))
/-- one more text -/
theorem tset_add {x : Str} {tk : Tok} {Q : Bool → Shared → Prop} (T : TSet w s.heap a zs) (room : zs.length + 1 < scanBound)
    (hQ : ∀ h' zs' b, Heap.SameBut a s.heap h' → TSet w h' a zs' → (∀ y, y ∈ zs' ↔ y ∈ zs ∨ y = x) → zs'.length ≤ zs.length + 1 → Q b { s with heap := h' }) :
    wpAny (model P w) A (setAddHashed a (.str x tk) ((PySem.strKind P w).hash x)) Q E s := by
  obtain ⟨o, es, ep, t, ho, hex, hd, g, hz, nd, hb, hf, hr, hl⟩ := T.ex
  have k1 : (PySem.strKind P w).is x (.str x tk) = true := strKind_is P w x tk
  have k2 : (Value.str x tk).scannable = true := rfl
  have k3 : ElemsOf (PySem.strKind P w) es.toList := good_el g
  unfold setAddHashed setAddHashedIn
  refine wpAny_holding (wpAny_bind (wpAny_setState_of ho hd hf ?_))
  dsimp only
  rw [byScan_of k2 hb k3]
  simp only [↓reduceIte]
  unfold setAddByScan
  refine wpAny_bind ?_
  refine wpAny_bind (wpAny_rule ?_)
  refine wpAny_bind (wpAny_setScan_of k1 ho hd hf k3 ?_)
  cases hfi : List.findIdx? (fun e => (PySem.strKind P w).is x e.2) es.toList with
  | some j =>
    dsimp only
    obtain ⟨hj, pj, _⟩ := List.findIdx?_eq_some_iff_getElem.mp hfi
    have hin : x ∈ zs := by
      rw [← hz]
      exact (mem_txt (P := P) (w := w) g x).2 ⟨es.toList[j], List.getElem_mem hj, pj⟩
    exact wpAny_pure (wpAny_pure (hQ s.heap zs _ (Heap.SameBut.refl a s.heap) T (fun y => ⟨Or.inl, fun z => z.elim id fun e => e ▸ hin⟩) (Nat.le_succ _)))
  | none =>
    dsimp only
    have hno : x ∉ zs := fun z => by
      rw [← hz] at z
      obtain ⟨e, he, q⟩ := (mem_txt (P := P) (w := w) g x).1 z
      have c := List.findIdx?_eq_none_iff.mp hfi e he
      rw [q] at c
      cases c
    have hgw : ∀ (b : Bool) {s₁ : Shared} {Q' : Unit → Shared → Prop}, Q' () s₁ → wpAny (model P w) A (match b with | true => rule "set.scan.the-table-gave-way" | false => pure ()) Q' E s₁ := fun b s₁ Q' q => by
      cases b
      · exact wpAny_pure q
      · exact wpAny_rule q
    have pm := layNew_perm t es ((PySem.strKind P w).hash x) (.str x tk)
    have ft := layNew_fits t es ((PySem.strKind P w).hash x) (.str x tk)
    have ri := layNew_ris t es ((PySem.strKind P w).hash x) (.str x tk) hr
    have le := layNew_led t es ((PySem.strKind P w).hash x) (.str x tk)
    generalize layNew t es ((PySem.strKind P w).hash x) (.str x tk) = zz at pm ft ri le ⊢
    obtain ⟨es1, t1, wasDummy, gave⟩ := zz
    dsimp only at pm ft ri le ⊢
    rw [Array.toList_push] at pm
    have pc : es1.toList.Perm (((PySem.strKind P w).hash x, Value.str x tk) :: es.toList) := pm.trans (List.perm_append_singleton _ _)
    have pk : (es1.toList.map txtOf).Perm (x :: zs) := by
      rw [← hz]
      exact pc.map txtOf
    have g1 : ∀ e ∈ es1.toList, GoodT w e := fun e he => by
      rcases List.mem_cons.mp (pc.mem_iff.mp he) with z | z
      · rw [z]; exact ⟨x, tk, rfl, rfl⟩
      · exact g e z
    have nd1 : (es1.toList.map txtOf).Nodup := pk.nodup_iff.mpr (List.nodup_cons.mpr ⟨hno, nd⟩)
    have hzl : zs.length = es.size := by rw [← hz, List.length_map, Array.length_toList]
    have sz : es1.size = zs.length + 1 := by rw [← Array.length_toList, pc.length_eq, List.length_cons, Array.length_toList, hzl]
    have b1 : es1.size < scanBound := by rw [sz]; exact room
    have led1 : w.params.followText "set-order" = true ∨ t1.led = true := hl.imp id fun z => by rw [le]; exact z
    have fin : ∀ h' zs', Heap.SameBut a s.heap h' → TSet w h' a zs' → zs'.Perm (es1.toList.map txtOf) → Q true { s with heap := h' } := fun h' zs' sb T' pz =>
      hQ h' zs' _ sb T' (fun y => by rw [(pz.trans pk).mem_iff, List.mem_cons]; exact Or.comm) (by rw [(pz.trans pk).length_eq]; exact Nat.le_refl _)
    refine wpAny_bind (hgw _ ?_)
    split
    · refine wpAny_bind ?_
      rw [hashByValue_scannable 8 k2]
      refine wpAny_pure ?_
      refine tset_tail ?_ ho hex hd g1 nd1 b1 ?_ ?_ ?_ ?_
      · intro b s₁ Q' q; cases b <;> first | exact wpAny_pure q | exact wpAny_rule q
      · first | (split <;> first | exact ft | exact SetTable.fits_plain_off ft) | exact ft
      · first | (split <;> exact ri) | exact ri
      · first | (split <;> exact led1) | exact led1
      · intro h' zs' sb r pz; dsimp only; exact wpAny_pure (fin h' zs' sb r pz)
    · refine wpAny_bind (wpAny_pure ?_)
      simp only [↓reduceIte]
      refine tset_tail ?_ ho hex hd g1 nd1 b1 ft ri led1 ?_
      · intro b s₁ Q' q; cases b <;> first | exact wpAny_pure q | exact wpAny_rule q
      · intro h' zs' sb r pz; dsimp only; exact wpAny_pure (fin h' zs' sb r pz)
end
section
variable {prog : Program} {w : World} {A : Around} {R : Result → Shared → Prop} {I : Addr} {fp wr : List Addr} {G : Array GenState → Array GenState → Prop} {n : Nat} {P : Nat → Value → Prop} {St : Nat → Shared → Prop}
theorem tset_loop (W : WalksS prog w A.in1 I fp wr G n P St) (S : Addr) (hSf : S ∉ fp) (xs : List Str) (hsz : xs.length = n) (hfew : n < scanBound)
    (hval : ∀ i v, P i v → ∃ t x, xs[i]? = some x ∧ v = .str x t) :
    ∀ (k i : Nat) (s : Shared) (zs : List Str), n - i = k → i ≤ n → St i s → TSet w s.heap S zs → (∀ y, y ∈ zs ↔ y ∈ xs.take i) → zs.length ≤ i →
      (∀ s' zs', Moved (S :: wr) G s s' → TSet w s'.heap S zs' → (∀ y, y ∈ zs' ↔ y ∈ xs) → R (.ok (.ret .none)) s') →
      codeAny (model prog w) A (.builtin "set.update.loop" ⟨[.ref S, .ref I], []⟩) R s := by
  have nSw : S ∉ wr := fun h => hSf (W.sub _ h)
  have sub1 : ∀ b ∈ wr, b ∈ S :: wr := fun b hb => List.mem_cons_of_mem _ hb
  intro k
  induction k with
  | zero =>
    intro i s zs hk hi hst hS hm hl hR
    have hin : i = n := by omega
    subst hin
    refine codeAny_builtin F.entry_set_update_loop ?_
    rw [Around.under_plainId F.plain_set_update_loop _]
    show wpAny _ A.in1 (pyNext (.ref I) >>= _) _ _ s
    refine wpAny_bind (W.done s _ _ hst fun s' mv => ?_)
    show wpAny _ A.in1 (ret Value.none) _ _ s'
    refine wpAny_pure (hR s' zs (mv.mono sub1) (hS.at fun o e => mv.heap S _ nSw e) fun y => ?_)
    rw [hm y, ← hsz, List.take_length]
  | succ k ih =>
    intro i s zs hk hi hst hS hm hl hR
    have hlt : i < n := by omega
    refine codeAny_builtin F.entry_set_update_loop ?_
    rw [Around.under_plainId F.plain_set_update_loop _]
    show wpAny _ A.in1 (pyNext (.ref I) >>= _) _ _ s
    refine wpAny_bind (W.item i s _ _ hlt hst fun v s' hP hst' mv => ?_)
    obtain ⟨t, x, hx, rfl⟩ := hval i v hP
    have hS' : TSet w s'.heap S zs := hS.at fun o e => mv.heap S _ nSw e
    show wpAny _ A.in1 (holding [Value.str x t] (setAdd S (.str x t)) >>= _) _ _ s'
    refine wpAny_bind (wpAny_holding ?_)
    unfold setAdd
    refine wpAny_holding ?_
    refine wpAny_bind ((PySem.strKind prog w).pyHash (k := x) (strKind_is _ _ _ _) ?_)
    refine tset_add (s := { s' with toks := s'.toks + 1 }) hS' (by omega) fun h' zs' b sb T' hm' hl' => ?_
    have hm2 : ∀ y, y ∈ zs' ↔ y ∈ xs.take (i + 1) := fun y => by
      rw [hm' y, hm y, List.take_add_one, hx]
      simp
    refine wpAny_pure ⟨plainId_quiet F.plain_set_update_loop _, ih (i + 1) _ zs' (by omega) hlt (W.frame _ s' _ _ hst' (Nat.le_succ _) fun c hc o e => ?_) T' hm2 (by omega) fun s'' zs'' mv'' T'' hm'' => ?_⟩
    · rw [sb.2 c (fun h : c = S => hSf (by rw [← h]; exact hc))]; exact e
    · refine hR s'' zs'' (Moved.trans W.gtrans ((mv.mono sub1).then_heap (Nat.le_succ _) fun c o hc e => ?_) mv'') T'' hm''
      rw [sb.2 c (fun h : c = S => hc (by rw [h]; exact List.mem_cons_self))]; exact e
end
end FTS
end
section
set_option maxRecDepth 100000
set_option maxHeartbeats 4000000
namespace FTS
open PySem PySem.Spec PyProof.Rows L2
abbrev newS (w : World) : Obj := { cls := .type "set", dict := none, data := .set #[] 0 (.fresh 0 0 (!w.params.followText "set-order")) }
theorem tset_fresh {w : World} {h : Heap} {a : Addr} (ho : h.get? a = some (newS w)) : TSet w h a [] :=
  ⟨_, #[], 0, _, ho, ⟨rfl, rfl, rfl⟩, rfl, (fun e he => by simp at he), rfl, List.nodup_nil, (by decide), (by rfl), List.Pairwise.nil, by
    show _ ∨ (!w.params.followText "set-order") = true
    cases w.params.followText "set-order"
    · exact .inr rfl
    · exact .inl rfl⟩
section
variable {P : Program} {w : World} {A : Around} {E : Value → Shared → Prop} {s : Shared}
/-- set(xs), xs a list of texts -/
theorem call_set_texts {l : Addr} {items : Array Value} {xs : List Str} {Q : Value → Shared → Prop} (hh : A.handled = none) (hl : s.heap.IsList l items) (hit : StrsAre items.toList xs) (hfew : xs.length < scanBound)
    (h : ∀ (h' : Heap) (tk : Nat) (zs : List Str), TSet w h' s.heap.objs.size zs → (∀ y, y ∈ zs ↔ y ∈ xs) → (∀ b o, s.heap.get? b = some o → h'.get? b = some o) → Q (.ref s.heap.objs.size) { s with heap := h', toks := tk }) :
    wpAny (model P w) A (call (.type "set") [.ref l]) Q E s := by
  have hisz : xs.length = items.size := by rw [← StrsAre.len_eq hit, Array.length_toList]
  have hval : ∀ (i : Nat) (v : Value), items[i]? = some v → ∃ t x, xs[i]? = some x ∧ v = .str x t := fun i v hv => by
    have hv' : items.toList[i]? = some v := by rw [Array.getElem?_toList]; exact hv
    obtain ⟨t, e⟩ := SS.strs_at hit i v hv'
    have hi : i < xs.length := by
      rw [hisz]
      exact (Array.getElem?_eq_some_iff.mp hv).1
    exact ⟨t, xs[i], List.getElem?_eq_getElem hi, by rw [e, List.getD_eq_getElem?_getD, List.getElem?_eq_getElem hi]; rfl⟩
  obtain ⟨c, tl, hmro⟩ := F.called_set.mro
  have m1 := F.called_set.made
  have m2 := F.called_set.sub
  refine wpAny_call (codeAny_of_tree ?_)
  show wpAny _ _ (callAny (.type "set") _) _ _ _
  refine wpAny_pure ⟨Code.quiet_builtin _ (by decide +kernel), codeAny_builtin F.entry_type_call ?_⟩
  rw [Around.under_plain (weight_type_call_type "set" [.ref l] []) rfl]
  have m3 := F.called_set.notType
  have m4 := F.called_set.canCreate
  have m5 := F.typeCall_set_1 (.ref l)
  repeat (any_goals (first | assumption | wp_step))
  refine codeAny_mono (code_set_led1 (.ref l) (E := E) (Q₁ := fun obj s₁ => obj = .ref s.heap.objs.size ∧ s₁ = { s with heap := s.heap.push (newS w) }) ⟨rfl, rfl⟩) fun r s₁ hr => ?_
  cases r with
  | error e => exact hr
  | ok fl =>
    cases fl with
    | ret obj =>
      obtain ⟨rfl, rfl⟩ := hr
      have hS : (s.heap.push (newS w)).get? s.heap.objs.size = some (newS w) := Heap.get?_push_size _ rfl
      have hT : Shared.TypeIs { s with heap := s.heap.push (newS w) } (.ref s.heap.objs.size) "set" := ⟨_, hS, rfl⟩
      have m6 := F.called_set.init.lookup
      have m7 := F.called_set.init.bind (.ref s.heap.objs.size)
      repeat (any_goals (first | assumption | wp_step))
      refine codeAny_mono (codeAny_call_builtin (R := wants (fun r s₂ => r = .none ∧ ∃ h' tk zs, s₂ = { s with heap := h', toks := tk } ∧ TSet w h' s.heap.objs.size zs ∧ (∀ y, y ∈ zs ↔ y ∈ xs) ∧
          (∀ b o, s.heap.get? b = some o → h'.get? b = some o)) E) F.called_set.init.plain F.entry_set_init (check_set_init_1 hT ?_)) fun r₂ s₂ hr₂ => ?_
      · obtain ⟨ol, hol, hcl, nl, hdl⟩ := hl
        obtain ⟨ocls, odict, odata, oslots⟩ := ol
        simp only at hcl hdl
        subst hcl; subst hdl
        have hol' : (s.heap.push (newS w)).get? l = some { cls := .type "list", dict := odict, data := .seq items nl, slots := oslots } := Heap.get?_push_of_some _ hol
        have m8 := F.sub_list_set
        have m9 := F.sub_list_frozenset
        have m10 : (Value.type "list" == Value.type "dict") = false := by decide
        have hl1 : (s.heap.push (newS w)).IsList l items := ⟨_, hol', rfl, nl, rfl⟩
        unfold Builtin.«set.__init__» noKeywords Builtin.Frozenset.updateFrom
        generalize hPI : pyIter = PI
        wp_walk
        subst hPI
        refine wpAny_pyIter_list hl1 ?_
        refine wpAny_bind (wpAny_runValue ?_)
        have hlS : l < s.heap.objs.size := Heap.lt_size hol
        have hh3 : A.in1.in1.in1.handled = none := by simp [hh]
        have hneI : l ≠ (s.heap.push (newS w)).objs.size := by
          rw [Heap.size_push]; exact Nat.ne_of_lt (Nat.lt_succ_of_lt hlS)
        have hSf : s.heap.objs.size ∉ [(s.heap.push (newS w)).objs.size, l] := by
          rw [Heap.size_push]
          intro z
          rcases List.mem_cons.mp z with z | z
          · exact absurd z (Nat.ne_of_lt (Nat.lt_succ_self _))
          · exact absurd (List.mem_singleton.mp z) (Nat.ne_of_gt hlS)
        have hst0 : ((s.heap.push (newS w)).push { cls := .type "list_iterator", data := .fields #[.ref l, .int 0 0] }).get? s.heap.objs.size = some (newS w) := Heap.get?_push_of_some _ hS
        refine tset_loop ((Walks.list hh3 _ l hneI items).toS) s.heap.objs.size hSf xs hisz (by rw [← hisz]; exact hfew) hval (items.size - 0) 0 _ [] (by omega) (Nat.zero_le _)
          ⟨⟨_, Heap.get?_push_size _ rfl, rfl, rfl⟩, (hl1.push _)⟩ (tset_fresh hst0) (fun y => by simp) (Nat.le_refl _) ?_
        intro s' zs' mv T' hm'
        obtain ⟨h', g2, d', tk', os'⟩ := s'
        have eg : g2 = s.gens := mv.gens
        have ed : d' = s.drawn := mv.drawn
        have eo : os' = s.os := mv.os
        subst eg; subst ed; subst eo
        show wpAny _ _ _ _ _ _
        refine wpAny_pure ?_
        show wpAny _ _ (ret Value.none) _ _ _
        refine wpAny_pure ⟨rfl, h', tk', zs', rfl, T', hm', fun b o e => ?_⟩
        have hb := Heap.lt_size e
        refine mv.heap b o (fun z => ?_) (Heap.get?_push_of_some _ (Heap.get?_push_of_some _ e))
        rcases List.mem_cons.mp z with z | z
        · exact absurd z (Nat.ne_of_lt hb)
        · have z := List.mem_singleton.mp z
          rw [Heap.size_push] at z
          exact absurd z (Nat.ne_of_lt (Nat.lt_succ_of_lt hb))
      · cases r₂ with
        | error e => exact hr₂
        | ok fl₂ =>
          cases fl₂ with
          | ret r =>
            obtain ⟨rfl, h', tk, zs, rfl, T', hm', hk'⟩ := hr₂
            repeat (any_goals (first | assumption | wp_step))
            exact h _ _ _ T' hm' hk'
          | _ => exact hr₂.elim
    | _ => exact hr.elim
theorem strs_of_vals : ∀ (l : List Value), (∀ v ∈ l, ∃ x tk, v = Value.str x tk) → ∃ xs : List Str, PySem.W.EachIs (fun v x => ∃ t, v = Value.str x t) l xs ∧ xs = l.map fun v => txtOf (0, v)
  | [], _ => ⟨[], .nil, rfl⟩
  | v :: l, h => by
    obtain ⟨x, tk, rfl⟩ := h v List.mem_cons_self
    obtain ⟨xs, h1, h2⟩ := strs_of_vals l fun u hu => h u (List.mem_cons_of_mem _ hu)
    exact ⟨x :: xs, .cons ⟨tk, rfl⟩ h1, by rw [h2]; rfl⟩
theorem each_strs : ∀ {l : List Value} {xs : List Str}, PySem.W.EachIs (fun v x => ∃ t, v = Value.str x t) l xs → Vals (xs.map V.str) l
  | _, _, .nil => .nil
  | _, _, .cons ⟨t, e⟩ r => .cons ⟨t, e⟩ (each_strs r)
/-- sorted(a set of texts) -/
theorem sorted_tset {a : Addr} {zs : List Str} {Q : Value → Shared → Prop} (T : TSet w s.heap a zs) (hh : A.handled = none) (hu : A.units + 8 < cLine)
    (hQ : ∀ s' p (out : List Value) (c : Nat) (ys : List Str), (∀ b o, s.heap.get? b = some o → s'.heap.get? b = some o) → s'.gens = s.gens → s'.os = s.os → s.heap.objs.size ≤ p →
      s'.heap.get? p = some (seqObj "list" out.toArray c) → Vals (ys.map V.str) out → ys.Perm zs → ys.Pairwise (fun x y => x.cps.toList ≤ y.cps.toList) → Q (.ref p) s') :
    wpAny (model P w) A (call (.builtin "sorted") [.ref a]) Q E s := by
  obtain ⟨o, es, ep, t, ho, hex, hd, g, hz, nd, hb, hf, hr, hl⟩ := T.ex
  refine Calls.call_function_entry kind_sorted plain_sorted entry_sorted (args_sorted1 _) ?_
  unfold Builtin.«sorted»
  refine wpAny_bind (m := checkCount "sorted" 1 1 _) (wpAny_pure ?_)
  refine wpAny_bind (collect_set (A := A.in1) hh ⟨o, ho, hex.1, hd⟩ hf hb hr hl fun s1 vs k1 hz1 g1 o1 pm => ?_)
  have hvl : vs.length = es.size := by rw [pm.length_eq, List.length_map, Array.length_toList]
  obtain ⟨xs, ex, exs⟩ := strs_of_vals vs fun v hv => by
    obtain ⟨e, he, q⟩ := List.mem_map.mp (pm.mem_iff.mp hv)
    obtain ⟨x, tk, h1, _⟩ := g e he
    exact ⟨x, tk, by rw [← q]; exact h1⟩
  have pz : xs.Perm zs := by
    rw [exs, ← hz]
    have q := pm.map fun v => txtOf (0, v)
    rw [List.map_map] at q
    exact q
  have hxl : xs.length = es.size := by rw [← ex.length]; exact hvl
  refine wpAny_bind (wpAny_newList ?_ (by rw [hvl]; exact fits_of_scanBound hb))
  have hoL : (s1.heap.push (seqObj "list" vs.toArray 0)).get? s1.heap.objs.size = some (seqObj "list" vs.toArray 0) := Heap.get?_push_size _ rfl
  refine wpAny_bind (wpAny_holding (PySem.W.list_sort_data (s := { s1 with heap := s1.heap.push (seqObj "list" vs.toArray 0) }) (enc := PyData.str) (bs := xs) hoL ex ?_ ?_ ?_ (by rw [hxl]; exact fits_of_scanBound hb) ?_ fun out h1 h2 => ?_))
  · exact ex.mono fun v x ⟨t, e⟩ => ⟨[], by rw [e]; exact .str x t, by simp⟩
  · exact PySem.W.AllAlike.of fun _ _ => rfl
  · exact PySem.W.Sortable.others fun b => ⟨(fun z => nomatch z), fun xs z => nomatch z⟩
  · intro b _
    show A.in1.units + 1 + 0 < cLine
    have : A.in1.units ≤ A.units + 1 := by first | exact Nat.le_refl _ | (simp [Around.in1]) | omega
    omega
  · obtain ⟨c, hc⟩ := sortedHeap_at (vs := vs) (out := out.toArray) hoL
    rw [PySem.W.dataLe_str] at h2
    refine wpAny_pure ⟨_, rfl, hQ _ s1.heap.objs.size out c _ (fun b u e => ?_) g1 o1 hz1 hc (each_strs h2) ((List.mergeSort_perm _ _).trans pz) ?_⟩
    · have q := k1 b u e
      have hlt := Heap.lt_size q
      show (sortedHeap (s1.heap.push (seqObj "list" vs.toArray 0)) s1.heap.objs.size vs out.toArray).get? b = some u
      rw [sortedHeap_old (Nat.ne_of_lt hlt) (by rw [size_push']; exact Nat.lt_succ_of_lt hlt)]
      exact Heap.get?_push_of_some _ q
    · have sp := List.pairwise_mergeSort (le := fun a b : Str => decide (a.cps.toList ≤ b.cps.toList)) (fun a b c h1 h2 => decide_eq_true (List.le_trans (of_decide_eq_true h1) (of_decide_eq_true h2))) (fun a b => by
        rcases List.le_total a.cps.toList b.cps.toList with z | z
        · rw [decide_eq_true z]; rfl
        · rw [decide_eq_true z, Bool.or_true]) xs
      exact sp.imp fun h => of_decide_eq_true h
end
end FTS
end
section
set_option maxRecDepth 100000
namespace FT
open PySem L2
set_option autoImplicit false
/-! ### sorted(set(texts)) -/
def insU (x : List Nat) : List (List Nat) → List (List Nat)
  | [] => [x]
  | y :: r => if x = y then y :: r else if x < y then x :: y :: r else y :: insU x r
def sortU : List (List Nat) → List (List Nat)
  | [] => []
  | x :: r => insU x (sortU r)
theorem mem_insU (x z : List Nat) : ∀ l, z ∈ insU x l ↔ z = x ∨ z ∈ l
  | [] => by simp [insU]
  | y :: r => by
    unfold insU
    split
    · rename_i h; subst h; simp
    · split
      · simp
      · rw [List.mem_cons, mem_insU x z r, List.mem_cons]
        exact ⟨fun h => h.elim (fun h => .inr (.inl h)) fun h => h.elim .inl fun h => .inr (.inr h), fun h => h.elim (fun h => .inr (.inl h)) fun h => h.elim .inl fun h => .inr (.inr h)⟩
theorem mem_sortU (z : List Nat) : ∀ l, z ∈ sortU l ↔ z ∈ l
  | [] => by simp [sortU]
  | x :: r => by rw [sortU, mem_insU, mem_sortU z r, List.mem_cons]
theorem insU_lt (x : List Nat) : ∀ l : List (List Nat), l.Pairwise (· < ·) → (insU x l).Pairwise (· < ·)
  | [], _ => by simp [insU]
  | y :: r, h => by
    obtain ⟨h1, h2⟩ := List.pairwise_cons.mp h
    unfold insU
    split
    · exact h
    · rename_i hne
      split
      · rename_i hlt
        refine List.pairwise_cons.mpr ⟨fun z hz => ?_, h⟩
        rcases List.mem_cons.mp hz with e | e
        · rw [e]; exact hlt
        · exact List.lt_trans hlt (h1 z e)
      · rename_i hlt
        refine List.pairwise_cons.mpr ⟨fun z hz => ?_, insU_lt x r h2⟩
        rcases (mem_insU x z r).mp hz with e | e
        · rw [e]
          by_cases hq : y < x
          · exact hq
          · exact absurd (List.le_antisymm (List.not_lt.mp hq) (List.not_lt.mp hlt)) hne
        · exact h1 z e
theorem sortU_lt : ∀ l, (sortU l).Pairwise (· < ·)
  | [] => List.Pairwise.nil
  | x :: r => insU_lt x _ (sortU_lt r)
theorem sortU_one {ys l : List (List Nat)} (h1 : ys.Pairwise (· ≤ ·)) (h2 : ys.Nodup) (h3 : ∀ y, y ∈ ys ↔ y ∈ l) : ys = sortU l := by
  have n2 : (sortU l).Nodup := (sortU_lt l).imp fun {a b} (h : a < b) (e : a = b) => List.lt_irrefl b (e ▸ h)
  have pm : ys.Perm (sortU l) := (List.perm_ext_iff_of_nodup h2 n2).mpr fun y => by rw [h3 y, mem_sortU]
  exact List.Perm.eq_of_pairwise (le := (· ≤ ·)) (fun a b _ _ h h' => List.le_antisymm h h') h1 ((sortU_lt l).imp fun h => List.le_of_lt h) pm
section
variable {X : Cx} {W : WX} {e : Expr} {f : E D} {fl g : E (List D)} {pos p pos2 q2 : Pos}
def TxO (w : World) (a : Addr) (zs : List Str) : HO := .ext fun h => FTS.TSet w h a zs
theorem txO_ok {P : Program} {w : World} {H : Hp} {h : Heap} {a : Addr} {zs : List Str} (T : FTS.TSet w h a zs) : ObjOk P w H h a (TxO w a zs) :=
  ⟨T, let ⟨o, _, _, _, ho, _⟩ := T.ex; ⟨o, ho⟩, fun h1 h2 T1 k => T1.at k⟩
def rSetTx (K : PySem.W.Frag) (w : World) : List V → Hp → VK → Prop := fun xs H Q => ∃ (l : Addr) (ys : List Str), xs = [.ref l] ∧ SqL K H l (ys.map V.str) ∧ ys.length < scanBound ∧ ∀ (a : Addr) (zs : List Str), H a = none → (∀ y, y ∈ zs ↔ y ∈ ys) → Q (.ref a) (upd H a (TxO w a zs))
theorem cr_setTx (hc : X.calm = true) : CallR X (.type "set") (rSetTx X.K X.w) := by
  intro pins s σ H xs us Q I r h
  obtain ⟨l, ys, rfl, hs, hfew, q⟩ := h
  obtain ⟨its, rv, pl, _⟩ := I.list hs
  rw [Vals.ref1 r]
  refine FTS.call_set_texts (I.ok.hd hc) pl.isList (by simpa using rv.strs) hfew fun h' tk zs T hm kp => ?_
  exact ⟨.ref _, _, I.laid (t' := tk) kp (Nat.le_refl _) (txO_ok T), rfl, q _ zs (I.hok.fresh (Nat.le_refl _)) hm⟩
def rSortedTx (w : World) : List V → Hp → VK → Prop := fun vs H Q => ∃ (a : Addr) (zs : List Str), vs = [.ref a] ∧ H a = some (TxO w a zs) ∧ ∀ (ys : List Str) (p : Addr), ys.Perm zs → zs.Nodup → ys.Pairwise (fun x y => x.cps.toList ≤ y.cps.toList) → H p = none → Q (.ref p) (upd H p (.lst (ys.map V.str)))
theorem cr_sortedTx (hc : X.calm = true) (hu : X.A.units + 64 < cLine) : CallR X (.builtin "sorted") (rSortedTx X.w) := by
  intro pins s σ H vs us Q I r h
  obtain ⟨a, zs, rfl, ha, q⟩ := h
  rw [Vals.ref1 r]
  have T : FTS.TSet X.w s.heap a zs := (I.hok a _ ha).1
  have T' := T
  obtain ⟨o, es, ep, t, ho, hex, hd, g, hz, nd, hb, hf, hr, hl⟩ := T.ex
  refine FTS.sorted_tset T' (I.ok.hd hc) (by omega) fun s' p out c ys kp eg eo hp hget hv pm hs => ?_
  obtain ⟨h', g', d', t', o'⟩ := s'
  have e1 : g' = s.gens := eg
  have e2 : o' = s.os := eo
  subst e1 e2
  have hlen : (ys.map V.str).length ≤ sizeLine := by
    rw [List.length_map, pm.length_eq, ← hz, List.length_map, Array.length_toList]
    exact fits_of_scanBound hb
  have J : Inv X pins σ (upd H p (.lst (ys.map V.str))) { s with heap := h', toks := t', drawn := d' } := by
    have J0 := I.laid (t' := t') (o := .lst (ys.map V.str)) kp hp ⟨hlen, out, c, hv, hget⟩
    exact ⟨J0.ok, J0.os, J0.bare, J0.base, J0.loc, J0.cell, J0.free, J0.freeC, J0.pin, J0.hok, J0.len⟩
  exact ⟨.ref p, _, J, rfl, q ys p pm nd hs (I.hok.fresh hp)⟩
/-- what sorted(set(..)) makes of texts -/
def sortSet (ds : List D) (h : MH) : R (List D) := match strsOf ds with
  | some ps => if ps.length < 4096 then .ok ((sortU ps).map .str) h else .err
  | none => .err
theorem sortset_run {rr : List Addr} {H : Hp} {hp : MH} {σ : L2.St} {a : Addr} {ds : List D} {vs : List V} {Q : VK} (hr : HR X.w X.K X.mg rr hp H) (hs : SqL X.K H a vs) (hv : Reps X.K X.mg rr H ds vs) (p : Post X.w X.K X.mg W rr H σ (LL X.K X.mg) Q (sortSet ds hp)) :
    rSetTx X.K X.w [.ref a] H fun x H1 => rSortedTx X.w [x] H1 Q := by
  unfold sortSet at p
  split at p
  · rename_i ps ep
    split at p
    · rename_i hl
      obtain rfl := strsOf_eq ep
      obtain rfl := reps_strs hv
      have e2 : (ps.map fun s => V.str ⟨s.toArray⟩) = (ps.map fun q => (⟨q.toArray⟩ : Str)).map V.str := by rw [List.map_map]; rfl
      rw [e2] at hs
      refine ⟨a, _, rfl, hs, by rw [List.length_map]; exact hl, fun b zs hb hm => ?_⟩
      refine ⟨b, zs, rfl, upd_same, fun ys c pm nd hsort hc => ?_⟩
      have ey : (ys.map fun y => y.cps.toList) = sortU ps := by
        refine sortU_one (List.pairwise_map.mpr hsort) ?_ fun y => ?_
        · exact List.pairwise_map.mpr (((pm.nodup_iff).mpr nd).imp fun {x y} hne e => hne (by cases x; cases y; simp at e; rw [e]))
        · rw [List.mem_map]
          constructor
          · rintro ⟨z, hz, rfl⟩
            have := (hm z).mp (pm.mem_iff.mp hz)
            obtain ⟨w, hw, rfl⟩ := List.mem_map.mp this
            simpa using hw
          · intro hy
            exact ⟨⟨y.toArray⟩, pm.mem_iff.mpr ((hm _).mpr (List.mem_map.mpr ⟨y, hy, rfl⟩)), by simp⟩
      have hr1 := hr_new (o := TxO X.w b zs) hr hb
      have e1 := ext_new (K := X.K) (r := rr) (o := TxO X.w b zs) hb
      have e2 := ext_new (K := X.K) (r := rr) (o := HO.lst (ys.map V.str)) hc
      refine p rr _ (.ref c) (e1.trans e2) (hr_new hr1 hc) ⟨c, _, rfl, hr_nin hr1 hc, ?_, upd_same, ?_⟩
      · cases z : H c with
        | none => rfl
        | some o => rw [(e1.keep c o z (hr_nin hr1 hc)).2] at hc; cases hc
      · rw [← ey]
        have key : ∀ l : List Str, Reps X.K X.mg rr (upd (upd H b (TxO X.w b zs)) c (.lst (ys.map V.str))) ((l.map fun y => y.cps.toList).map .str) (l.map V.str) := fun l => by
          induction l with
          | nil => exact reps_nil
          | cons y l ih => exact reps_cons (by unfold Rep; cases y; simp) ih
        exact key ys
    · exact False.elim p
  · exact False.elim p
def lSortSetL (fl : E (List D)) : E (List D) := fun env hp => (fl env hp).bind fun ds h => sortSet ds h
def lSortSetV (f : E D) : E (List D) := fun env hp => (f env hp).bind fun x h => match lstOf x h with
  | some ds => sortSet ds h
  | none => .err
section
theorem ml_sortSetL (hc : X.calm = true) (hu : X.A.units + 64 < cLine) (hg : Gl X "sorted") (hm : X.mg "sorted" = none) (hv : bootBuiltins "sorted" = some (.builtin "sorted")) (hg2 : Gl X "set") (hm2 : X.mg "set" = none) (hv2 : bootBuiltins "set" = some (.type "set")) (ha : ML X W e fl)
    (he : starEach [e] X.env = (false, eval e X.env) :: starEach [] X.env := by rfl) (hpl : (backTo pos2 (starEach [] X.env)).any (·.1) = false := by rfl) (hpl1 : (backTo pos (starEach [] X.env)).any (·.1) = false := by rfl)
    (he2 : starEach [.Call (.Name "set" q2) [e] [] pos2] X.env = (false, eval (.Call (.Name "set" q2) [e] [] pos2) X.env) :: starEach [] X.env := by rfl) :
    ML X W (.Call (.Name "sorted" p) [.Call (.Name "set" q2) [e] [] pos2] [] pos) (lSortSetL fl) :=
  PEm (pe_callB (cr_sortedTx hc hu) hg hm hv (pa_cons (pe_callTy (cr_setTx hc) hg2 hm2 hv2 (pa_cons ha pa_nil he) (by decide) (by decide) he hpl) pa_nil he2) (by decide) (by decide) he2 hpl1) fun σ H Q h => by
    obtain ⟨env, hp, rr, es, hh, q⟩ := h
    refine ⟨env, hp, rr, es, hh, Post.bind q fun ds hp1 r1 H1 y e1 hr1 l q1 => ?_⟩
    obtain ⟨a, vs, rfl, na, n0, ea, hv⟩ := l
    exact sortset_run hr1 (SqL.of ea) hv q1
theorem ml_sortSetV (hc : X.calm = true) (hu : X.A.units + 64 < cLine) (hg : Gl X "sorted") (hm : X.mg "sorted" = none) (hv : bootBuiltins "sorted" = some (.builtin "sorted")) (hg2 : Gl X "set") (hm2 : X.mg "set" = none) (hv2 : bootBuiltins "set" = some (.type "set")) (ha : ME X W e f)
    (he : starEach [e] X.env = (false, eval e X.env) :: starEach [] X.env := by rfl) (hpl : (backTo pos2 (starEach [] X.env)).any (·.1) = false := by rfl) (hpl1 : (backTo pos (starEach [] X.env)).any (·.1) = false := by rfl)
    (he2 : starEach [.Call (.Name "set" q2) [e] [] pos2] X.env = (false, eval (.Call (.Name "set" q2) [e] [] pos2) X.env) :: starEach [] X.env := by rfl) :
    ML X W (.Call (.Name "sorted" p) [.Call (.Name "set" q2) [e] [] pos2] [] pos) (lSortSetV f) :=
  PEm (pe_callB (cr_sortedTx hc hu) hg hm hv (pa_cons (pe_callTy (cr_setTx hc) hg2 hm2 hv2 (pa_cons ha pa_nil he) (by decide) (by decide) he hpl) pa_nil he2) (by decide) (by decide) he2 hpl1) fun σ H Q h => by
    obtain ⟨env, hp, rr, es, hh, q⟩ := h
    refine ⟨env, hp, rr, es, hh, Post.bind q fun x hp1 r1 H1 y e1 hr1 l q1 => ?_⟩
    split at q1
    · rename_i ds ed
      obtain ⟨a, vs, n, rfl, _, _, _, ea, hv⟩ := lstOf_sq hr1 l ed
      exact sortset_run hr1 (SqL.of ea) hv q1
    · exact False.elim q1
end
end
end FT
end
section
set_option maxRecDepth 100000
namespace FT
open PySem L2
set_option autoImplicit false
section
variable {X : Cx} {W : WX} {e : Expr} {f : E D} {fl g : E (List D)} {pos p pos2 q2 : Pos}
theorem hu64 {A : Around} {k : Nat} (hr : Room k A) : A.units + 64 < cLine := by have := hr.un; omega
theorem hu65 {A : Around} {k : Nat} (hr : Room k A) : A.units + 65 < cLine := by have := hr.un; omega
/-- -3 -/
theorem me_negC {i : Int} {j : Nat} : ME X W (.UnaryOp .USub (.Constant (.int i) j q2) pos) (vC (.int (-i))) := PEm (pe_un un_neg pe_int) fun σ H Q h => by
  obtain ⟨env, hp, rr, es, hh, q⟩ := h
  exact ⟨i, rfl, q rr H _ Ext.refl hh of_int⟩
/-- tuple(x) -/
def tupV (ds : List D) (h : MH) : R D := match ds with
  | [.tup xs] => .ok (.tup xs) h
  | [.rol xs] => .ok (.tup xs) h
  | [.obj n] => match h[n]? with
    | some (.lst xs) => .ok (.tup xs) h
    | _ => .err
  | _ => .err
theorem v_tupV : PV X (fun xs H Q => ∃ p ys, xs = [.ref p] ∧ ((SqL X.K H p ys ∧ ∀ l, H l = none → Q (.ref l) (upd H l (.tup ys))) ∨ (SqT X.K H p ys ∧ Q (.ref p) H))) tupV := ⟨fun W σ rr H hp ds vs Q hr hv p => by
  unfold tupV at p
  split at p
  · obtain ⟨v, rfl, h1⟩ := reps1 hv
    obtain ⟨a, ws, rfl, h2, h3⟩ := rep_tup h1
    exact ⟨a, ws, rfl, .inr ⟨h2, post_at hr p h1⟩⟩
  · obtain ⟨v, rfl, h1⟩ := reps1 hv
    unfold Rep at h1
    obtain ⟨a, ws, rfl, h2, h3⟩ := h1
    exact ⟨a, ws, rfl, .inl ⟨h2.sq, fun l hl => post_tup hr p h3 hl⟩⟩
  · obtain ⟨v, rfl, h1⟩ := reps1 hv
    obtain ⟨a, rfl, h2⟩ := rep_obj h1
    split at p
    · rename_i xs ex
      obtain ⟨a', g1, ws, ea, hw⟩ := hr.obj _ _ ex
      rw [h2] at g1; cases g1
      exact ⟨a, ws, rfl, .inl ⟨SqL.of ea, fun l hl => post_tup hr p hw hl⟩⟩
    · exact False.elim p
  · exact False.elim p⟩
/-- the law's own promise -/
def spLaw (K : PySem.W.Frag) : Sp := fun vs H Q _ => ∃ (a : Addr) (ns : List Int), vs = [.ref a] ∧ SqL K H a (ns.map V.int) ∧ ns.length ≤ 63 ∧ Only H ∧ ∀ H', Q (.bl true) H'
theorem sp_law {wd : World} {K : PySem.W.Frag} {mg : Str → Option Value} {m : List D → MH → R D} (hm : ∀ ns : List Int, ns.length ≤ 63 → ∃ h, m [.rol (ns.map .int)] [] = .ok (.bl true) h) :
    ∀ vs H Q E, spLaw K vs H Q E → spM wd K mg 1 m vs H Q E := fun vs H Q E h => by
  obtain ⟨a, ns, rfl, hs, hl, ho, q⟩ := h
  obtain ⟨h', e⟩ := hm ns hl
  have hf : SqF K H a (ns.map V.int) := by
    rcases hs with (hs | ⟨o, hs⟩) | hs
    · rcases ho a with z | ⟨o, xs, z⟩
      · rw [z] at hs; cases hs
      · rw [z] at hs; cases hs
    · exact .inl ⟨o, hs⟩
    · exact .inr fun H' => .inr hs
  refine ⟨rfl, [.rol (ns.map .int)], [], [], ?_, ⟨rfl, List.nodup_nil, fun n o z => by simp at z⟩, ?_⟩
  · refine reps_cons ?_ reps_nil
    unfold Rep
    exact ⟨a, _, rfl, hf, of_ints⟩
  · rw [e]
    intro r' H' v _ _ rv
    rw [rep_bl rv]
    exact q H'
/-- nothing is promised where no call is left -/
theorem none_left {P : Program} {w : World} {K : PySem.W.Frag} {mg : Str → Option Value} {base : Heap} {f : Addr} {fd : FuncData} {ps : List Str} {n : Nat} : FnOk P w K mg base (L2.CX P w) 0 f fd ps (spM w K mg n fun _ _ => .err) := by
  have no : ∀ vs H Q E, ¬ spM w K mg n (fun _ _ => .err) vs H Q E := fun vs H Q E h => by
    obtain ⟨_, _, _, _, _, _, z⟩ := h
    exact z
  exact ⟨fun vs H Q E h => absurd h (no vs H Q E), fun A outer s H args us vs Q E _ _ _ _ h => absurd h (no vs H Q E)⟩
theorem fnM_len {n m : Nat} {b : S} : ∀ ds hp, ds.length ≠ n → fnM n m b ds hp = .err := fun ds hp h => by unfold fnM; rw [if_neg h]
end
def vJoinL (f : E D) (fl : E (List D)) : E D := fun env hp => (f env hp).bind fun s h1 => asStr s ((fl env h1).bind fun ds h2 => joinP s ds h2)
end FT
end
section
set_option maxRecDepth 100000
namespace FT
open PySem L2 PySem.Spec PyProof.Rows
set_option autoImplicit false
/-! ### an error that is caught and kept -/
section
variable {X : Cx} {pins : List (Addr × Obj)} {σ : L2.St} {H : Hp} {sI s1 : Shared} {B : Heap} {a : Addr} {cls : Value}
theorem cgO_ok {P : Program} {w : World} {H : Hp} {h : Heap} {oe : Obj} {us : Array Value} (e : h.get? a = some oe) (z : Zc cls none oe) (d : oe.data = .fields us) : ObjOk P w H h a (CgO cls a) :=
  ⟨⟨oe, us, e, z, d⟩, ⟨oe, e⟩, fun _ _ ⟨o, v, q, r⟩ k => ⟨o, v, k o q, r⟩⟩
/-- the error's own object becomes one of ours -/
theorem promote (J : Inv X pins σ H sI) (nb : ∀ b o, sI.heap.get? b = some o → b ∉ frs X.stack → B.get? b = some o) (fl : HandSPX.FlyingZ B (X.env :: X.outer) a (Zc cls none) s1.heap) (up : sI.heap.UpToSlots s1.heap) (os : s1.os = sI.os) (ag : AllBare s1.gens) (hn : H a = none) (nf : a ∉ frs X.stack) :
    Inv X pins σ (upd H a (CgO cls a)) s1 := by
  obtain ⟨G, g1, g2⟩ := restrict s1.heap fun b => decide (b ≠ a)
  have n0 : sI.heap.get? a = none := by
    cases e : sI.heap.get? a with
    | none => rfl
    | some o =>
      have := nb a o e nf
      rw [fl.2.1] at this
      cases this
  have same : ∀ b, b ≠ a → G.get? b = s1.heap.get? b := fun b hb => g1 b (decide_eq_true hb)
  have JG : Inv X pins σ H { s1 with heap := G } := J.landed (s' := { s1 with heap := G }) nb (fun b o e => by
      have hb : b ≠ a := fun z => by rw [z, fl.2.1] at e; cases e
      show G.get? b = some o
      rw [same b hb]
      exact fl.1 b o e) (fun b o e hd => by
      have hb : b ≠ a := fun z => by rw [z, n0] at e; cases e
      obtain ⟨sl, q⟩ := up b o e hd
      exact ⟨sl, by show G.get? b = _; rw [same b hb]; exact q⟩) os ag
  obtain ⟨oe, us, he, hz, hd⟩ := fl.there
  exact JG.laidN (h' := s1.heap) (t' := s1.toks) (fun b u e => by
    have hb : b ≠ a := fun z => by
      have e' : G.get? b = some u := e
      rw [z, g2 a (decide_eq_false fun w => w rfl)] at e'
      cases e'
    rw [← same b hb]
    exact e) (g2 a (decide_eq_false fun w => w rfl)) hn (cgO_ok he hz hd)
theorem inv_toSuite (I : Inv X pins σ H s1) : Inv (X.suite a (X.pn ++ pins)) [] σ H s1 :=
  ⟨I.ok.suite _ _, I.os, I.bare, I.base, I.loc, I.cell, I.free, I.freeC, fun p hp => I.pin p (by rw [List.append_nil] at hp; exact hp), I.hok, I.len⟩
theorem inv_ofSuite {pn : List (Addr × Obj)} (I : Inv (X.suite a (X.pn ++ pins)) pn σ H s1) (ok : X.Ok) : Inv X pins σ H s1 :=
  ⟨ok, I.os, I.bare, I.base, I.loc, I.cell, I.free, I.freeC, fun p hp => I.pin p (List.mem_append_left _ hp), I.hok, I.len⟩
end
/-- what the clause asks of an error: it is of the class, and the suite goes on with it as an object of ours -/
def wKeep (K : PySem.W.Frag) (c : Value) (i : Nat) (ts : Addr → TS) (D : Ends) : WX := fun cls d σ H =>
  d = none ∧ PySem.W.exmOne K cls c = some true ∧ ∀ a, H a = none → ts a { nx := fun σ1 H1 => D.nx (σ1.set i none) H1, rt := D.rt, bk := fun σ1 H1 => D.bk (σ1.set i none) H1, ct := fun σ1 H1 => D.ct (σ1.set i none) H1 } (σ.set i (some (.ref a))) (upd H a (CgO cls a))
section
variable {X : Cx} {x n : Str} {c : Value} {i : Nat} {body suite : List Stmt} {b0 : Stmt} {np pos hpos : Pos} {tb : WX → TS} {ts : Addr → TS}
theorem ps_try_keep (hs : X.stack = X.env :: X.outer) (hf : X.env.frame = some X.env.locals) (hN : X.N.Nodup) (hi : X.N[i]? = some n) (hln : X.env.kindOf n = some .local) (hc : Names X x c)
    (hb : ∀ (W : WX) (pn : List (Addr × Obj)) (xe : Value → Shared → Prop), Takes (X.tr pn xe) W → PSs (X.tr pn xe) body (tb W))
    (hsu : ∀ (a : Addr) (pn : List (Addr × Obj)), PSs (X.suite a pn) (b0 :: suite) (ts a)) :
    PS X (.Try body [.ExceptHandler (some (.Name x np)) (some n) (b0 :: suite) hpos] [] [] pos) (fun D σ H => tb (wKeep X.K c i ts D) D σ H) := by
  refine ⟨fun pins s σ H D I h => ?_⟩
  have ok := I.ok
  have frm : X.A.frames = some (X.env :: X.outer) := by rw [ok.frames, hs]
  refine wpAny_Try_except ?_
  have TK : Takes (X.tr (X.pn ++ pins) fun e s₁ => wpAny (model X.prog X.w) X.A (noteFrame e X.env) (fun _ s₂ => wpAny (model X.prog X.w) X.A (setFlight e none) (fun _ s₃ => wpAny (model X.prog X.w) X.A (handleBy e X.env [.ExceptHandler (some (.Name x np)) (some n) (b0 :: suite) hpos]) (SP X pins D) X.xe s₃) X.xe s₂) X.xe s₁) (wKeep X.K c i ts D) := by
    rintro u s1 ⟨a, B, sI, pins1, σ1, H1, cls, d, rfl, JT, nb, up, sky, na, os, ag, rfl, exm, yes⟩
    have J : Inv X pins σ1 H1 sI := JT.ofTry ok
    have sky1 : Sky B (X.env :: X.outer) a (Zc cls none) X.env.locals s1.heap := by rw [← hs]; exact sky
    show wpAny (model X.prog X.w) X.A (noteFrame (.ref a) X.env) _ _ _
    refine Sky.land Zc.steady frm hf sky1 fun h3 fl3 up3 => ?_
    have nfr : ∀ {h : Heap}, HandSPX.FlyingZ B (X.env :: X.outer) a (Zc cls none) h → a ∉ frs (X.env :: X.outer) := fun {h} fl hm => by
      obtain ⟨oe, us, he, _, hd⟩ := fl.there
      obtain ⟨_, o1, e1, nd⟩ := fl.2.2.1.mem hm
      rw [he] at e1
      cases e1
      exact nd _ hd
    have nf : a ∉ frs X.stack := by rw [hs]; exact nfr fl3
    have K3 : Inv X pins σ1 (upd H1 a (CgO cls a)) { s1 with heap := h3 } := promote (s1 := { s1 with heap := h3 }) J nb fl3 (up.trans up3) os ag na nf
    have S3 := inv_toSuite (a := a) K3
    refine wpAny_handleBy_cons (codeAny_handlers_test ?_) (by intro q; cases q)
    obtain ⟨oe3, us3, he3, hz3, hd3⟩ := fl3.there
    have LT : PySem.W.Looks (model X.prog X.w) h3 (typeOf (.ref a)) cls := fun A Q E s k q => wpAny_typeOf_ref (k _ _ he3) (by rw [hz3.1]; exact q)
    have LM := PySem.W.exm_one (M := model X.prog X.w) K3.kIn LT exm
    have test : ∀ {Q : Value → Shared → Prop} {E : Value → Shared → Prop}, Q c { s1 with heap := h3 } → wpAny (model X.prog X.w) (X.A.mark (some (.ref a))) (eval (.Name x np) X.env) Q E { s1 with heap := h3 } := fun {Q E} q => by
      obtain ⟨hg, hdbg, hm | ⟨hm, hv, hnn⟩⟩ := hc
      · exact ld_glob (X := X.suite a (X.pn ++ pins)) S3 hg hm q hdbg
      · exact ld_blt (X := X.suite a (X.pn ++ pins)) S3 hg hm hv q hnn hdbg
    refine test (LM.here ?_)
    refine codeAny_handlers_suite_as ?_
    refine HandSPX.lands_againZ fl3 fun h4 fl4 up4 => ?_
    have K4 : Inv X pins σ1 (upd H1 a (CgO cls a)) { s1 with heap := h4 } := promote (s1 := { s1 with heap := h4 }) J nb fl4 ((up.trans up3).trans up4) os ag na nf
    refine store_ok (X := X.suite a (X.pn ++ pins)) (v := .ref a) (inv_toSuite (a := a) K4) hN hi (.inl hln) rfl (fun s5 S5 => ?_) (.inr hln)
    refine wpAny_mono ((hsu a (X.pn ++ pins)).run [] s5 _ _ _ S5 (yes a na)) (fun f s6 hsp => ?_) (fun _ _ z => False.elim z)
    cases f with
    | next =>
      obtain ⟨σ6, H6, S6, q6⟩ := hsp
      exact gone_ok (inv_ofSuite S6 ok) hN hi hln fun s7 J7 => ⟨_, _, J7, q6⟩
    | brk =>
      obtain ⟨σ6, H6, S6, q6⟩ := hsp
      exact gone_ok (inv_ofSuite S6 ok) hN hi hln fun s7 J7 => ⟨_, _, J7, q6⟩
    | cont =>
      obtain ⟨σ6, H6, S6, q6⟩ := hsp
      exact gone_ok (inv_ofSuite S6 ok) hN hi hln fun s7 J7 => ⟨_, _, J7, q6⟩
    | ret u =>
      obtain ⟨v6, σ6, H6, S6, r6, q6⟩ := hsp
      exact gone_ok (inv_ofSuite S6 ok) hN hi hln fun s7 J7 => ⟨_, _, _, J7, r6, q6⟩
  refine wpAny_mono ((hb _ _ _ TK).run [] s σ H D (I.toTry _) h) (fun f s1 hsp => ?_) (fun e s1 he => he)
  cases f with
  | next =>
    obtain ⟨σ1, H1, J1, q⟩ := hsp
    exact wpAny_execs_nil ⟨σ1, H1, J1.ofTry ok, q⟩
  | brk =>
    obtain ⟨σ1, H1, J1, q⟩ := hsp
    exact ⟨σ1, H1, J1.ofTry ok, q⟩
  | cont =>
    obtain ⟨σ1, H1, J1, q⟩ := hsp
    exact ⟨σ1, H1, J1.ofTry ok, q⟩
  | ret u =>
    obtain ⟨v, σ1, H1, J1, r, q⟩ := hsp
    exact ⟨v, σ1, H1, J1.ofTry ok, r, q⟩
end
end FT
end
section
set_option maxRecDepth 100000
namespace FT
open PySem L2 PySem.Spec PyProof.Rows
set_option autoImplicit false
/-! ### defs and classes of the module as values; raise; try -/
section
variable {X : Cx} {W : WX}
theorem me_gfn {x : Str} {pos : Pos} (hg : Gl X x) (hm : ∃ a, X.mg x = some (.ref a)) (hd : (x == ("__debug__" : Str)) = false := by decide) : ME X W (.Name x pos) (vC (.fn x)) := by
  obtain ⟨a, hm⟩ := hm
  exact PEm (pe_glob (v := .ref a) hg hm rfl hd) (tC_of (d := .fn x) fun _ _ => by unfold Rep; exact ⟨a, rfl, hm⟩)
end
def bmVE : List Value := [.type "ValueError", .type "Exception", .type "BaseException", .type "object"]
/-- what is known of an error's class -/
structure ExF (K : PySem.W.Frag) (mg : Str → Option Value) (c : Str) (C : Addr) : Prop where
  g : mg c = some (.ref C)
  x : PySem.W.excIn K C bmVE "ValueError.__new__" = true
  k : PySem.W.keepIn K (.ref C) = true
  b : PySem.W.subIn K (.ref C) (.type "BaseException") = some true
  t : PySem.W.typeIn K (.ref C) = some (.type "type")
def sRaise (c : Str) : S := fun env hp => .exc c env hp
section
variable {X : Cx} {W : WX} {p p2 pos pos' : Pos}
theorem ms_raise {c m : Str} {j : Nat} (hc : X.calm = true) (tk : Takes X W) (hE : ∃ C, ExF X.K X.mg c C) (hg : Gl X c) (hdb : (c == ("__debug__" : Str)) = false := by decide) :
    MS X W (.Raise (some (.Call (.Name c p) [.Constant (.str m) j p2] [] pos')) none pos) (sRaise c) := by
  obtain ⟨C, hE⟩ := hE
  refine PSm (ps_raise hc tk (pmk_own PySem.F.excBase_ValueError hE.x hE.g hE.k (raises_own hE.b hE.t) hg hdb)) fun Dn σ H h => ?_
  obtain ⟨env, hp, r, es, hr, q⟩ := h
  exact q r H σ C Ext.refl hr es hE.g
def sTry (cls : List Str) (i : Nat) (body suite : S) : S := fun env hp => match body env hp with
  | .exc c e h => if c ∈ cls then (match suite (e.set i (some (.obj h.length))) (h ++ [.exc c]) with
    | .next e2 h2 => .next (e2.set i none) h2
    | .brk e2 h2 => .brk (e2.set i none) h2
    | .cont e2 h2 => .cont (e2.set i none) h2
    | .ret d h2 => .ret d h2
    | _ => .err) else .err
  | x => x
theorem ms_try {x n : Str} {F : Addr} {i : Nat} {cls : List Str} {body suite : List Stmt} {b0 : Stmt} {np hpos : Pos} {fb fs : S} (hs : X.stack = X.env :: X.outer) (hf : X.env.frame = some X.env.locals) (hN : X.N.Nodup) (hi : X.N[i]? = some n) (hln : X.env.kindOf n = some .local) (hc : Names X x (.ref F))
    (hx : ∀ c ∈ cls, ∀ C, X.mg c = some (.ref C) → PySem.W.exmOne X.K (.ref C) (.ref F) = some true)
    (hb : ∀ (W : WX) (pn : List (Addr × Obj)) (xe : Value → Shared → Prop), Takes (X.tr pn xe) W → MSs (X.tr pn xe) W body fb)
    (hsu : ∀ (a : Addr) (pn : List (Addr × Obj)), MSs (X.suite a pn) W0 (b0 :: suite) fs) :
    MS X W (.Try body [.ExceptHandler (some (.Name x np)) (some n) (b0 :: suite) hpos] [] [] pos) (sTry cls i fb fs) := by
  refine PSm (ps_try_keep (tb := fun W => tS X.w X.K X.mg W fb) (ts := fun a => tS X.w X.K X.mg W0 fs) hs hf hN hi hln hc hb hsu) fun Dn σ H h => ?_
  obtain ⟨env, hp, r, es, hr, q⟩ := h
  refine ⟨env, hp, r, es, hr, ?_⟩
  unfold sTry at q
  cases z : fb env hp with
  | next e h => rw [z] at q; exact q
  | ret d h => rw [z] at q; exact q
  | brk e h => rw [z] at q; exact q
  | cont e h => rw [z] at q; exact q
  | err => rw [z] at q; exact q
  | exc c e h =>
    rw [z] at q
    intro r' H' σ' C e' hr' es' m
    by_cases hcl : c ∈ cls
    · refine ⟨rfl, hx c hcl C m, fun a ha => ?_⟩
      have e2 : Ext X.K r' H' (r' ++ [a]) (upd H' a (CgO (.ref C) a)) := ext_push hr' ha
      refine ⟨e.set i (some (.obj h.length)), h ++ [.exc c], r' ++ [a], (es'.mono e2).set i (of_obj (by rw [← hr'.len]; simp)), hr_pushO (mo := .exc c) hr' ha ⟨C, m, upd_same⟩, ?_⟩
      have q1 := PostS.weaken (e'.trans e2) q
      simp only [hcl, if_true] at q1
      cases z2 : fs (e.set i (some (.obj h.length))) (h ++ [.exc c]) with
      | next e3 h3 => rw [z2] at q1; exact fun r4 H4 σ4 e4 hr4 es4 => q1 r4 H4 _ e4 hr4 (es4.none i)
      | ret d h3 => rw [z2] at q1; exact q1
      | brk e3 h3 => rw [z2] at q1; exact fun r4 H4 σ4 e4 hr4 es4 => q1 r4 H4 _ e4 hr4 (es4.none i)
      | cont e3 h3 => rw [z2] at q1; exact fun r4 H4 σ4 e4 hr4 es4 => q1 r4 H4 _ e4 hr4 (es4.none i)
      | exc c3 e3 h3 => rw [z2] at q1; exact q1.elim
      | err => rw [z2] at q1; exact q1.elim
    · simp only [hcl, if_false] at q
      exact q.elim
/-! ### isinstance of an error that was caught -/
def rIsX (K : PySem.W.Frag) : List V → Hp → VK → Prop := fun xs H Q => ∃ (a C : Addr) (c : V) (cv : Value) (b : Bool), xs = [.ref a, c] ∧ H a = some (CgO (.ref C) a) ∧ ExcC K C ∧ ClsV c cv ∧ PySem.W.kitOne K (.ref C) cv = some b ∧ Q (.bl b) H
theorem call_isX : CallR X (.builtin "isinstance") (rIsX X.K) := by
  intro pins s σ H xs us Q I r h
  obtain ⟨a, D, c, cv, b, rfl, ea, C, hcv, e, q⟩ := h
  cases r with
  | cons rx rr =>
    cases rr with
    | cons rt rr =>
      cases rr
      cases rx
      have ec := hcv.eq rt
      subst ec
      obtain ⟨⟨oe, us, hget, hz, hv⟩, _, _⟩ := (show ObjOk X.prog X.w H s.heap a (CgO (.ref D) a) from I.hok a _ ea)
      have J : PySem.W.InstAt s.heap a oe D none := by
        obtain ⟨oc, od, oda, osl⟩ := oe
        obtain ⟨h1, h2⟩ := hz
        dsimp only at h1 h2 hv
        subst h1 h2 hv
        exact ⟨hget, rfl, rfl, trivial⟩
      exact PySem.W.kia_one (PySem.W.handS_kitx_exc C.hg C.hk C.hs C.hd C.ha C.hn C.ht C.hm) I.kIn J e (fun z => nomatch z) fun tk => ⟨.bl b, H, I.kept (t' := tk) fun _ _ z => z, rfl, q⟩
/-- the classes among which it is asked -/
def isiE (cls all : List Str) (ds : List D) (h : MH) : R D := match ds with
  | [.obj n, .fn c2] => match h[n]? with
    | some (.exc c) => if c ∈ cls ∧ c2 ∈ all then .ok (.bl (decide (c = c2))) h else .err
    | _ => .err
  | [.obj n, .ty 7] => match h[n]? with
    | some (.exc c) => if c ∈ cls then .ok (.bl true) h else .err
    | _ => .err
  | _ => .err
structure ExI (K : PySem.W.Frag) (mg : Str → Option Value) (cls all : List Str) : Prop where
  c : ∀ c ∈ cls, ∀ C, mg c = some (.ref C) → ExcC K C
  i : ∀ c ∈ cls, ∀ c2 ∈ all, ∀ C C2, mg c = some (.ref C) → mg c2 = some (.ref C2) → PySem.W.kitOne K (.ref C) (.ref C2) = some (decide (c = c2))
  v : ∀ c ∈ cls, ∀ C, mg c = some (.ref C) → PySem.W.kitOne K (.ref C) (.type "ValueError") = some true
theorem v_isiE {cls all : List Str} (E : ExI X.K X.mg cls all) : PV X (rIsX X.K) (isiE cls all) := ⟨fun W σ rr H hp ds vs Q hr hv p => by
  unfold isiE at p
  split at p
  · rename_i n c2
    split at p
    · rename_i c ec
      split at p
      · rename_i hc
        obtain ⟨v, w, rfl, h1, h2⟩ := reps2 hv
        obtain ⟨a, rfl, h3⟩ := rep_obj h1
        unfold Rep at h2
        obtain ⟨C2, rfl, m2⟩ := h2
        obtain ⟨a', g1, C, m1, ea⟩ := hr.obj _ _ ec
        rw [h3] at g1; cases g1
        exact ⟨a, C, .ref C2, .ref C2, _, rfl, ea, E.c c hc.1 C m1, .own C2, E.i c hc.1 c2 hc.2 C C2 m1 m2, post_at hr p of_bl⟩
      · exact False.elim p
    · exact False.elim p
  · rename_i n
    split at p
    · rename_i c ec
      split at p
      · rename_i hc
        obtain ⟨v, w, rfl, h1, h2⟩ := reps2 hv
        obtain ⟨a, rfl, h3⟩ := rep_obj h1
        unfold Rep at h2
        subst h2
        obtain ⟨a', g1, C, m1, ea⟩ := hr.obj _ _ ec
        rw [h3] at g1; cases g1
        exact ⟨a, C, .ty "ValueError", .type "ValueError", _, rfl, ea, E.c c hc C m1, .ty _, E.v c hc C m1, post_at hr p of_bl⟩
      · exact False.elim p
    · exact False.elim p
  · exact False.elim p⟩
end
end FT
end
section
set_option maxRecDepth 100000
namespace FT
open PySem L2 PySem.Spec PyProof.Rows
set_option autoImplicit false
/-! ### texts in plain Lean -/
def splC (c : Nat) : List Nat → List (List Nat)
  | [] => [[]]
  | x :: xs => if x = c then [] :: splC c xs else match splC c xs with
    | [] => [[x]]
    | p :: r => (x :: p) :: r
theorem splC_ne (c : Nat) : ∀ s, splC c s ≠ []
  | [] => by simp [splC]
  | x :: xs => by
    unfold splC
    split
    · simp
    · split <;> simp
theorem spl_splC (c : Nat) : ∀ (s acc : List Nat), TL.spl [c] 0 acc s = match splC c s with
    | [] => [acc]
    | p :: r => (acc ++ p) :: r
  | [], acc => by simp [splC, TL.spl_nil]
  | x :: xs, acc => by
    by_cases h : x = c
    · subst h
      have h1 : TL.pre [x] (x :: xs) = true := by simp [TL.pre]
      rw [TL.spl_hit h1]
      have e : splC x (x :: xs) = [] :: splC x xs := by simp [splC]
      rw [e]
      have := spl_splC x xs []
      simp only [List.length_cons, List.length_nil, Nat.zero_add, Nat.sub_self] at this ⊢
      rw [this]
      cases z : splC x xs with
      | nil => exact absurd z (splC_ne x xs)
      | cons p r => simp
    · have h1 : TL.pre [c] (x :: xs) = false := TL.pre_of_head [] xs h
      rw [TL.spl_miss h1, spl_splC c xs (acc ++ [x])]
      cases z : splC c xs with
      | nil => exact absurd z (splC_ne c xs)
      | cons p r => simp [splC, h, z]
theorem spl_is (c : Nat) (s : List Nat) : TL.spl [c] 0 [] s = splC c s := by
  rw [spl_splC]
  cases z : splC c s with
  | nil => exact absurd z (splC_ne c s)
  | cons p r => simp
theorem split_is (c : Nat) (hc : c < 256) (s : List Nat) : Txt.split (⟨s.toArray⟩ : Str) ⟨[c].toArray⟩ = (splC c s).map fun q => (⟨q.toArray⟩ : Str) := by
  have := SX.split_S (a := s) (b := [c]) (by simp) (by simpa using hc)
  rw [spl_is] at this
  exact this
theorem cnt_is (c : Nat) : ∀ l : List Nat, cnt c l = (l.count c : Nat)
  | [] => rfl
  | x :: xs => by
    rw [cnt_cons, cnt_is c xs, List.count_cons]
    by_cases h : x = c
    · subst h; simp; omega
    · simp [h]
theorem countS_is (c : Nat) (s : List Nat) : Txt.count (⟨s.toArray⟩ : Str) ⟨[c].toArray⟩ = (s.count c : Nat) := by
  have := count_is (⟨s.toArray⟩ : Str) c
  rw [show (⟨[c].toArray⟩ : Str) = ⟨#[c]⟩ from rfl, this]
  exact cnt_is c s
theorem index_is (c : Nat) (s : List Nat) (h : c ∈ s) : ∃ rest, Builtin.Str.occurrences (⟨s.toArray⟩ : Str) ⟨[c].toArray⟩ 0 (⟨s.toArray⟩ : Str).length 1 = s.idxOf c :: rest := by
  rcases StrLaws.occ_head (⟨s.toArray⟩ : Str) ⟨#[c]⟩ 1 (Nat.le_refl 1) with ⟨h0, hn⟩ | ⟨i, r, h0, hi, hn⟩
  · exfalso
    obtain ⟨i, hi⟩ := List.mem_iff_getElem?.mp h
    exact hn i ((StrLaws.subAt_one (⟨s.toArray⟩ : Str) c i).mpr hi)
  · refine ⟨r, ?_⟩
    rw [show (⟨[c].toArray⟩ : Str) = ⟨#[c]⟩ from rfl, h0]
    have g1 : s[i]? = some c := (StrLaws.subAt_one (⟨s.toArray⟩ : Str) c i).mp hi
    have g2 : ∀ k, k < i → s[k]? ≠ some c := fun k hk z => hn k hk ((StrLaws.subAt_one (⟨s.toArray⟩ : Str) c k).mpr z)
    congr 1
    have hl : s.idxOf c < s.length := List.idxOf_lt_length_iff.mpr h
    have g3 : s[s.idxOf c]? = some c := by
      rw [List.getElem?_eq_getElem hl]; simp
    rcases Nat.lt_trichotomy (s.idxOf c) i with z | z | z
    · exact absurd g3 (g2 _ z)
    · exact z.symm
    · exfalso
      obtain ⟨hi2, hi3⟩ := List.getElem?_eq_some_iff.mp g1
      have := List.not_of_lt_findIdx (p := (· == c)) (xs := s) (i := i) z
      simp [hi3] at this
section
variable {X : Cx} {W : WX} {o e e2 : Expr} {fo f g : E D} {fl : E (List D)} {pos p apos : Pos}
/-! ### o.split(c) -/
def splitM (x y : D) (h : MH) : R (List D) := match x, y with
  | .str s, .str [c] => if s.length + 2 ≤ LIM ∧ c < 256 then .ok ((splC c s).map .str) h else .err
  | _, _ => .err
def asStrL (x : D) (k : R (List D)) : R (List D) := match x with
  | .str _ => k
  | _ => .err
def lSplit (fo f : E D) : E (List D) := fun env hp => (fo env hp).bind fun x h1 => asStrL x ((f env h1).bind fun y h2 => splitM x y h2)
theorem ml_split (ho : ME X W o fo) (he : ME X W e f) (hs : starEach [e] X.env = [(false, eval e X.env)] := by rfl) (hbase : attributeBase o "split" X.env (eval o X.env) = eval o X.env := by rfl) (hline : (apos.endLine == pos.line) = true := by rfl) :
    ML X W (.Call (.Attribute o "split" apos) [e] [] pos) (lSplit fo f) := PEm (pe_split ho he hs hbase hline) fun σ H Q h => by
  obtain ⟨env, hp, rr, es, hh, q⟩ := h
  refine ⟨env, hp, rr, es, hh, Post.bind q fun x hp1 r1 H1 v e1 hr1 rv q1 => ?_⟩
  cases x <;> try exact False.elim q1
  rename_i s
  obtain rfl := rep_str rv
  have q1' : Post X.w X.K X.mg W r1 H1 σ (LL X.K X.mg) Q ((f env hp1).bind fun y h2 => splitM (.str s) y h2) := q1
  refine ⟨⟨_, rfl⟩, env, hp1, r1, es.mono e1, hr1, Post.bind q1' fun y hp2 r2 H2 y' e2 hr2 l q2 => ?_⟩
  simp only [splitM] at q2
  split at q2
  · rename_i s' c e3
    cases e3
    obtain rfl := rep_str l
    split at q2
    · rename_i hc
      refine ⟨_, _, rfl, rfl, rfl, ?_, fun p hp => ?_⟩
      · rw [str_len]; exact hc.1
      · rw [split_is c hc.2]
        have e4 : (List.map (fun q => (⟨q.toArray⟩ : Str)) (splC c s)).map V.str = (splC c s).map fun s => V.str ⟨s.toArray⟩ := by rw [List.map_map]; rfl
        rw [e4]
        exact post_new hr2 q2 of_strs hp
    · exact False.elim q2
  · exact False.elim q2
/-! ### o.count(c), o.index(c) -/
def countM (x y : D) (h : MH) : R D := match x, y with
  | .str s, .str [c] => .ok (.int (s.count c : Nat)) h
  | _, _ => .err
def indexM (x y : D) (h : MH) : R D := match x, y with
  | .str s, .str [c] => if c ∈ s then .ok (.int (s.idxOf c : Nat)) h else .err
  | _, _ => .err
def vMS (m : D → D → MH → R D) (fo f : E D) : E D := fun env hp => (fo env hp).bind fun x h1 => asStr x ((f env h1).bind fun y h2 => m x y h2)
theorem ms_run {m : D → D → MH → R D} {r : V → List V → Hp → VK → Prop} {σ : L2.St} {H : Hp} {Q : VK} (hm : ∀ rr H hp s y v, HR X.w X.K X.mg rr hp H → Rep X.K X.mg rr H y v → Post X.w X.K X.mg W rr H σ (LV X.K X.mg) Q (m (.str s) y hp) → r (.str ⟨s.toArray⟩) [v] H Q)
    (h : tR X.w X.K X.mg W (LV X.K X.mg) (vMS m fo f) σ H Q) : tBM X.K "str" r (tR X.w X.K X.mg W (LV X.K X.mg) fo) (tCons (tR X.w X.K X.mg W (LV X.K X.mg) f) tNil) σ H Q := by
  obtain ⟨env, hp, rr, es, hh, q⟩ := h
  refine ⟨env, hp, rr, es, hh, Post.bind q fun x hp1 r1 H1 v e1 hr1 rv q1 => ?_⟩
  cases x <;> try exact False.elim q1
  rename_i s
  obtain rfl := rep_str rv
  have q1' : Post X.w X.K X.mg W r1 H1 σ (LV X.K X.mg) Q ((f env hp1).bind fun y h2 => m (.str s) y h2) := q1
  exact ⟨rfl, env, hp1, r1, es.mono e1, hr1, Post.bind q1' fun y hp2 r2 H2 y' e2 hr2 l q2 => hm r2 H2 hp2 s y y' hr2 l q2⟩
theorem me_countS (ho : ME X W o fo) (he : ME X W e f) (hbase : attributeBase o "count" X.env (eval o X.env) = eval o X.env := by rfl)
    (hfew : ((backTo pos (starEach [e] X.env)).all (fun x => !x.1) && (backToKw pos (keywordEach [] X.env)).all (fun x => x.1.isSome)
      && decide (([e] : List Expr).length + ([] : List Keyword).length + (if ([] : List Keyword).isEmpty then 0 else 1) < 30)) = true := by rfl)
    (hline : (apos.endLine == pos.line) = true := by rfl) (hs : starEach [e] X.env = (false, eval e X.env) :: starEach [] X.env := by rfl) (hplain : (backTo pos (starEach [] X.env)).any (·.1) = false := by rfl) :
    ME X W (.Call (.Attribute o "count" apos) [e] [] pos) (vMS countM fo f) := PEm (pe_bm PySem.F.plainAttrs_str PySem.F.slot_str_count PySem.F.type_str_count mt_count ho (pa_cons he pa_nil hs) hbase hfew hline hs hplain) fun σ H Q h => by
  refine ms_run (fun rr H hp s y v hr ry p => ?_) h
  simp only [countM] at p
  split at p
  · rename_i s' c e3
    cases e3
    obtain rfl := rep_str ry
    refine ⟨_, _, rfl, rfl, ?_⟩
    rw [countS_is]
    exact post_at hr p of_int
  · exact False.elim p
theorem me_indexS (ho : ME X W o fo) (he : ME X W e f) (hbase : attributeBase o "index" X.env (eval o X.env) = eval o X.env := by rfl)
    (hfew : ((backTo pos (starEach [e] X.env)).all (fun x => !x.1) && (backToKw pos (keywordEach [] X.env)).all (fun x => x.1.isSome)
      && decide (([e] : List Expr).length + ([] : List Keyword).length + (if ([] : List Keyword).isEmpty then 0 else 1) < 30)) = true := by rfl)
    (hline : (apos.endLine == pos.line) = true := by rfl) (hs : starEach [e] X.env = (false, eval e X.env) :: starEach [] X.env := by rfl) (hplain : (backTo pos (starEach [] X.env)).any (·.1) = false := by rfl) :
    ME X W (.Call (.Attribute o "index" apos) [e] [] pos) (vMS indexM fo f) := PEm (pe_bm PySem.F.plainAttrs_str PySem.F.slot_str_index PySem.F.type_str_index mt_sindex ho (pa_cons he pa_nil hs) hbase hfew hline hs hplain) fun σ H Q h => by
  refine ms_run (fun rr H hp s y v hr ry p => ?_) h
  simp only [indexM] at p
  split at p
  · rename_i s' c e3
    cases e3
    obtain rfl := rep_str ry
    split at p
    · rename_i hc
      obtain ⟨rest, ho⟩ := index_is c s hc
      exact ⟨_, _, _, rest, rfl, rfl, ho, post_at hr p of_int⟩
    · exact False.elim p
  · exact False.elim p
/-! ### methods of lists of data: index, count -/
def rCntD (K : PySem.W.Frag) : V → List V → Hp → VK → Prop := fun x xs H Q => ∃ (a : Addr) (y : V) (d : PyData) (ds : List PyData), x = V.ref a ∧ xs = [y] ∧ Dp K H (V.ref a) (.list ds) ∧ Dp K H y d ∧ SeqAt.shaped (.list ds) = true ∧ SeqAt.shaped d = true ∧ Q (.int ((ds.countP fun z => PyData.eqv z d : Nat) : Int)) H
theorem mt_cntD (hu : X.A.units + 65 < cLine) : MtR X "list.count" (rCntD X.K) := by
  intro pins s σ H x xs v us Q I rx rxs h
  obtain ⟨a, y, d, ds, rfl, rfl, hl, hy, sl, sd, q⟩ := h
  cases rx
  cases rxs with
  | cons ry rt =>
    rename_i uy ut
    cases rt
    obtain ⟨bs, r1⟩ := Dp.reads I d y uy hy ry
    have hxs : PyData.canLayAll0 ds = true := SeqAt.canLay_of_shaped sl
    have hroom : X.A.units + 1 + min (PyData.depthAll ds) d.depth < cLine := room_in_shaped sd hu
    cases hl with
    | lst hs ha =>
      obtain ⟨its, rv, ⟨⟨cls, dd, data, sls⟩, n, ho, hc, hdn, hdt⟩, hlen⟩ := I.list hs
      simp only at hc hdt
      subst hc hdt
      obtain ⟨as, h4⟩ := Dp.readsAll I ds _ its ha rv
      have hmap : its.map (SeqAt.readOf s.heap) = ds := SeqAt.readsAll_map ds its as hxs h4
      refine call_meets PySem.F.slot_list_count ⟨_, ho, rfl⟩ PySem.F.entry_list_count (PySem.F.args_list_count_2 _ _)
        (SeqAt.list_countAt a its.toArray n dd sls uy (fun u => PyData.eqv (SeqAt.readOf s.heap u) d)) ⟨ho, SeqAt.items_eqAt (vs := its.toArray) (show ReadsAll s.heap its.toArray.toList ds as from h4) r1 hxs (SeqAt.canLay_of_shaped sd) hroom, ?_⟩
      refine ⟨.int ((ds.countP fun z => PyData.eqv z d : Nat) : Int), H, I.tok _, ⟨s.toks, ?_⟩, q⟩
      show Value.int ((its.toArray.toList.countP (fun u => PyData.eqv (SeqAt.readOf s.heap u) d) : Nat) : Int) s.toks = _
      rw [← hmap, List.countP_map]
      rfl
def lstD (x y : D) (h : MH) (k : List PyData → PyData → R D) : R D := py2 x y h fun p q => match p with
  | .list ds => k ds q
  | _ => .err
def lIndexM (x y : D) (h : MH) : R D := lstD x y h fun ds d => match ds.findIdx? (fun z => PyData.eqv z d) with
  | some j => .ok (.int (j : Nat)) h
  | none => .err
def lCountM (x y : D) (h : MH) : R D := lstD x y h fun ds d => .ok (.int ((ds.countP fun z => PyData.eqv z d : Nat) : Int)) h
def vML (m : D → D → MH → R D) (fo f : E D) : E D := fun env hp => (fo env hp).bind fun x h1 => isLst x h1 ((f env h1).bind fun y h2 => m x y h2)
theorem ml_run {m : D → D → MH → R D} {r : V → List V → Hp → VK → Prop} {σ : L2.St} {H : Hp} {Q : VK} (hm : ∀ rr H hp n y a v, HR X.w X.K X.mg rr hp H → Rep X.K X.mg rr H (.obj n) (.ref a) → Rep X.K X.mg rr H y v → Post X.w X.K X.mg W rr H σ (LV X.K X.mg) Q (m (.obj n) y hp) → r (.ref a) [v] H Q)
    (h : tR X.w X.K X.mg W (LV X.K X.mg) (vML m fo f) σ H Q) : tBM X.K "list" r (tR X.w X.K X.mg W (LV X.K X.mg) fo) (tCons (tR X.w X.K X.mg W (LV X.K X.mg) f) tNil) σ H Q := by
  obtain ⟨env, hp, rr, es, hh, q⟩ := h
  refine ⟨env, hp, rr, es, hh, Post.bind q fun x hp1 r1 H1 v e1 hr1 l1 q1 => ?_⟩
  unfold isLst at q1
  split at q1
  · rename_i ds ed
    obtain ⟨q0, vs, n, rfl, rfl, g0, hn, ea, hv⟩ := lstOf_sq hr1 l1 ed
    exact ⟨.inl ⟨rfl, vs, SqL.of ea⟩, env, hp1, r1, es.mono e1, hr1, Post.bind q1 fun y hp2 r2 H2 w e2 hr2 l2 q2 => hm r2 H2 hp2 n y q0 w hr2 (Rep.mono e2 _ l1) l2 q2⟩
  · exact False.elim q1
theorem me_indexL (hu : X.A.units + 65 < cLine) (ho : ME X W o fo) (he : ME X W e f) (hbase : attributeBase o "index" X.env (eval o X.env) = eval o X.env := by rfl)
    (hfew : ((backTo pos (starEach [e] X.env)).all (fun x => !x.1) && (backToKw pos (keywordEach [] X.env)).all (fun x => x.1.isSome)
      && decide (([e] : List Expr).length + ([] : List Keyword).length + (if ([] : List Keyword).isEmpty then 0 else 1) < 30)) = true := by rfl)
    (hline : (apos.endLine == pos.line) = true := by rfl) (hs : starEach [e] X.env = (false, eval e X.env) :: starEach [] X.env := by rfl) (hplain : (backTo pos (starEach [] X.env)).any (·.1) = false := by rfl) :
    ME X W (.Call (.Attribute o "index" apos) [e] [] pos) (vML lIndexM fo f) := PEm (pe_bm PySem.F.plainAttrs_list PySem.F.slot_list_index PySem.F.type_list_index (mt_indexD hu) ho (pa_cons he pa_nil hs) hbase hfew hline hs hplain) fun σ H Q h => by
  refine ml_run (fun rr H hp n y a v hr rx ry p => ?_) h
  obtain ⟨d, e', h1, h2, h3, h4, q⟩ := py2_run hr rx ry p
  split at q
  · rename_i ds
    dsimp only at q
    split at q
    · rename_i j ej
      obtain ⟨hj, pj, nj⟩ := List.findIdx?_eq_some_iff_getElem.mp ej
      refine ⟨a, v, e', ds, j, ds[j], rfl, rfl, h1, h2, h3, h4, List.getElem?_eq_getElem hj, pj, fun m z' hm hz => ?_, post_at hr q of_int⟩
      obtain ⟨hm2, rfl⟩ := List.getElem?_eq_some_iff.mp hz
      simpa using nj m hm
    · exact False.elim q
  · exact False.elim q
theorem me_countL (hu : X.A.units + 65 < cLine) (ho : ME X W o fo) (he : ME X W e f) (hbase : attributeBase o "count" X.env (eval o X.env) = eval o X.env := by rfl)
    (hfew : ((backTo pos (starEach [e] X.env)).all (fun x => !x.1) && (backToKw pos (keywordEach [] X.env)).all (fun x => x.1.isSome)
      && decide (([e] : List Expr).length + ([] : List Keyword).length + (if ([] : List Keyword).isEmpty then 0 else 1) < 30)) = true := by rfl)
    (hline : (apos.endLine == pos.line) = true := by rfl) (hs : starEach [e] X.env = (false, eval e X.env) :: starEach [] X.env := by rfl) (hplain : (backTo pos (starEach [] X.env)).any (·.1) = false := by rfl) :
    ME X W (.Call (.Attribute o "count" apos) [e] [] pos) (vML lCountM fo f) := PEm (pe_bm PySem.F.plainAttrs_list PySem.F.slot_list_count PySem.F.type_list_count (mt_cntD hu) ho (pa_cons he pa_nil hs) hbase hfew hline hs hplain) fun σ H Q h => by
  refine ml_run (fun rr H hp n y a v hr rx ry p => ?_) h
  obtain ⟨d, e', h1, h2, h3, h4, q⟩ := py2_run hr rx ry p
  split at q
  · rename_i ds
    exact ⟨a, v, e', ds, rfl, rfl, h1, h2, h3, h4, post_at hr q of_int⟩
  · exact False.elim q
/-! ### f-strings -/
def fmtM (x : D) (h : MH) : R D := match x with
  | .str s => if s.length ≤ LIM then .ok (.str s) h else .err
  | .int i => if 0 ≤ i ∧ i < 10 ^ 18 then .ok (.str (decL i.toNat)) h else .err
  | _ => .err
def vFmt (f : E D) : E D := fun env hp => (f env hp).bind fun x h => fmtM x h
theorem me_fmt (he : ME X W e f) : ME X W (.FormattedValue e (-1) none pos) (vFmt f) := PEm (pe_fmt he) fun σ H Q h => by
  obtain ⟨env, hp, rr, es, hh, q⟩ := h
  refine ⟨env, hp, rr, es, hh, Post.bind q fun x hp1 r1 H1 v e1 hr1 rv q1 => ?_⟩
  unfold fmtM at q1
  split at q1
  · split at q1
    · rename_i hl
      obtain rfl := rep_str rv
      exact .inl ⟨_, rfl, by rw [str_len]; exact hl, post_at hr1 q1 of_str⟩
    · exact False.elim q1
  · split at q1
    · rename_i i hl
      obtain rfl := rep_int rv
      refine .inr ⟨i, rfl, ?_, ?_⟩
      · have : i.natAbs < 2 ^ 64 := by omega
        by_cases z : i.natAbs = 0
        · rw [z]; decide
        · have := (Nat.log2_lt z).mpr this
          omega
      · obtain ⟨n, rfl⟩ := Int.eq_ofNat_of_zero_le hl.1
        have e1 := dec_str n
        have e2 : ((toString ((n : Nat) : Int) : String) : Str) = ⟨(decL n).toArray⟩ := e1
        show Q (.str (Str.ofString (toString ((n : Nat) : Int)))) H1
        rw [e1]
        exact post_at hr1 q1 of_str
    · exact False.elim q1
  · exact False.elim q1
/-- the texts one behind the other -/
def fJs : List (E D) → List Nat → Ev → MH → R D
  | [], acc, _, h => .ok (.str acc) h
  | f :: fs, acc, env, h => (f env h).bind fun x h1 => match x with
    | .str s => if (acc ++ s).length ≤ LIM then fJs fs (acc ++ s) env h1 else .err
    | _ => .err
def vJs (fs : List (E D)) : E D := fun env hp => fJs fs [] env hp
inductive MJ (X : Cx) (W : WX) : List Expr → List (E D) → Prop where
  | nil : MJ X W [] []
  | cons {e : Expr} {f : E D} {es : List Expr} {fs : List (E D)} (h : ME X W e f) (r : MJ X W es fs) : MJ X W (e :: es) (f :: fs)
theorem MJ.pj {es : List Expr} {fs : List (E D)} (h : MJ X W es fs) : PJ X es (fs.map fun f => tR X.w X.K X.mg W (LV X.K X.mg) f) := by
  induction h with
  | nil => exact .nil
  | cons h _ ih => exact .cons h ih
theorem fjs_run {σ : L2.St} {Q : VK} {env : Ev} : ∀ (fs : List (E D)) (acc : List Nat) (rr : List Addr) (H : Hp) (hp : MH), ES X.K X.mg rr H env σ → HR X.w X.K X.mg rr hp H → Post X.w X.K X.mg W rr H σ (LV X.K X.mg) Q (fJs fs acc env hp) → tJs (fs.map fun f => tR X.w X.K X.mg W (LV X.K X.mg) f) ⟨acc.toArray⟩ σ H fun out H1 => Q (.str out) H1
  | [], acc, rr, H, hp, es, hr, q => post_at hr q of_str
  | f :: fs, acc, rr, H, hp, es, hr, q => by
    refine ⟨env, hp, rr, es, hr, Post.bind q fun x hp1 r1 H1 v e1 hr1 rv q1 => ?_⟩
    cases x <;> try exact False.elim q1
    rename_i s
    obtain rfl := rep_str rv
    have q2 : Post X.w X.K X.mg W r1 H1 σ (LV X.K X.mg) Q (if (acc ++ s).length ≤ LIM then fJs fs (acc ++ s) env hp1 else .err) := q1
    split at q2
    · rename_i hl
      refine ⟨_, rfl, ?_, ?_⟩
      · rw [str_app, str_len]; exact hl
      · rw [str_app]
        exact fjs_run fs (acc ++ s) r1 H1 hp1 (es.mono e1) hr1 q2
    · exact False.elim q2
theorem me_joined {v1 v2 : Expr} {rest : List Expr} {fs : List (E D)} (h : MJ X W (v1 :: v2 :: rest) fs) : ME X W (.JoinedStr (v1 :: v2 :: rest) pos) (vJs fs) := PEm (pe_joined h.pj) fun σ H Q q => by
  obtain ⟨env, hp, rr, es, hh, q⟩ := q
  exact fjs_run fs [] rr H hp es hh q
end
end FT
end
section
set_option maxRecDepth 100000
namespace FT
open PySem L2 PySem.Spec PyProof.Rows
set_option autoImplicit false
/-! ### what a dict holds -/
section
variable {κ : Type} [DecidableEq κ]
def dLook (f : D → Option κ) (k : κ) : List (D × D) → Option D
  | [] => none
  | p :: r => if f p.1 = some k then some p.2 else dLook f k r
def dHas (f : D → Option κ) (k : κ) (kvs : List (D × D)) : Bool := kvs.any fun p => decide (f p.1 = some k)
def dPut (f : D → Option κ) (key : D) (k : κ) (v : D) (kvs : List (D × D)) : List (D × D) :=
  if dHas f k kvs = true then kvs.map (fun p => if f p.1 = some k then (p.1, v) else p) else kvs ++ [(key, v)]
variable {wd : World} {K : PySem.W.Frag} {mg : Str → Option Value} {r : List Addr} {H : Hp} {f : D → Option κ}
theorem look_zip {k : κ} : ∀ {kvs : List (D × D)} {ks : List κ} {vs : List V}, kvs.map (fun p => f p.1) = ks.map some → Reps K mg r H (kvs.map (·.2)) vs →
    (dLook f k kvs = none → valV (ks.zip vs) k = none) ∧ ∀ d, dLook f k kvs = some d → ∃ v, valV (ks.zip vs) k = some v ∧ Rep K mg r H d v
  | [], ks, vs, e, h => by
    cases ks with
    | nil => exact ⟨fun _ => rfl, fun d z => by cases z⟩
    | cons k ks => simp at e
  | p :: kvs, ks, vs, e, h => by
    cases ks with
    | nil => simp at e
    | cons k0 ks =>
      simp only [List.map_cons, List.cons.injEq] at e
      rw [List.map_cons] at h
      unfold Reps at h
      obtain ⟨v, us, rfl, h1, h2⟩ := h
      obtain ⟨i1, i2⟩ := look_zip (k := k) e.2 h2
      rw [List.zip_cons_cons]
      by_cases hk : k0 = k
      · subst hk
        have e0 : dLook f k0 (p :: kvs) = some p.2 := by simp [dLook, e.1]
        rw [e0, valV_pos rfl]
        exact ⟨fun z => (by cases z), fun d z => by cases z; exact ⟨v, rfl, h1⟩⟩
      · have e0 : dLook f k (p :: kvs) = dLook f k kvs := by simp [dLook, e.1, hk]
        rw [e0, valV_neg hk]
        exact ⟨i1, i2⟩
theorem has_zip {k : κ} : ∀ {kvs : List (D × D)} {ks : List κ} {vs : List V}, kvs.map (fun p => f p.1) = ks.map some → vs.length = kvs.length → ((ks.zip vs).any fun kv => decide (kv.1 = k)) = dHas f k kvs
  | [], ks, vs, e, h => by
    cases ks with
    | nil => rfl
    | cons k ks => simp at e
  | p :: kvs, ks, vs, e, h => by
    cases ks with
    | nil => simp at e
    | cons k0 ks =>
      cases vs with
      | nil => simp at h
      | cons v vs =>
        simp only [List.map_cons, List.cons.injEq] at e
        have ih := has_zip (k := k) (vs := vs) e.2 (by simpa using h)
        simp only [dHas] at ih
        simp only [List.zip_cons_cons, List.any_cons, dHas, e.1, Option.some.injEq]
        rw [ih]
theorem rep_zip {k : κ} {d : D} {v : V} (hv : Rep K mg r H d v) : ∀ {kvs : List (D × D)} {ks : List κ} {vs : List V}, kvs.map (fun p => f p.1) = ks.map some → Reps K mg r H (kvs.map (·.2)) vs →
    ∃ vs', ((ks.zip vs).map fun kv => if kv.1 = k then (kv.1, v) else kv) = ks.zip vs' ∧ Reps K mg r H ((kvs.map (fun p => if f p.1 = some k then (p.1, d) else p)).map (·.2)) vs'
  | [], ks, vs, e, h => by
    cases ks with
    | nil => exact ⟨[], rfl, reps_nil⟩
    | cons k ks => simp at e
  | p :: kvs, ks, vs, e, h => by
    cases ks with
    | nil => simp at e
    | cons k0 ks =>
      simp only [List.map_cons, List.cons.injEq] at e
      rw [List.map_cons] at h
      unfold Reps at h
      obtain ⟨u, us, rfl, h1, h2⟩ := h
      obtain ⟨vs', i1, i2⟩ := rep_zip (k := k) hv e.2 h2
      by_cases hk : k0 = k
      · subst hk
        refine ⟨v :: vs', ?_, ?_⟩
        · simp only [List.zip_cons_cons, List.map_cons, if_true, i1]
        · simp only [List.map_cons, e.1, if_true]
          exact reps_cons hv i2
      · refine ⟨u :: vs', ?_, ?_⟩
        · simp only [List.zip_cons_cons, List.map_cons, hk, if_false, i1]
        · have : ¬ (some k0 = some k) := fun z => hk (by injection z)
          simp only [List.map_cons, e.1, this, if_false]
          exact reps_cons h1 i2
theorem fst_put {k : κ} {d : D} : ∀ kvs : List (D × D), (kvs.map (fun p => if f p.1 = some k then (p.1, d) else p)).map (·.1) = kvs.map (·.1)
  | [] => rfl
  | p :: kvs => by
    have ih := fst_put (k := k) (d := d) kvs
    simp only [List.map_cons, ih]
    by_cases h : f p.1 = some k
    · rw [if_pos h]
    · rw [if_neg h]
theorem fst_putF {k : κ} {d : D} (kvs : List (D × D)) : (kvs.map (fun p => if f p.1 = some k then (p.1, d) else p)).map (fun p => f p.1) = kvs.map (fun p => f p.1) := by
  have h1 := congrArg (List.map f) (fst_put (f := f) (k := k) (d := d) kvs)
  simp only [List.map_map] at h1 ⊢
  exact h1
theorem put_zip {k : κ} {key d : D} {v : V} (hk : f key = some k) (hv : Rep K mg r H d v) {kvs : List (D × D)} {ks : List κ} {vs : List V} (e : kvs.map (fun p => f p.1) = ks.map some) (h : Reps K mg r H (kvs.map (·.2)) vs) :
    ∃ (ks' : List κ) (vs' : List V), putK (ks.zip vs) k v = ks'.zip vs' ∧ (dPut f key k d kvs).map (fun p => f p.1) = ks'.map some ∧ Reps K mg r H ((dPut f key k d kvs).map (·.2)) vs' := by
  have hl : vs.length = kvs.length := by rw [reps_len h, List.length_map]
  unfold putK dPut
  rw [has_zip e hl]
  split
  · obtain ⟨vs', i1, i2⟩ := rep_zip (k := k) hv e h
    exact ⟨ks, vs', i1, (fst_putF kvs).trans e, i2⟩
  · refine ⟨ks ++ [k], vs ++ [v], ?_, ?_, ?_⟩
    · rw [List.zip_append (by
        have := congrArg List.length e
        simp only [List.length_map] at this
        omega)]
      rfl
    · simp [e, hk]
    · rw [List.map_append]
      exact reps_append h (reps_cons hv reps_nil)
theorem dPut_len {k : κ} {key d : D} {kvs : List (D × D)} : (dPut f key k d kvs).length ≤ kvs.length + 1 := by
  unfold dPut
  split
  · simp
  · simp
end
/-! ### keys that are tuples -/
section
variable {X : Cx} {pins : List (Addr × Obj)} {σ : L2.St} {H : Hp} {s : Shared} {rr : List Addr}
theorem key_is (I : Inv X pins σ H s) : ∀ (n : Nat) (d : D) (k : NestedKey) (v : V) (u : Value), keyF n d = some k → Rep X.K X.mg rr H d v → RelV v u → NestedIs s.heap k u ∧ k.depth ≤ n := by
  intro n
  induction n with
  | zero =>
    intro d k v u e h ru
    cases d with
    | non => cases e; rw [rep_non h] at ru; cases ru; exact ⟨.none, Nat.zero_le _⟩
    | bl b => cases e; rw [rep_bl h] at ru; cases ru; exact ⟨.bool rfl, Nat.zero_le _⟩
    | int i => cases e; rw [rep_int h] at ru; obtain ⟨t, rfl⟩ := ru; exact ⟨.int i t, Nat.zero_le _⟩
    | str x => cases e; rw [rep_str h] at ru; obtain ⟨t, rfl⟩ := ru; exact ⟨.text _ t, Nat.zero_le _⟩
    | tup ds => cases e
    | obj n => cases e
    | fn x => cases e
    | ty n => cases e
    | rol ds => cases e
  | succ m ih =>
    intro d k v u e h ru
    cases d with
    | non => cases e; rw [rep_non h] at ru; cases ru; exact ⟨.none, Nat.zero_le _⟩
    | bl b => cases e; rw [rep_bl h] at ru; cases ru; exact ⟨.bool rfl, Nat.zero_le _⟩
    | int i => cases e; rw [rep_int h] at ru; obtain ⟨t, rfl⟩ := ru; exact ⟨.int i t, Nat.zero_le _⟩
    | str x => cases e; rw [rep_str h] at ru; obtain ⟨t, rfl⟩ := ru; exact ⟨.text _ t, Nat.zero_le _⟩
    | obj n => cases e
    | fn x => cases e
    | ty n => cases e
    | rol ds => cases e
    | tup ds =>
      have e' : (allSome (keyF m) ds).map NestedKey.tup = some k := e
      obtain ⟨ks, ek, rfl⟩ := Option.map_eq_some_iff.mp e'
      obtain ⟨a, vs, rfl, hs, hv⟩ := rep_tup h
      cases ru
      obtain ⟨its, rv, ⟨o, ho, hc, nn, hd⟩, hlen⟩ := I.tuple hs
      have all : ∀ (ds : List D) (ks : List NestedKey) (vs : List V) (its : List Value), allSome (keyF m) ds = some ks → Reps X.K X.mg rr H ds vs → Vals vs its → NestedAll s.heap ks its ∧ NestedKey.depthAll ks ≤ m := by
        intro ds
        induction ds with
        | nil =>
          intro ks vs its ek hv rv
          cases ek
          unfold Reps at hv
          subst hv
          cases rv
          exact ⟨.nil, Nat.zero_le _⟩
        | cons d ds ih2 =>
          intro ks vs its ek hv rv
          unfold allSome at ek
          split at ek
          · rename_i y ys e1 e2
            cases ek
            unfold Reps at hv
            obtain ⟨w, ws, rfl, h1, h2⟩ := hv
            cases rv with
            | cons r1 r2 =>
              obtain ⟨g1, g2⟩ := ih d y w _ e1 h1 r1
              obtain ⟨g3, g4⟩ := ih2 ys ws _ e2 h2 r2
              exact ⟨.cons g1 g3, Nat.max_le.mpr ⟨g2, g4⟩⟩
          · cases ek
      obtain ⟨g1, g2⟩ := all ds ks vs its ek hv rv
      refine ⟨.tup ho hc hd (by simpa using g1), ?_⟩
      show NestedKey.depthAll ks + 1 ≤ m + 1
      omega
abbrev NE := NestedKey × Addr × V
abbrev NP : List NE → List (NestedKey × Addr × Value) → Prop := Paired fun p q => p.1 = q.1 ∧ p.2.1 = q.2.1 ∧ RelV p.2.2 q.2.2
theorem nd_of {a : Addr} {kvs : List (D × D)} {ks : List NestedKey} {as : List Addr} {vs : List V} {ob : Option Obj} (I : Inv X pins σ H s) (ha : H a = some (NdO X.w a (ks.zip (as.zip vs))) ∨ ∃ ob, H a = some (.frz ob (NdO X.w a (ks.zip (as.zip vs))))) (e : kvs.map (fun p => keyOf p.1) = ks.map some) (h1 : Reps X.K X.mg rr H (kvs.map (·.1)) (as.map .ref)) :
    ∃ xs, NP (ks.zip (as.zip vs)) xs ∧ s.heap.DictOfH (nestedKind X.prog X.w) a xs ∧ (a == sysModules) = false ∧ (ks.zip (as.zip vs)).length ≤ sizeLine := by
  have hok : ObjOk X.prog X.w H s.heap a (NdO X.w a (ks.zip (as.zip vs))) := by
    rcases ha with ha | ⟨ob, ha⟩
    · exact I.hok a _ ha
    · exact (I.hok a _ ha).2
  obtain ⟨⟨xs, pp, hs, hl, o, es', ep, g1, g2, g3, g4, g5⟩, _, _⟩ := hok
  refine ⟨xs, pp, ⟨o, es', ep, g1, g2, g3, g4, ?_, g5⟩, hs, hl⟩
  have key : ∀ (l : List (D × D)) (ks : List NestedKey) (as : List Addr) (vs : List V) (xs : List (NestedKey × Addr × Value)), l.map (fun p => keyOf p.1) = ks.map some → Reps X.K X.mg rr H (l.map (·.1)) (as.map .ref) → NP (ks.zip (as.zip vs)) xs → ∀ x ∈ xs, (nestedKind X.prog X.w).is s.heap x.1 x.2.1 := by
    intro l
    induction l with
    | nil =>
      intro ks as vs xs e h pp x hx
      cases ks with
      | cons _ _ => simp at e
      | nil => cases pp; cases hx
    | cons p l ih =>
      intro ks as vs xs e h pp x hx
      cases ks with
      | nil => simp at e
      | cons k ks =>
        simp only [List.map_cons, List.cons.injEq] at e
        rw [List.map_cons] at h
        unfold Reps at h
        obtain ⟨v, us, ev, h1, h2⟩ := h
        cases as with
        | nil => simp at ev
        | cons a as =>
          rw [List.map_cons] at ev
          injection ev with e1 e2
          subst e1 e2
          cases vs with
          | nil => rw [List.zip_nil_right, List.zip_nil_right] at pp; cases pp; cases hx
          | cons w vs =>
            rw [List.zip_cons_cons, List.zip_cons_cons] at pp
            cases pp with
            | cons q1 q2 =>
              rcases List.mem_cons.mp hx with rfl | hx
              · obtain ⟨z1, z2, _⟩ := q1
                rw [← z1, ← z2]
                exact key_is I 8 p.1 k (.ref a) (.ref a) e.1 h1 rfl
              · exact ih ks as vs _ e.2 h2 q2 x hx
  exact key kvs ks as vs xs e h1 pp
theorem np_at {k : NestedKey} : ∀ {es : List NE} {xs : List (NestedKey × Addr × Value)}, NP es xs → ((es.find? fun e => decide (e.1 = k)) = none → atKey xs k = none) ∧ ∀ e, (es.find? fun e => decide (e.1 = k)) = some e → ∃ u, atKey xs k = some (e.2.1, u) ∧ RelV e.2.2 u
  | _, _, .nil => ⟨fun _ => rfl, fun _ z => by cases z⟩
  | _, _, @Paired.cons _ _ _ p q es xs h t => by
    obtain ⟨i1, i2⟩ := np_at (k := k) t
    by_cases hk : p.1 = k
    · have e1 : ((p :: es).find? fun e => decide (e.1 = k)) = some p := by simp [List.find?_cons, hk]
      have e2 : atKey (q :: xs) k = some q.2 := by simp [atKey, List.find?_cons, ← h.1, hk]
      rw [e1, e2]
      exact ⟨fun z => (by cases z), fun e z => by cases z; exact ⟨q.2.2, by rw [h.2.1], h.2.2⟩⟩
    · have e1 : ((p :: es).find? fun e => decide (e.1 = k)) = es.find? fun e => decide (e.1 = k) := by simp [List.find?_cons, hk]
      have e2 : atKey (q :: xs) k = atKey xs k := by
        have : ¬ q.1 = k := by rw [← h.1]; exact hk
        simp [atKey, List.find?_cons, this]
      rw [e1, e2]
      exact ⟨i1, i2⟩
def putN (es : List NE) (k : NestedKey) (a : Addr) (v : V) : List NE := if (es.any fun e => decide (e.1 = k)) = true then es.map (fun e => if e.1 = k then (e.1, e.2.1, v) else e) else es ++ [(k, a, v)]
theorem np_any {k : NestedKey} : ∀ {es : List NE} {xs : List (NestedKey × Addr × Value)}, NP es xs → (es.any fun e => decide (e.1 = k)) = (atKey xs k).isSome
  | _, _, .nil => rfl
  | _, _, @Paired.cons _ _ _ p q es xs h t => by
    have ih := np_any (k := k) t
    by_cases hk : p.1 = k
    · have e2 : atKey (q :: xs) k = some q.2 := by simp [atKey, List.find?_cons, ← h.1, hk]
      rw [e2]; simp [hk]
    · have e2 : atKey (q :: xs) k = atKey xs k := by
        have : ¬ q.1 = k := by rw [← h.1]; exact hk
        simp [atKey, List.find?_cons, this]
      rw [e2, ← ih]; simp [hk]
theorem np_put {k : NestedKey} {a : Addr} {v : V} {u : Value} (ru : RelV v u) {es : List NE} {xs : List (NestedKey × Addr × Value)} (h : NP es xs) : NP (putN es k a v) (storedH xs k a u) := by
  unfold putN storedH
  rw [np_any h]
  split
  · induction h with
    | nil => exact .nil
    | @cons p q es xs h t ih =>
      rename_i hs
      have map : ∀ {es : List NE} {xs : List (NestedKey × Addr × Value)}, NP es xs → NP (es.map fun e => if e.1 = k then (e.1, e.2.1, v) else e) (xs.map (putAt k u)) := by
        intro es xs h
        induction h with
        | nil => exact .nil
        | @cons p q es xs h t ih =>
          rw [List.map_cons, List.map_cons]
          refine .cons ?_ ih
          unfold putAt
          by_cases hk : p.1 = k
          · rw [if_pos hk, if_pos (h.1 ▸ hk)]; exact ⟨h.1, h.2.1, ru⟩
          · rw [if_neg hk, if_neg (h.1 ▸ hk)]; exact h
      exact map (.cons h t)
  · have app : ∀ {es : List NE} {xs : List (NestedKey × Addr × Value)}, NP es xs → NP (es ++ [(k, a, v)]) (xs ++ [(k, a, u)]) := by
      intro es xs h
      induction h with
      | nil => exact .cons ⟨rfl, rfl, ru⟩ .nil
      | cons h t ih => exact .cons h ih
    exact app h
end
section
variable {K : PySem.W.Frag} {mg : Str → Option Value} {r : List Addr} {H : Hp}
theorem look_zipN {k : NestedKey} : ∀ {kvs : List (D × D)} {ks : List NestedKey} {as : List Addr} {vs : List V}, kvs.map (fun p => keyOf p.1) = ks.map some → as.length = kvs.length → Reps K mg r H (kvs.map (·.2)) vs →
    (dLook keyOf k kvs = none → ((ks.zip (as.zip vs)).find? fun e => decide (e.1 = k)) = none) ∧ ∀ d, dLook keyOf k kvs = some d → ∃ e, ((ks.zip (as.zip vs)).find? fun e => decide (e.1 = k)) = some e ∧ Rep K mg r H d e.2.2
  | [], ks, as, vs, e, hl, h => by
    cases ks with
    | nil => exact ⟨fun _ => rfl, fun d z => by cases z⟩
    | cons k ks => simp at e
  | p :: kvs, ks, as, vs, e, hl, h => by
    cases ks with
    | nil => simp at e
    | cons k0 ks =>
      cases as with
      | nil => simp at hl
      | cons a as =>
        simp only [List.map_cons, List.cons.injEq] at e
        rw [List.map_cons] at h
        unfold Reps at h
        obtain ⟨v, us, rfl, h1, h2⟩ := h
        obtain ⟨i1, i2⟩ := look_zipN (k := k) (as := as) e.2 (by simpa using hl) h2
        rw [List.zip_cons_cons, List.zip_cons_cons]
        by_cases hk : k0 = k
        · subst hk
          have e0 : dLook keyOf k0 (p :: kvs) = some p.2 := by simp [dLook, e.1]
          rw [e0]
          simp only [List.find?_cons, decide_true]
          exact ⟨fun z => (by cases z), fun d z => by cases z; exact ⟨_, rfl, h1⟩⟩
        · have e0 : dLook keyOf k (p :: kvs) = dLook keyOf k kvs := by simp [dLook, e.1, hk]
          rw [e0]
          simp only [List.find?_cons, hk, decide_false]
          exact ⟨i1, i2⟩
theorem has_zipN {k : NestedKey} : ∀ {kvs : List (D × D)} {ks : List NestedKey} {as : List Addr} {vs : List V}, kvs.map (fun p => keyOf p.1) = ks.map some → as.length = kvs.length → vs.length = kvs.length → ((ks.zip (as.zip vs)).any fun e => decide (e.1 = k)) = dHas keyOf k kvs
  | [], ks, as, vs, e, h, h' => by
    cases ks with
    | nil => rfl
    | cons k ks => simp at e
  | p :: kvs, ks, as, vs, e, h, h' => by
    cases ks with
    | nil => simp at e
    | cons k0 ks =>
      cases vs with
      | nil => simp at h'
      | cons v vs =>
        cases as with
        | nil => simp at h
        | cons a as =>
          simp only [List.map_cons, List.cons.injEq] at e
          have ih := has_zipN (k := k) (as := as) (vs := vs) e.2 (by simpa using h) (by simpa using h')
          simp only [dHas] at ih
          simp only [List.zip_cons_cons, List.any_cons, dHas, e.1, Option.some.injEq]
          rw [ih]
theorem rep_zipN {k : NestedKey} {d : D} {v : V} (hv : Rep K mg r H d v) : ∀ {kvs : List (D × D)} {ks : List NestedKey} {as : List Addr} {vs : List V}, kvs.map (fun p => keyOf p.1) = ks.map some → as.length = kvs.length → Reps K mg r H (kvs.map (·.2)) vs →
    ∃ vs', ((ks.zip (as.zip vs)).map fun e => if e.1 = k then (e.1, e.2.1, v) else e) = ks.zip (as.zip vs') ∧ Reps K mg r H ((kvs.map (fun p => if keyOf p.1 = some k then (p.1, d) else p)).map (·.2)) vs'
  | [], ks, as, vs, e, hl, h => by
    cases ks with
    | nil => exact ⟨[], rfl, reps_nil⟩
    | cons k ks => simp at e
  | p :: kvs, ks, as, vs, e, hl, h => by
    cases ks with
    | nil => simp at e
    | cons k0 ks =>
      cases as with
      | nil => simp at hl
      | cons a as =>
        simp only [List.map_cons, List.cons.injEq] at e
        rw [List.map_cons] at h
        unfold Reps at h
        obtain ⟨u, us, rfl, h1, h2⟩ := h
        obtain ⟨vs', i1, i2⟩ := rep_zipN (k := k) (as := as) hv e.2 (by simpa using hl) h2
        by_cases hk : k0 = k
        · subst hk
          refine ⟨v :: vs', ?_, ?_⟩
          · simp only [List.zip_cons_cons, List.map_cons, if_true, i1]
          · simp only [List.map_cons, e.1, if_true]
            exact reps_cons hv i2
        · refine ⟨u :: vs', ?_, ?_⟩
          · simp only [List.zip_cons_cons, List.map_cons, hk, if_false, i1]
          · have : ¬ (some k0 = some k) := fun z => hk (by injection z)
            simp only [List.map_cons, e.1, this, if_false]
            exact reps_cons h1 i2
theorem put_zipN {k : NestedKey} {key d : D} {a : Addr} {v : V} (hk : keyOf key = some k) (hkey : Rep K mg r H key (.ref a)) (hv : Rep K mg r H d v) {kvs : List (D × D)} {ks : List NestedKey} {as : List Addr} {vs : List V} (e : kvs.map (fun p => keyOf p.1) = ks.map some) (h1 : Reps K mg r H (kvs.map (·.1)) (as.map .ref)) (h : Reps K mg r H (kvs.map (·.2)) vs) :
    ∃ (ks' : List NestedKey) (as' : List Addr) (vs' : List V), putN (ks.zip (as.zip vs)) k a v = ks'.zip (as'.zip vs') ∧ (dPut keyOf key k d kvs).map (fun p => keyOf p.1) = ks'.map some ∧ Reps K mg r H ((dPut keyOf key k d kvs).map (·.1)) (as'.map .ref) ∧ Reps K mg r H ((dPut keyOf key k d kvs).map (·.2)) vs' := by
  have hl : vs.length = kvs.length := by rw [reps_len h, List.length_map]
  have hla : as.length = kvs.length := by
    have := reps_len h1
    simpa using this
  unfold putN dPut
  rw [has_zipN e hla hl]
  split
  · obtain ⟨vs', i1, i2⟩ := rep_zipN (k := k) hv e hla h
    exact ⟨ks, as, vs', i1, (fst_putF kvs).trans e, by rw [fst_put]; exact h1, i2⟩
  · refine ⟨ks ++ [k], as ++ [a], vs ++ [v], ?_, ?_, ?_, ?_⟩
    · have hks : ks.length = kvs.length := by
        have := congrArg List.length e
        simp only [List.length_map] at this
        omega
      rw [List.zip_append (l₁ := as) (by omega), List.zip_append (by rw [List.length_zip]; omega)]
      rfl
    · simp [e, hk]
    · rw [List.map_append, List.map_append]
      exact reps_append h1 (reps_cons hkey reps_nil)
    · rw [List.map_append]
      exact reps_append h (reps_cons hv reps_nil)
end
end FT
end
section
set_option maxRecDepth 100000
namespace FT
open PySem L2 PySem.Spec PyProof.Rows
set_option autoImplicit false
/-! ### dicts: reading, storing -/
def dGetM (x key : D) (h : MH) : Option (Option D) := match x with
  | .obj n => match h[n]? with
    | some (.dic kvs) => (kOf key).map fun k => dLook kOf k kvs
    | some (.dlk kvs) => (kOf key).map fun k => dLook kOf k kvs
    | some (.dik kvs) => match key with
      | .tup ds => (keyOf (.tup ds)).map fun k => dLook keyOf k kvs
      | _ => none
    | _ => none
  | _ => none
def isDic (x : D) (h : MH) : Bool := match x with
  | .obj n => match h[n]? with
    | some (.dic _) => true
    | some (.dik _) => true
    | _ => false
  | _ => false
def inDM (key x : D) (h : MH) : R D := match dGetM x key h with
  | some o => .ok (.bl o.isSome) h
  | none => .err
def notInDM (key x : D) (h : MH) : R D := match dGetM x key h with
  | some o => .ok (.bl (!o.isSome)) h
  | none => .err
def ixDM (x key : D) (h : MH) : R D := match dGetM x key h with
  | some (some d) => .ok d h
  | _ => .err
def getDM (x key dflt : D) (h : MH) : R D := match dGetM x key h with
  | some o => .ok (o.getD dflt) h
  | none => .err
def putDM (x key v : D) (h : MH) : Option MH := match x with
  | .obj n => match h[n]? with
    | some (.dic kvs) => match kOf key with
      | some k => if kvs.length < LIM then some (h.set n (.dic (dPut kOf key k v kvs))) else none
      | none => none
    | some (.dik kvs) => match key with
      | .tup ds => match keyOf (.tup ds) with
        | some k => if kvs.length < LIM then some (h.set n (.dik (dPut keyOf (.tup ds) k v kvs))) else none
        | none => none
      | _ => none
    | _ => none
  | _ => none
section
variable {X : Cx} {pins : List (Addr × Obj)} {σ : L2.St} {H : Hp} {s : Shared} {rr : List Addr} {hp : MH} {A : Around} {E : Value → Shared → Prop}
theorem kOf_rep {K : PySem.W.Frag} {mg : Str → Option Value} {d : D} {k : Key} {v : V} (e : kOf d = some k) (h : Rep K mg rr H d v) : v = kV k := by
  cases d with
  | int i => cases e; exact rep_int h
  | str s => cases e; exact rep_str h
  | _ => cases e
theorem nroom (hu : A.units + 64 < cLine) : (nestedKind X.prog X.w).room A.in1 := by
  show A.in1.units + 8 < cLine
  have : A.in1.units = A.units + 1 := rfl
  omega
theorem nroom0 (hu : A.units + 64 < cLine) : (nestedKind X.prog X.w).room A := by
  show A.units + 8 < cLine
  omega
/-- what is read of a dict: it is at a, and y's value is known -/
structure Got (X : Cx) (pins : List (Addr × Obj)) (σ : L2.St) (H : Hp) (rr : List Addr) (a : Addr) (y : V) (o : Option D) : Prop where
  ty : ∀ s, Inv X pins σ H s → s.TypeIs (.ref a) "dict" ∧ (∀ b, Value.ref a = .ref b → ∃ ob, s.heap.get? b = some ob ∧ ob.dict = none)
  in_ : ∀ {A : Around} {E : Value → Shared → Prop} {Q : Value → Shared → Prop} (s : Shared) (u : Value), A.units + 64 < cLine → Inv X pins σ H s → RelV y u → (∀ s', Inv X pins σ H s' → Q (.bool o.isSome) s') → wpAny (model X.prog X.w) A (compareOp .In u (.ref a)) Q E s
  notIn : ∀ {A : Around} {E : Value → Shared → Prop} {Q : Value → Shared → Prop} (s : Shared) (u : Value), A.units + 64 < cLine → Inv X pins σ H s → RelV y u → (∀ s', Inv X pins σ H s' → Q (.bool (!o.isSome)) s') → wpAny (model X.prog X.w) A (compareOp .NotIn u (.ref a)) Q E s
  item : ∀ {A : Around} {E : Value → Shared → Prop} {Q : Value → Shared → Prop} (s : Shared) (u : Value) (d : D), A.units + 64 < cLine → Inv X pins σ H s → RelV y u → o = some d → (∀ v w' s', Inv X pins σ H s' → Rep X.K X.mg rr H d v → RelV v w' → Q w' s') → wpAny (model X.prog X.w) A (getItem (.ref a) u) Q E s
  get2 : ∀ {A : Around} {E : Value → Shared → Prop} {Q : Value → Shared → Prop} (s : Shared) (u r : Value) (z : V) (dz : D), A.units + 64 < cLine → Inv X pins σ H s → RelV y u → RelV z r → Rep X.K X.mg rr H dz z → (∀ v w' s', Inv X pins σ H s' → Rep X.K X.mg rr H (o.getD dz) v → RelV v w' → Q w' s') → wpAny (model X.prog X.w) A (call (.builtin "dict.get") [.ref a, u, r]) Q E s
theorem got_k {a : Addr} {kvs : List (D × D)} {ks : List Key} {vs : List V} {k : Key} (ha : Rd H a (.dK (ks.zip vs))) (e : kvs.map (fun p => kOf p.1) = ks.map some) (hv : Reps X.K X.mg rr H (kvs.map (·.2)) vs) : Got X pins σ H rr a (kV k) (dLook kOf k kvs) := by
  obtain ⟨z1, z2⟩ := look_zip (k := k) e hv
  have g : DGet H a (kV k) (valV (ks.zip vs) k) := .inl ⟨_, k, ha, rfl, rfl⟩
  have iss : (valV (ks.zip vs) k).isSome = (dLook kOf k kvs).isSome := by
    cases q : dLook kOf k kvs with
    | none => rw [z1 q]; rfl
    | some d => obtain ⟨v, ev, _⟩ := z2 d q; rw [ev]; rfl
  refine ⟨fun s I => ?_, fun s u hu I ru q => ?_, fun s u hu I ru q => ?_, fun s u d hu I ru ed q => ?_, fun s u r z dz hu I ru rz hz q => ?_⟩
  · obtain ⟨t1, t2, _⟩ := isD_at I (.inl ⟨_, ha⟩)
    exact ⟨t1, t2⟩
  · exact d_in (by omega) I g ru fun s' I' => by rw [iss]; exact q s' I'
  · exact d_notIn (by omega) I g ru fun s' I' => by rw [iss]; exact q s' I'
  · obtain ⟨v, ev, rv⟩ := z2 d ed
    rw [ev] at g
    exact d_getItem (by omega) I g ru fun w' s' I' rw' => q v w' s' I' rv rw'
  · refine d_get2 (by omega) I g ru rz fun w' s' I' rw' => ?_
    cases eq : dLook kOf k kvs with
    | none =>
      rw [eq] at q
      rw [z1 eq] at rw'
      exact q z w' s' I' hz rw'
    | some d =>
      obtain ⟨v, ev, rv⟩ := z2 d eq
      rw [eq] at q
      rw [ev] at rw'
      exact q v w' s' I' rv rw'
theorem got_n {a b : Addr} {key : D} {kvs : List (D × D)} {ks : List NestedKey} {as : List Addr} {vs : List V} {k : NestedKey} (ha : H a = some (NdO X.w a (ks.zip (as.zip vs))) ∨ ∃ ob, H a = some (.frz ob (NdO X.w a (ks.zip (as.zip vs))))) (e : kvs.map (fun p => keyOf p.1) = ks.map some) (h1 : Reps X.K X.mg rr H (kvs.map (·.1)) (as.map .ref)) (hv : Reps X.K X.mg rr H (kvs.map (·.2)) vs)
    (hk : keyOf key = some k) (hkey : Rep X.K X.mg rr H key (.ref b)) : Got X pins σ H rr a (.ref b) (dLook keyOf k kvs) := by
  have hla : as.length = kvs.length := by
    have := reps_len h1
    simpa using this
  obtain ⟨z1, z2⟩ := look_zipN (k := k) (as := as) e hla hv
  have val : ∀ {xs : List (NestedKey × Addr × Value)}, NP (ks.zip (as.zip vs)) xs → (dLook keyOf k kvs = none → valueAt (pairsH xs) k = none) ∧ ∀ d, dLook keyOf k kvs = some d → ∃ v u, valueAt (pairsH xs) k = some u ∧ RelV v u ∧ Rep X.K X.mg rr H d v := by
    intro xs pp
    obtain ⟨i1, i2⟩ := np_at (k := k) pp
    rw [valueAt_pairsH]
    refine ⟨fun z => by rw [i1 (z1 z)]; rfl, fun d z => ?_⟩
    obtain ⟨en, e1, e2⟩ := z2 d z
    obtain ⟨u, e3, e4⟩ := i2 en e1
    exact ⟨en.2.2, u, by rw [e3]; rfl, e4, e2⟩
  have iss : ∀ {xs : List (NestedKey × Addr × Value)}, NP (ks.zip (as.zip vs)) xs → (valueAt (pairsH xs) k).isSome = (dLook keyOf k kvs).isSome := by
    intro xs pp
    obtain ⟨i1, i2⟩ := val pp
    cases q : dLook keyOf k kvs with
    | none => rw [i1 q]; rfl
    | some d => obtain ⟨v, u, ev, _⟩ := i2 d q; rw [ev]; rfl
  refine ⟨fun s I => ?_, fun s u hu I ru q => ?_, fun s u hu I ru q => ?_, fun s u d hu I ru ed q => ?_, fun s u r z dz hu I ru rz hz q => ?_⟩
  · obtain ⟨xs, pp, hd, hs, hl⟩ := nd_of (ob := none) I ha e h1
    refine ⟨hd.typeIs, fun b eb => ?_⟩
    cases eb
    obtain ⟨o, es, ep, ho, hx, _⟩ := hd
    exact ⟨o, ho, hx.2.1⟩
  · obtain ⟨xs, pp, hd, hs, hl⟩ := nd_of (ob := none) I ha e h1
    cases ru
    refine in_keyed (knd := nestedKind X.prog X.w) (nroom (X := X) hu) (key_is I 8 key k (.ref b) (.ref b) hk hkey rfl) hs ⟨xs, hd, rfl⟩ ?_
    rw [iss pp]
    exact q _ (I.tok _)
  · obtain ⟨xs, pp, hd, hs, hl⟩ := nd_of (ob := none) I ha e h1
    cases ru
    refine notIn_keyed (knd := nestedKind X.prog X.w) (nroom (X := X) hu) (key_is I 8 key k (.ref b) (.ref b) hk hkey rfl) hs ⟨xs, hd, rfl⟩ ?_
    rw [iss pp]
    exact q _ (I.tok _)
  · obtain ⟨xs, pp, hd, hs, hl⟩ := nd_of (ob := none) I ha e h1
    cases ru
    obtain ⟨v, u, ev, rv, rd⟩ := (val pp).2 d ed
    exact getItem_keyed (knd := nestedKind X.prog X.w) (nroom (X := X) hu) (key_is I 8 key k (.ref b) (.ref b) hk hkey rfl) ⟨xs, hd, rfl⟩ ev (q v u _ (I.tok _) rd rv)
  · obtain ⟨xs, pp, hd, hs, hl⟩ := nd_of (ob := none) I ha e h1
    cases ru
    refine getOr_keyed (knd := nestedKind X.prog X.w) (nroom (X := X) hu) (key_is I 8 key k (.ref b) (.ref b) hk hkey rfl) hs ⟨xs, hd, rfl⟩ ?_
    cases eq : dLook keyOf k kvs with
    | none =>
      rw [(val pp).1 eq]
      rw [eq] at q
      exact q z r _ (I.tok _) hz rz
    | some d =>
      obtain ⟨v, u, ev, rv, rd⟩ := (val pp).2 d eq
      rw [ev]
      rw [eq] at q
      exact q v u _ (I.tok _) rd rv
theorem got_of {x key : D} {v y : V} {o : Option D} (hr : HR X.w X.K X.mg rr hp H) (rx : Rep X.K X.mg rr H x v) (ry : Rep X.K X.mg rr H key y) (e : dGetM x key hp = some o) : ∃ a, v = .ref a ∧ Got X pins σ H rr a y o := by
  unfold dGetM at e
  split at e
  · rename_i n
    obtain ⟨a, rfl, h1⟩ := rep_obj rx
    refine ⟨a, rfl, ?_⟩
    split at e
    · rename_i kvs ek
      obtain ⟨k, e1, rfl⟩ := Option.map_eq_some_iff.mp e
      obtain ⟨a', g1, ks, vs, g2, g3, g4⟩ := hr.obj _ _ ek
      rw [h1] at g1; cases g1
      rw [kOf_rep e1 ry]
      exact got_k (.inl g2) g3 g4
    · rename_i kvs ek
      obtain ⟨k, e1, rfl⟩ := Option.map_eq_some_iff.mp e
      obtain ⟨a', g1, ob, ks, vs, g2, g3, g4⟩ := hr.obj _ _ ek
      rw [h1] at g1; cases g1
      rw [kOf_rep e1 ry]
      exact got_k (.inr ⟨ob, g2⟩) g3 g4
    · rename_i kvs ek
      split at e
      · rename_i ds
        obtain ⟨k, e1, rfl⟩ := Option.map_eq_some_iff.mp e
        obtain ⟨a', g1, ks, as, vs, g2, g3, g4, g5⟩ := hr.obj _ _ ek
        rw [h1] at g1; cases g1
        obtain ⟨b, ws, rfl, _, _⟩ := rep_tup ry
        exact got_n (.inl g2) g3 g4 g5 e1 ry
      · cases e
    · cases e
  · cases e
end
section
variable {X : Cx} {W : WX} {a b e o i value : Expr} {f g k fo fi fv : E D} {pos p pos' apos cpos : Pos}
theorem p_inD (hu : X.A.units + 64 < cLine) : P2 X (compareOp .In) inDM := by
  refine ⟨fun x y H Q => ∃ rr hp key d o, HR X.w X.K X.mg rr hp H ∧ Rep X.K X.mg rr H key x ∧ Rep X.K X.mg rr H d y ∧ dGetM d key hp = some o ∧ Q (.bl o.isSome) H, ?_, fun W σ rr H hp x y v w Q hr rx ry p => ?_⟩
  · intro pins s σ H x y v u Q I rx ry h
    obtain ⟨rr, hp, key, d, o, hr, r1, r2, eo, q⟩ := h
    obtain ⟨a, rfl, G⟩ := got_of (pins := pins) (σ := σ) hr r2 r1 eo
    cases ry
    exact G.in_ s v hu I rx fun s' I' => ⟨.bl o.isSome, H, I', rfl, q⟩
  · unfold inDM at p
    split at p
    · rename_i o eo
      exact ⟨rr, hp, x, y, o, hr, rx, ry, eo, post_at hr p of_bl⟩
    · exact False.elim p
theorem p_notInD (hu : X.A.units + 64 < cLine) : P2 X (compareOp .NotIn) notInDM := by
  refine ⟨fun x y H Q => ∃ rr hp key d o, HR X.w X.K X.mg rr hp H ∧ Rep X.K X.mg rr H key x ∧ Rep X.K X.mg rr H d y ∧ dGetM d key hp = some o ∧ Q (.bl (!o.isSome)) H, ?_, fun W σ rr H hp x y v w Q hr rx ry p => ?_⟩
  · intro pins s σ H x y v u Q I rx ry h
    obtain ⟨rr, hp, key, d, o, hr, r1, r2, eo, q⟩ := h
    obtain ⟨a, rfl, G⟩ := got_of (pins := pins) (σ := σ) hr r2 r1 eo
    cases ry
    exact G.notIn s v hu I rx fun s' I' => ⟨.bl (!o.isSome), H, I', rfl, q⟩
  · unfold notInDM at p
    split at p
    · rename_i o eo
      exact ⟨rr, hp, x, y, o, hr, rx, ry, eo, post_at hr p of_bl⟩
    · exact False.elim p
/-- d[k] -/
def tIxD (X : Cx) (W : WX) (td ty : TE) : TE := fun σ H Q => td σ H fun x H1 => ty σ H1 fun y H2 => ∃ rr hp key dd d, HR X.w X.K X.mg rr hp H2 ∧ Rep X.K X.mg rr H2 key y ∧ Rep X.K X.mg rr H2 dd x ∧ dGetM dd key hp = some (some d) ∧ ∀ v, Rep X.K X.mg rr H2 d v → Q v H2
theorem pe_ixD {td ty : TE} (hu : X.A.units + 64 < cLine) (ho : PE X o td) (hi : PE X i ty) (hs : NoSl i) : PE X (.Subscript o i pos) (tIxD X W td ty) := by
  refine ⟨fun pins s σ H Q I h => ?_⟩
  refine subD_of PySem.F.slot_dict_getitem.lookup hs (thn (ho.run pins s σ H _ I h) fun u s1 ⟨x, H1, I1, rx, q1⟩ => thn (hi.run pins s1 σ H1 _ I1 q1) fun iv s2 ⟨y, H2, I2, ry, rr, hp, key, dd, d, hr, r1, r2, eo, q2⟩ => ?_)
  obtain ⟨a, rfl, G⟩ := got_of (pins := pins) (σ := σ) hr r2 r1 eo
  obtain rfl : u = Value.ref a := rx
  exact ⟨(G.ty s2 I2).1, G.item s2 iv d hu I2 ry rfl fun v w' s3 I3 rv rw' => ⟨v, H2, I3, rw', q2 v rv⟩⟩
theorem me_ixD (hu : X.A.units + 64 < cLine) (ha : ME X W a f) (hb : ME X W b k) (hs : NoSl b := by intro _ _; rfl) : ME X W (.Subscript a b pos) (op2 ixDM f k) := PEm (pe_ixD (W := W) hu ha hb hs) fun σ H Q h => by
  obtain ⟨env, hp, rr, es, hh, q⟩ := h
  refine ⟨env, hp, rr, es, hh, Post.bind q fun x hp1 r1 H1 v e1 hr1 rv q1 => ?_⟩
  refine ⟨env, hp1, r1, es.mono e1, hr1, Post.bind q1 fun y hp2 r2 H2 w e2 hr2 rw q2 => ?_⟩
  unfold ixDM at q2
  split at q2
  · rename_i d ed
    exact ⟨r2, hp2, y, x, d, hr2, rw, Rep.mono e2 x rv, ed, fun v rv => post_at hr2 q2 rv⟩
  · exact False.elim q2
/-- d[k] = v -/
theorem nd_put {pins : List (Addr × Obj)} {σ : L2.St} {H : Hp} {s : Shared} {rr : List Addr} {hp hp' : MH} {A : Around} {E : Value → Shared → Prop} {x key dv : D} {a : Addr} {y v : V} {u r : Value} {Q : Unit → Shared → Prop} (hu : A.units + 64 < cLine) (I : Inv X pins σ H s) (hr : HR X.w X.K X.mg rr hp H) (rx : Rep X.K X.mg rr H x (.ref a)) (rk : Rep X.K X.mg rr H key y) (rd : Rep X.K X.mg rr H dv v) (ru : RelV y u) (rv : RelV v r)
    (e : putDM x key dv hp = some hp') (q : ∀ s' H', Inv X pins σ H' s' → Ext X.K rr H rr H' → HR X.w X.K X.mg rr hp' H' → Q () s') : wpAny (model X.prog X.w) A (setItem (.ref a) u r) Q E s := by
  unfold putDM at e
  split at e
  · rename_i n
    obtain ⟨a', ea', h1⟩ := rep_obj rx
    cases ea'
    split at e
    · rename_i kvs ek
      split at e
      · rename_i k ekk
        split at e
        · rename_i hl
          cases e
          obtain ⟨a', g1, ks, vs, g2, g3, g4⟩ := hr.obj _ _ ek
          rw [h1] at g1; cases g1
          obtain ⟨ks', vs', p1, p2, p3⟩ := put_zip (key := key) ekk rd g3 g4
          have hz : (ks.zip vs).length < sizeLine := by
            have := reps_len g4
            rw [List.length_zip]
            simp only [List.length_map] at this
            rw [← lim_eq]
            omega
          have hyk := kOf_rep ekk rk
          subst hyk
          refine d_setItem (by omega) I (DPut.k g2 hz) ru rv fun s' I' => ?_
          obtain ⟨e3, hr3⟩ := hr_setO (mo := .dic (dPut kOf key k dv kvs)) (u := .dK (putK (ks.zip vs) k v)) hr h1 ek (fun u0 z => by rw [g2] at z; cases z; exact True.intro) (fun ex => ⟨ks', vs', by rw [upd_same, p1], p2, Reps.mono ex _ p3⟩)
          exact q s' _ I' e3 hr3
        · cases e
      · cases e
    · rename_i kvs ek
      split at e
      · rename_i ds
        split at e
        · rename_i k ekk
          split at e
          · rename_i hl
            cases e
            obtain ⟨a', g1, ks, as, vs, g2, g3, g4, g5⟩ := hr.obj _ _ ek
            rw [h1] at g1; cases g1
            obtain ⟨b, ws, rfl, _, _⟩ := rep_tup rk
            cases ru
            obtain ⟨ks', as', vs', p1, p2, p3, p4⟩ := put_zipN ekk rk rd g3 g4 g5
            obtain ⟨xs, pp, hd, hs, hll⟩ := nd_of (ob := none) I (.inl g2) g3 g4
            have hkl : (ks.zip (as.zip vs)).length < sizeLine := by
              have h3 := reps_len g4
              have h4 := reps_len g5
              simp only [List.length_map] at h3 h4
              rw [List.length_zip, List.length_zip, ← lim_eq]
              omega
            have hxl : xs.length ≤ sizeLine := by rw [← pp.length]; omega
            refine wpAny_setItem_heap (knd := nestedKind X.prog X.w) (hsz := hxl) (nroom (X := X) hu) (key_is I 8 (.tup ds) k (.ref b) (.ref b) ekk rk rfl) hd fun h' hd' hsb => ?_
            have pp' := np_put (k := k) (a := b) rv pp
            have nn : ObjOk X.prog X.w (upd H a (NdO X.w a (putN (ks.zip (as.zip vs)) k b v))) h' a (NdO X.w a (putN (ks.zip (as.zip vs)) k b v)) := by
              obtain ⟨o, es, ep, j1, j2, j3, j4, j5, j6⟩ := hd'
              refine ⟨⟨_, pp', hs, ?_, o, es, ep, j1, j2, j3, j4, j6⟩, ⟨o, j1⟩, fun ha hb ⟨xs2, w1, w2, w3, o2, es2, ep2, w4, w5⟩ kk => ⟨xs2, w1, w2, w3, o2, es2, ep2, kk o2 w4, w5⟩⟩
              unfold putN
              split
              · rw [List.length_map]; omega
              · rw [List.length_append]; simp only [List.length_cons, List.length_nil]; omega
            have he : ∃ q, h'.get? a = some q := let ⟨q, _, _, hq, _⟩ := hd'; ⟨q, hq⟩
            have I' := d_write (t' := s.toks + (nestedKind X.prog X.w).draws k) I (by rw [g2]; exact True.intro) hsb he nn
            obtain ⟨e3, hr3⟩ := hr_setO (mo := .dik (dPut keyOf (.tup ds) k dv kvs)) (u := NdO X.w a (putN (ks.zip (as.zip vs)) k b v)) hr h1 ek (fun u0 z => by rw [g2] at z; cases z; exact True.intro) (fun ex => ⟨ks', as', vs', by rw [upd_same, p1], p2, Reps.mono ex _ p3, Reps.mono ex _ p4⟩)
            exact q _ _ I' e3 hr3
          · cases e
        · cases e
      · cases e
    · cases e
  · cases e
def sSubD (fo fi fv : E D) : S := fun env hp => (fv env hp).toS env fun v h1 => (fo env h1).toS env fun o h2 => (fi env h2).toS env fun i h3 => match putDM o i v h3 with
  | some h4 => .next env h4
  | none => .err
def sPutT (X : Cx) (td ty tv : TE) : TS := fun Dn σ H => tv σ H fun v H1 => td σ H1 fun x H2 => ty σ H2 fun y H3 => ∃ rr hp hp' key dd dv a, x = .ref a ∧ HR X.w X.K X.mg rr hp H3 ∧ Rep X.K X.mg rr H3 dd (.ref a) ∧ Rep X.K X.mg rr H3 key y ∧ Rep X.K X.mg rr H3 dv v ∧ putDM dd key dv hp = some hp' ∧
  ∀ H4, Ext X.K rr H3 rr H4 → HR X.w X.K X.mg rr hp' H4 → Dn.nx σ H4
theorem ps_putT {td ty tv : TE} (hu : X.A.units + 64 < cLine) (ho : PE X o td) (hi : PE X i ty) (hv : PE X value tv) (hs : swapsWith value (some (.Subscript o i pos')) pos.line X.env = pure false) :
    PS X (.Assign [.Subscript o i pos'] value pos) (sPutT X td ty tv) := by
  refine ⟨fun pins s σ H D I h => ?_⟩
  refine wpAny_Assign_Subscript (thn (hv.run pins s σ H _ I h) fun r s1 ⟨v, H1, I1, rv, q1⟩ => thn (ho.run pins s1 σ H1 _ I1 q1) fun u s2 ⟨x, H2, I2, rx, q2⟩ => thn (hi.run pins s2 σ H2 _ I2 q2) fun iv s3 ⟨y, H3, I3, ry, rr, hp, hp', key, dd, dv, a, ex, hr, r1, r2, r3, ep, q3⟩ => ?_) hs
  subst ex
  obtain rfl : u = Value.ref a := rx
  exact nd_put hu I3 hr r1 r2 r3 ry rv ep fun s4 H4 I4 e4 hr4 => ⟨σ, H4, I4, q3 H4 e4 hr4⟩
theorem ms_subD (hu : X.A.units + 64 < cLine) (hv : ME X W value fv) (ho : ME X W o fo) (hi : ME X W i fi) (hs : swapsWith value (some (.Subscript o i pos')) pos.line X.env = pure false := by rfl) : MS X W (.Assign [.Subscript o i pos'] value pos) (sSubD fo fi fv) :=
  PSm (ps_putT hu ho hi hv hs) fun Dn σ H h => by
    obtain ⟨env, hp, rr, es, hh, q⟩ := h
    refine ⟨env, hp, rr, es, hh, PostS.bind es q fun v hp1 r1 H1 vv e1 hr1 rv q1 => ?_⟩
    refine ⟨env, hp1, r1, es.mono e1, hr1, PostS.bind (es.mono e1) q1 fun o' hp2 r2 H2 ov e2 hr2 ro q2 => ?_⟩
    refine ⟨env, hp2, r2, (es.mono e1).mono e2, hr2, PostS.bind ((es.mono e1).mono e2) q2 fun i' hp3 r3 H3 iv e3 hr3 ri q3 => ?_⟩
    split at q3
    · rename_i h4 e4
      have ro' := Rep.mono e3 _ ro
      have hob : ∃ a, ov = .ref a := by
        cases o' with
        | obj n => obtain ⟨a, rfl, _⟩ := rep_obj ro; exact ⟨a, rfl⟩
        | _ => cases e4
      obtain ⟨a, rfl⟩ := hob
      exact ⟨r3, hp3, h4, i', o', v, a, rfl, hr3, ro', ri, Rep.mono e3 _ (Rep.mono e2 _ rv), e4, fun H4 e4 hr4 => q3 r3 H4 σ e4 hr4 ((((es.mono e1).mono e2).mono e3).mono e4)⟩
    · exact False.elim q3
/-! {} -/
def vDNew : E D := fun _ hp => .ok (.obj hp.length) (hp ++ [.dic []])
def vDNewN : E D := fun _ hp => .ok (.obj hp.length) (hp ++ [.dik []])
theorem me_dnew : ME X W (.Dict [] [] pos) vDNew := PEm pe_dnewK fun σ H Q h => by
  obtain ⟨env, hp, rr, es, hh, q⟩ := h
  intro p hp'
  have e := ext_push (o := .dK []) hh hp'
  exact q _ _ _ e (hr_pushO (mo := .dic []) hh hp' ⟨[], [], upd_same, rfl, reps_nil⟩) (of_obj (by rw [← hh.len]; simp))
theorem nd_empty {P : Program} {w : World} {H : Hp} (h : Heap) (hb : sysModules < h.objs.size) : ObjOk P w H (h.push { cls := .type "dict", data := .dict #[] }) h.objs.size (NdO w h.objs.size []) := by
  have g := Heap.DictOfH.new (knd := nestedKind P w) h
  obtain ⟨o, es, ep, j1, j2, j3, j4, j5, j6⟩ := g
  refine ⟨⟨[], .nil, ?_, Nat.zero_le _, o, es, ep, j1, j2, j3, j4, j6⟩, ⟨o, j1⟩, fun ha hb ⟨xs2, w1, w2, w3, o2, es2, ep2, w4, w5⟩ kk => ⟨xs2, w1, w2, w3, o2, es2, ep2, kk o2 w4, w5⟩⟩
  exact beq_eq_false_iff_ne.mpr (Nat.ne_of_gt hb)
def tDNewN (X : Cx) : TE := fun _ H Q => ∀ p, H p = none → Q (.ref p) (upd H p (NdO X.w p []))
theorem pe_dnewN : PE X (.Dict [] [] pos) (tDNewN X) := ⟨fun pins s σ H Q I h =>
  wpAny_Dict_empty ⟨.ref s.heap.objs.size, _, I.laid (a := s.heap.objs.size) (o := NdO X.w s.heap.objs.size []) (t' := s.toks) (fun _ _ q => Heap.get?_push_of_some _ q) (Nat.le_refl _) (nd_empty s.heap I.big), rfl, h _ (I.hok.fresh (Nat.le_refl _))⟩⟩
theorem me_dnewN : ME X W (.Dict [] [] pos) vDNewN := PEm pe_dnewN fun σ H Q h => by
  obtain ⟨env, hp, rr, es, hh, q⟩ := h
  intro p hp'
  have e := ext_push (o := NdO X.w p []) hh hp'
  exact q _ _ _ e (hr_pushO (mo := .dik []) hh hp' ⟨[], [], [], upd_same, rfl, reps_nil, reps_nil⟩) (of_obj (by rw [← hh.len]; simp))
end
end FT
end
section
set_option maxRecDepth 100000
namespace FT
open PySem L2 PySem.Spec PyProof.Rows
set_option autoImplicit false
section
variable {X : Cx} {W : WX} {a b e o i value : Expr} {f g k fo fi fv : E D} {pos p pos' apos cpos : Pos}
/-! ### {'a': 'x', 'b': 'y'} -/
def vDisp2 (k1 v1 k2 v2 : List Nat) : E D := fun _ hp => .ok (.obj hp.length) (hp ++ [.dic [(.str k1, .str v1), (.str k2, .str v2)]])
theorem upd_upd {H : Hp} {q : Addr} {u v : HO} : upd (upd H q u) q v = upd H q v := by
  funext c
  by_cases h : c = q
  · subst h; rw [upd_same, upd_same]
  · rw [upd_ne h, upd_ne h, upd_ne h]
theorem me_disp2 {x1 x2 y1 y2 : Str} {j1 j2 j3 j4 p1 p2 p3 p4} {k1 k2 v1 v2 : List Nat} (h1 : x1.cps.toList = k1 := by decide +kernel) (h2 : y1.cps.toList = v1 := by decide +kernel) (h3 : x2.cps.toList = k2 := by decide +kernel) (h4 : y2.cps.toList = v2 := by decide +kernel) (hne : k1 ≠ k2 := by decide) :
    ME X W (.Dict [some (.Constant (.str x1) j1 p1), some (.Constant (.str x2) j2 p2)] [.Constant (.str y1) j3 p3, .Constant (.str y2) j4 p4] pos) (vDisp2 k1 v1 k2 v2) :=
  PEm (pe_disp (pps_cons pe_str pe_str (pps_cons pe_str pe_str pps_nil)) rfl rfl (by simp) (by simp)) fun σ H Q h => by
    obtain ⟨env, hp, rr, es, hh, q⟩ := h
    intro q0 hq
    have s1 : x1 = ⟨k1.toArray⟩ := by subst h1; cases x1; simp
    have s2 : y1 = ⟨v1.toArray⟩ := by subst h2; cases y1; simp
    have s3 : x2 = ⟨k2.toArray⟩ := by subst h3; cases x2; simp
    have s4 : y2 = ⟨v2.toArray⟩ := by subst h4; cases y2; simp
    have hn : ¬ ((Sum.inr x1 : Key) = Sum.inr x2) := fun z => by
      injection z with z
      rw [s1, s3] at z
      have := congrArg Str.cps z
      exact hne (by simpa using this)
    show upd H q0 (.dK []) q0 = some (.dK []) ∧ _
    refine ⟨upd_same, [(.inr x1, .str y1), (.inr x2, .str y2)], rfl, by simp, ?_⟩
    have em : mergeK [] [((.inr x1 : Key), V.str y1), (.inr x2, .str y2)] = [(.inr x1, .str y1), (.inr x2, .str y2)] := by
      simp [mergeK, putK, hn]
    rw [em, upd_upd]
    have e := ext_push (o := .dK [(.inr x1, .str y1), (.inr x2, .str y2)]) hh hq
    exact q _ _ _ e (hr_pushO (mo := .dic [(.str k1, .str v1), (.str k2, .str v2)]) hh hq ⟨[.inr x1, .inr x2], [.str y1, .str y2], upd_same, by simp [kOf, s1, s3], reps_cons (s2 ▸ of_str) (reps_cons (s4 ▸ of_str) reps_nil)⟩) (of_obj (by rw [← hh.len]; simp))
/-! ### o.get(k, d) -/
def asDic (x : D) (h : MH) (k : R D) : R D := if isDic x h = true then k else .err
def vGet2 (fo f g : E D) : E D := fun env hp => (fo env hp).bind fun x h1 => asDic x h1 ((f env h1).bind fun y h2 => (g env h2).bind fun z h3 => getDM x y z h3)
def IsDX (X : Cx) (H : Hp) (a : Addr) : Prop := ∀ pins σ s, Inv X pins σ H s → s.TypeIs (.ref a) "dict" ∧ (∀ b, Value.ref a = .ref b → ∃ ob, s.heap.get? b = some ob ∧ ob.dict = none)
def tGet2 (X : Cx) (td ty tx : TE) : TE := fun σ H Q => td σ H fun x H1 => ∃ a, x = .ref a ∧ IsDX X H1 a ∧ ty σ H1 fun y H2 => tx σ H2 fun z H3 => ∃ rr hp key dd dz o, HR X.w X.K X.mg rr hp H3 ∧ Rep X.K X.mg rr H3 dd (.ref a) ∧ Rep X.K X.mg rr H3 key y ∧ Rep X.K X.mg rr H3 dz z ∧ dGetM dd key hp = some o ∧ ∀ v, Rep X.K X.mg rr H3 (o.getD dz) v → Q v H3
theorem pe_get2 {td ty tx : TE} {x1 x2 : Expr} (hu : X.A.units + 64 < cLine) (ho : PE X o td) (he : PE X x1 ty) (hf : PE X x2 tx) (m : M2 X o "get" apos x1 x2 cpos) : PE X (.Call (.Attribute o "get" apos) [x1, x2] [] cpos) (tGet2 X td ty tx) := by
  refine ⟨fun pins s σ H Q I h => ?_⟩
  refine wpAny_Call_method m.base m.few m.line PySem.F.plainAttrs_dict PySem.F.slot_dict_get PySem.F.type_dict_get (thn (ho.run pins s σ H _ I h) fun u s1 ⟨x, H1, I1, rx, a, ex, d, q1⟩ => ?_)
  subst ex
  obtain rfl : u = Value.ref a := rx
  obtain ⟨t1, t2⟩ := d pins σ s1 I1
  refine ⟨t1, t2, ?_⟩
  rw [m.trees]
  refine Calls.callWith_builtin rfl (Calls.evalArgs_plain (Calls.spliced_cons (thn (he.run pins s1 σ H1 _ I1 q1) fun iv s2 ⟨y, H2, I2, ry, q2⟩ =>
    Calls.spliced_cons (thn (hf.run pins s2 σ H2 _ I2 q2) fun fv s3 ⟨z, H3, I3, rz, rr, hp, key, dd, dz, o, hr, r1, r2, r3, eo, q3⟩ => Calls.spliced_nil ?_))))
  obtain ⟨a', ea, G⟩ := got_of (pins := pins) (σ := σ) hr r1 r2 eo
  cases ea
  exact G.get2 s3 iv fv z dz hu I3 ry rz r3 fun v w' s4 I4 rv rw' => ⟨v, H3, I4, rw', q3 v rv⟩
theorem isDX_of {rr : List Addr} {hp : MH} {H : Hp} {x : D} {v : V} (hr : HR X.w X.K X.mg rr hp H) (rx : Rep X.K X.mg rr H x v) (e : isDic x hp = true) : ∃ a, v = .ref a ∧ IsDX X H a := by
  unfold isDic at e
  split at e
  · rename_i n
    obtain ⟨a, rfl, h1⟩ := rep_obj rx
    refine ⟨a, rfl, fun pins σ s I => ?_⟩
    split at e
    · rename_i kvs ek
      obtain ⟨a', g1, ks, vs, g2, g3, g4⟩ := hr.obj _ _ ek
      rw [h1] at g1; cases g1
      obtain ⟨t1, t2, _⟩ := isD_at I (.inl ⟨_, .inl g2⟩)
      exact ⟨t1, t2⟩
    · rename_i kvs ek
      obtain ⟨a', g1, ks, as, vs, g2, g3, g4, g5⟩ := hr.obj _ _ ek
      rw [h1] at g1; cases g1
      obtain ⟨xs, pp, hd, hs, hl⟩ := nd_of (ob := none) I (.inl g2) g3 g4
      refine ⟨hd.typeIs, fun b eb => ?_⟩
      cases eb
      obtain ⟨o, es, ep, ho, hx, _⟩ := hd
      exact ⟨o, ho, hx.2.1⟩
    · cases e
  · cases e
theorem me_get2 {x1 x2 : Expr} (hu : X.A.units + 64 < cLine) (ho : ME X W o fo) (he : ME X W x1 f) (hf : ME X W x2 g) (m : M2 X o "get" apos x1 x2 cpos := by exact ⟨rfl, rfl, rfl, rfl⟩) : ME X W (.Call (.Attribute o "get" apos) [x1, x2] [] cpos) (vGet2 fo f g) := PEm (pe_get2 hu ho he hf m) fun σ H Q h => by
  obtain ⟨env, hp, rr, es, hh, q⟩ := h
  refine ⟨env, hp, rr, es, hh, Post.bind q fun x hp1 r1 H1 v e1 hr1 rv q1 => ?_⟩
  unfold asDic at q1
  split at q1
  · rename_i hd
    obtain ⟨a, rfl, D⟩ := isDX_of hr1 rv hd
    refine ⟨a, rfl, D, env, hp1, r1, es.mono e1, hr1, Post.bind q1 fun y hp2 r2 H2 w e2 hr2 ry q2 => ?_⟩
    refine ⟨env, hp2, r2, (es.mono e1).mono e2, hr2, Post.bind q2 fun z hp3 r3 H3 w3 e3 hr3 rz q3 => ?_⟩
    unfold getDM at q3
    split at q3
    · rename_i o eo
      exact ⟨r3, hp3, y, x, z, o, hr3, Rep.mono e3 _ (Rep.mono e2 _ rv), Rep.mono e3 _ ry, rz, eo, fun v rv => post_at hr3 q3 rv⟩
    · exact False.elim q3
  · exact False.elim q1
/-! ### {k: v}, k a tuple -/
def vDisp1N (f g : E D) : E D := fun env hp => (f env (hp ++ [.dik []])).bind fun x h1 => (g env h1).bind fun y h2 => match x, h2[hp.length]? with
  | .tup ds, some (.dik []) => match keyOf (.tup ds) with
    | some k => .ok (.obj hp.length) (h2.set hp.length (.dik [(.tup ds, y)]))
    | none => .err
  | _, _ => .err
def tDisp1N (X : Cx) (tk tv : TE) : TE := fun σ H Q => ∀ p, H p = none → tk σ (upd H p (NdO X.w p [])) fun x H1 => tv σ H1 fun y H2 => H2 p = some (NdO X.w p []) ∧ ∃ rr key k b, x = .ref b ∧ Rep X.K X.mg rr H2 key (.ref b) ∧ keyOf key = some k ∧ Q (.ref p) (upd H2 p (NdO X.w p [(k, b, y)]))
theorem pe_disp1N {tk tv : TE} {k v : Expr} (hu : X.A.units + 64 < cLine) (hk : PE X k tk) (hv : PE X v tv) : PE X (.Dict [some k] [v] pos) (tDisp1N X tk tv) := by
  refine ⟨fun pins s σ H Q I q => ?_⟩
  have hn := I.hok.fresh (Nat.le_refl s.heap.objs.size)
  have I1 := I.laid (a := s.heap.objs.size) (o := NdO X.w s.heap.objs.size []) (h' := s.heap.push { cls := .type "dict", data := .dict #[] }) (t' := s.toks) (fun _ _ q => Heap.get?_push_of_some _ q) (Nat.le_refl _) (nd_empty s.heap I.big)
  have hsh := zip_pairTrees [some k] [v] X.env pos rfl rfl
  have hne : pairTrees [some k] [v] X.env pos ≠ [] := by
    intro he
    have := pairTrees_length [some k] [v] X.env pos rfl rfl
    rw [he] at this
    cases this
  have hln : (pairTrees [some k] [v] X.env pos).length = 1 := pairTrees_length [some k] [v] X.env pos rfl rfl
  rw [arm_eval_Dict, hsh, dictDisplay_pairs _ hne (by omega)]
  refine wpAny_bind (wpAny_standAt (wpAny_bind (wpAny_subDictH (knd := nestedKind X.prog X.w) (Q := fun d s' => wpAny (model X.prog X.w) X.A (pure (Value.ref d)) (EP X pins σ Q) X.xe s') (nroom0 (X := X) hu) (by omega) ?_)))
  refine pairTrees_cons_walk (thn (hk.run pins _ σ _ _ I1 (q _ hn)) fun u s1 ⟨x, H1, J1, rx, q1⟩ => thn (hv.run pins s1 σ H1 _ J1 q1) fun w2 s2 ⟨y, H2, J2, ry, e2, rr, key, kk, b, ex, rk, ek, q2⟩ => pairTrees_nil_walk ?_)
  subst ex
  cases rx
  obtain ⟨⟨xs, pp, hs, hl, o, es', ep, g1, g2, g3, g4, g5⟩, _, _⟩ := (show ObjOk X.prog X.w H2 s2.heap s.heap.objs.size (NdO X.w s.heap.objs.size []) from J2.hok _ _ e2)
  cases pp
  refine ⟨[(kk, b, w2)], ⟨rfl, rfl, key_is J2 8 key kk (.ref b) (.ref b) ek rk rfl, True.intro⟩, ⟨o, es', ep, g1, g2, g3, g4, fun _ z => (by cases z), g5⟩, fun h' tk hd' hsb => wpAny_pure ?_⟩
  have nn : ObjOk X.prog X.w (upd H2 s.heap.objs.size (NdO X.w s.heap.objs.size [(kk, b, y)])) h' s.heap.objs.size (NdO X.w s.heap.objs.size [(kk, b, y)]) := by
    obtain ⟨o, es, ep, j1, j2, j3, j4, j5, j6⟩ := hd'
    refine ⟨⟨_, (.cons ⟨rfl, rfl, ry⟩ .nil : NP [(kk, b, y)] [(kk, b, w2)]), hs, (by show 1 ≤ sizeLine; rw [sizeLine_eq]; omega), o, es, ep, j1, j2, j3, j4, j6⟩, ⟨o, j1⟩, fun ha hb ⟨xs2, w1, w2, w3, o2, es2, ep2, w4, w5⟩ kk => ⟨xs2, w1, w2, w3, o2, es2, ep2, kk o2 w4, w5⟩⟩
  have he : ∃ q, h'.get? s.heap.objs.size = some q := let ⟨q, _, _, hq, _⟩ := hd'; ⟨q, hq⟩
  exact ⟨.ref s.heap.objs.size, _, d_write (t' := tk) J2 (by rw [e2]; exact True.intro) hsb he nn, rfl, q2⟩
theorem me_disp1N {k v : Expr} (hu : X.A.units + 64 < cLine) (hk : ME X W k f) (hv : ME X W v g) : ME X W (.Dict [some k] [v] pos) (vDisp1N f g) := PEm (pe_disp1N hu hk hv) fun σ H Q h => by
  obtain ⟨env, hp, rr, es, hh, q⟩ := h
  intro p hp'
  have e0 := ext_push (o := NdO X.w p []) hh hp'
  have hr0 : HR X.w X.K X.mg (rr ++ [p]) (hp ++ [.dik []]) (upd H p (NdO X.w p [])) := hr_pushO (mo := .dik []) hh hp' ⟨[], [], [], upd_same, rfl, reps_nil, reps_nil⟩
  refine ⟨env, hp ++ [.dik []], rr ++ [p], es.mono e0, hr0, Post.bind (Post.weaken e0 q) fun x hp1 r1 H1 v1 e1 hr1 rx q1 => ?_⟩
  refine ⟨env, hp1, r1, (es.mono e0).mono e1, hr1, Post.bind q1 fun y hp2 r2 H2 v2 e2 hr2 ry q2 => ?_⟩
  have at0 : r2[hp.length]? = some p := e2.at (e1.at (by rw [← hh.len]; simp))
  split at q2
  · rename_i ds ed
    split at q2
    · rename_i k ek
      obtain ⟨a', g1, ks, as, vs, g2, g3, g4, g5⟩ := hr2.obj _ _ ed
      rw [at0] at g1; cases g1
      have ks0 : ks = [] := by cases ks with
        | nil => rfl
        | cons _ _ => simp at g3
      subst ks0
      rw [List.zip_nil_left] at g2
      obtain ⟨b, ws, rfl, _, _⟩ := rep_tup rx
      have rx2 := Rep.mono e2 _ rx
      refine ⟨g2, r2, .tup ds, k, b, rfl, rx2, ek, ?_⟩
      obtain ⟨e3, hr3⟩ := hr_setO (mo := .dik [(.tup ds, y)]) (u := NdO X.w p [(k, b, v2)]) hr2 at0 ed (fun u0 z => by rw [g2] at z; cases z; exact True.intro) (fun ex => ⟨[k], [b], [v2], upd_same, by simp [ek], reps_cons (Rep.mono ex _ rx2) reps_nil, reps_cons (Rep.mono ex _ ry) reps_nil⟩)
      exact q2 r2 _ _ e3 hr3 (of_obj at0)
    · exact False.elim q2
  · exact False.elim q2
end
end FT
end
section
set_option maxRecDepth 100000
namespace FT
open PySem L2 PySem.Spec PyProof.Rows
set_option autoImplicit false
/-! ### a tuple of texts that the module holds -/
def GTup (K : PySem.W.Frag) (mg : Str → Option Value) (x : Str) (ss : List (List Nat)) : Prop := ∃ (a : Addr) (o : Obj) (its : Array Value) (n : Nat), mg x = some (.ref a) ∧ K.lookup a = some o ∧ o.cls = .type "tuple" ∧ o.dict = none ∧ o.data = .seq its n ∧ its.size ≤ sizeLine ∧ Vals (ss.map fun s => V.str ⟨s.toArray⟩) its.toList
section
variable {X : Cx} {W : WX} {e : Expr} {f : E D} {pos p apos : Pos}
theorem me_gtup {x : Str} {ss : List (List Nat)} (hg : Gl X x) (hm : GTup X.K X.mg x ss) (hd : (x == ("__debug__" : Str)) = false := by decide) : ME X W (.Name x pos) (vC (.tup (ss.map .str))) := by
  obtain ⟨a, o, its, n, m, l, c, d, dt, sz, v⟩ := hm
  exact PEm (pe_glob (v := .ref a) hg m rfl hd) (tC_of (d := .tup (ss.map .str)) fun r H => of_tup (.inr ⟨o, its, n, l, c, dt, sz, v⟩) of_strs)
def idxC (ss : List (List Nat)) (x : D) (h : MH) : R D := match x with
  | .str s => if s ∈ ss then .ok (.int (ss.idxOf s : Nat)) h else .err
  | _ => .err
def vIdxC (ss : List (List Nat)) (f : E D) : E D := fun env hp => (f env hp).bind fun x h => idxC ss x h
theorem me_idxC {x : Str} {ss : List (List Nat)} (hg : Gl X x) (hm : GTup X.K X.mg x ss) (he : ME X W e f) (hd : (x == ("__debug__" : Str)) = false := by decide)
    (hbase : attributeBase (.Name x p) "index" X.env (eval (.Name x p) X.env) = eval (.Name x p) X.env := by rfl)
    (hfew : ((backTo pos (starEach [e] X.env)).all (fun x => !x.1) && (backToKw pos (keywordEach [] X.env)).all (fun x => x.1.isSome)
      && decide (([e] : List Expr).length + ([] : List Keyword).length + (if ([] : List Keyword).isEmpty then 0 else 1) < 30)) = true := by rfl)
    (hline : (apos.endLine == pos.line) = true := by rfl) (hs : starEach [e] X.env = (false, eval e X.env) :: starEach [] X.env := by rfl) (hplain : (backTo pos (starEach [] X.env)).any (·.1) = false := by rfl) :
    ME X W (.Call (.Attribute (.Name x p) "index" apos) [e] [] pos) (vIdxC ss f) := by
  obtain ⟨a, o, its, n, m, l, c, d, dt, sz, v⟩ := hm
  refine PEm (pe_bm PySem.F.plainAttrs_tuple PySem.F.slot_tuple_index PySem.F.type_tuple_index mt_tup_index (pe_glob (v := .ref a) hg m rfl hd) (pa_cons he pa_nil hs) hbase hfew hline hs hplain) fun σ H Q h => ?_
  obtain ⟨env, hp, rr, es, hh, q⟩ := h
  refine ⟨.inr (.inl ⟨rfl, o, l, c, d⟩), env, hp, rr, es, hh, Post.bind q fun x hp1 r1 H1 v1 e1 hr1 rv q1 => ?_⟩
  unfold idxC at q1
  split at q1
  · rename_i s
    split at q1
    · rename_i hin
      obtain rfl := rep_str rv
      have hl : ss.idxOf s < ss.length := List.idxOf_lt_length_iff.mpr hin
      refine ⟨a, ss.map (fun s => (⟨s.toArray⟩ : Str)), ⟨s.toArray⟩, ss.idxOf s, rfl, rfl, .inr ⟨o, its, n, l, c, dt, sz, ?_⟩, ?_, fun m hm z => ?_, post_at hr1 q1 of_int⟩
      · rw [List.map_map]; exact v
      · rw [List.getElem?_map, List.getElem?_eq_getElem hl]; simp
      · rw [List.getElem?_map] at z
        have hm2 : m < ss.length := by omega
        rw [List.getElem?_eq_getElem hm2] at z
        have z2 : (⟨ss[m].toArray⟩ : Str) = ⟨s.toArray⟩ := by simpa using z
        have z3 : ss[m] = s := by
          have := congrArg Str.cps z2
          simpa using this
        have := List.not_of_lt_findIdx (p := (· == s)) (xs := ss) (i := m) hm
        simp [z3] at this
    · exact False.elim q1
  · exact False.elim q1
end
end FT
end
section
set_option maxRecDepth 100000
namespace FT
open PySem L2 PySem.Spec PyProof.Rows
set_option autoImplicit false
section
variable {X : Cx} {W : WX} {e : Expr} {f : E D} {fl : E (List D)} {pos p : Pos}
theorem setAll_len : ∀ (is : List Nat) (ds : List D) (env env' : Ev), setAll is ds env = some env' → ds.length = is.length := tg_run.len
/-- a, b = a new list -/
def sUnpL (is : List Nat) (fl : E (List D)) : S := fun env hp => (fl env hp).toS env fun ds h => match setAll is ds env with
  | some env' => .next env' h
  | none => .err
theorem ms_unpL {es : List Expr} {kk : Nat} {is : List Nat} {tpos : Pos} (hc : X.calm = true) (he : ML X W e fl) (hg : PGs X es (gNames is)) (hn : (assignEach es X.env).length = is.length := by rfl) (hst : (assignEach es X.env).findIdx? (·.1) = none := by rfl)
    (hs : swapsWithSole [.Tuple es kk tpos] e pos.line X.env = pure false := by rfl) (hw : swappedStores [.Tuple es kk tpos] e X.env = pure none := by rfl)
    (h1 : (assignEach [.Tuple es kk tpos] X.env).map (·.2) = [assign (.Tuple es kk tpos) X.env] := by rfl) : MS X W (.Assign [.Tuple es kk tpos] e pos) (sUnpL is fl) := PSm (ps_asg he (pg_unl hc hg hn hst) hs hw h1) fun Dn σ H h => by
  obtain ⟨env, hp, rr, es, hh, q⟩ := h
  refine ⟨env, hp, rr, es, hh, PostS.bind es q fun ds hp1 r1 H1 v e1 hr1 l1 q1 => ?_⟩
  obtain ⟨a, vs, rfl, na, n0, ea, hv⟩ := l1
  split at q1
  · rename_i env' ez
    exact ⟨a, vs, rfl, SqL.of ea, by rw [reps_len hv]; exact setAll_len is ds env env' ez, setAll_run is ds env env' σ vs _ ez (es.mono e1) hv fun σ' es' _ => q1 r1 H1 σ' Ext.refl hr1 es'⟩
  · exact False.elim q1
theorem PG.or {tg : Expr} {g1 g2 : TG} (h1 : PG X tg g1) (h2 : PG X tg g2) : PG X tg (fun v σ H Q => g1 v σ H Q ∨ g2 v σ H Q) := ⟨fun pins s σ H v u Q I r hw => by
  rcases hw with hw | hw
  · exact h1.run pins s σ H v u Q I r hw
  · exact h2.run pins s σ H v u Q I r hw⟩
/-- a, b = e, a tuple or a list -/
def sUnpV (is : List Nat) (f : E D) : S := fun env hp => (f env hp).toS env fun d h => match itemsM d h with
  | some ds => match setAll is ds env with
    | some env' => .next env' h
    | none => .err
  | none => .err
theorem ms_unpV {es : List Expr} {kk : Nat} {is : List Nat} {tpos : Pos} (hc : X.calm = true) (he : ME X W e f) (hg : PGs X es (gNames is)) (hn : (assignEach es X.env).length = is.length := by rfl) (hst : (assignEach es X.env).findIdx? (·.1) = none := by rfl)
    (hs : swapsWithSole [.Tuple es kk tpos] e pos.line X.env = pure false := by rfl) (hw : swappedStores [.Tuple es kk tpos] e X.env = pure none := by rfl)
    (h1 : (assignEach [.Tuple es kk tpos] X.env).map (·.2) = [assign (.Tuple es kk tpos) X.env] := by rfl) : MS X W (.Assign [.Tuple es kk tpos] e pos) (sUnpV is f) := PSm (ps_asg he (PG.or (pg_unl hc hg hn hst) (pg_tup hc hg hn hst)) hs hw h1) fun Dn σ H h => by
  obtain ⟨env, hp, rr, es, hh, q⟩ := h
  refine ⟨env, hp, rr, es, hh, PostS.bind es q fun d hp1 r1 H1 v e1 hr1 l1 q1 => ?_⟩
  split at q1
  · rename_i ds ei
    obtain ⟨a, vs, rfl, hq, hv⟩ := items_sq hr1 l1 ei
    split at q1
    · rename_i env' ez
      have hl : vs.length = is.length := by rw [reps_len hv]; exact setAll_len is ds env env' ez
      have run := setAll_run is ds env env' σ vs _ ez (es.mono e1) hv fun σ' es' _ => q1 r1 H1 σ' Ext.refl hr1 es'
      rcases hq with hq | hq
      · exact .inl ⟨a, vs, rfl, hq, hl, run⟩
      · exact .inr ⟨a, vs, rfl, hq, hl, run⟩
    · exact False.elim q1
  · exact False.elim q1
end
end FT
end
section
set_option maxRecDepth 100000
namespace FT
open PySem L2 PySem.Spec PyProof.Rows
set_option autoImplicit false
/-! ### what the head tells of classes -/
structure CF (K : PySem.W.Frag) (c : Str) (C : Addr) : Prop where
  n : PySem.W.nsIn K mainGlobals c = some (some (.ref C))
  d : PySem.W.hasDictIn K C = true
  t : PySem.W.typeIn K (.ref C) = some (.type "type")
inductive CFs (K : PySem.W.Frag) : List Str → List Addr → Prop where
  | nil : CFs K [] []
  | cons {c : Str} {C : Addr} {cs : List Str} {Cs : List Addr} (n : PySem.W.nsIn K mainGlobals c = some (some (.ref C))) (d : PySem.W.hasDictIn K C = true) (t : PySem.W.typeIn K (.ref C) = some (.type "type")) (r : CFs K cs Cs) : CFs K (c :: cs) (C :: Cs)
inductive Row (K : PySem.W.Frag) (C : Addr) : List Addr → Prop where
  | nil : Row K C []
  | cons {C2 : Addr} {Cs : List Addr} (e : PySem.W.subIn K (.ref C) (.ref C2) = some (C == C2)) (r : Row K C Cs) : Row K C (C2 :: Cs)
inductive Rows (K : PySem.W.Frag) (F : Addr) (Cs : List Addr) : List Str → Prop where
  | nil : Rows K F Cs []
  | cons {c : Str} {C : Addr} {cs : List Str} (n : PySem.W.nsIn K mainGlobals c = some (some (.ref C))) (h1 : PySem.W.findIn K (.ref C) "__getattribute__" = some (some (.builtin "BaseException.__getattribute__")))
    (h2 : PySem.W.findIn K (.ref C) "__getattr__" = some none) (h3 : PySem.W.subIn K (.ref C) (.type "BaseException") = some true) (h4 : PySem.W.hasDictIn K C = true) (h5 : PySem.W.findIn K (.ref C) "__class__" = some (some (.builtin "object.__class__")))
    (h6 : PySem.W.specialIn K (.builtin "object.__class__") "__get__" = some (some (.builtin "getset_descriptor.__get__"))) (h7 : PySem.W.takesIn K (.builtin "object.__class__") = some true) (h8 : PySem.W.mroIn K C (.type "object") = some true)
    (v : PySem.W.subIn K (.ref C) (.type "ValueError") = some true) (f : PySem.W.subIn K (.ref C) (.ref F) = some true) (row : Row K C Cs) (r : Rows K F Cs cs) : Rows K F Cs (c :: cs)
section
variable {K : PySem.W.Frag} {h : Heap} {mg : Str → Option Value}
theorem CFs.at {c : Str} : ∀ {cs : List Str} {Cs : List Addr}, CFs K cs Cs → c ∈ cs → ∃ (i : Nat) (C : Addr), cs[i]? = some c ∧ Cs[i]? = some C ∧ CF K c C
  | _, _, .cons (c := c0) (C := C) n d t r, hm => by
    rcases List.mem_cons.mp hm with rfl | hm
    · exact ⟨0, C, rfl, rfl, n, d, t⟩
    · obtain ⟨i, C', h1, h2, h3⟩ := CFs.at r hm
      exact ⟨i + 1, C', h1, h2, h3⟩
theorem Row.at {C C2 : Addr} : ∀ {Cs : List Addr}, Row K C Cs → C2 ∈ Cs → PySem.W.subIn K (.ref C) (.ref C2) = some (C == C2)
  | _, .cons e r, hm => by
    rcases List.mem_cons.mp hm with rfl | hm
    · exact e
    · exact Row.at r hm
structure RowAt (K : PySem.W.Frag) (F : Addr) (Cs : List Addr) (c : Str) (C : Addr) : Prop where
  n : PySem.W.nsIn K mainGlobals c = some (some (.ref C))
  x : ExcC K C
  v : PySem.W.subIn K (.ref C) (.type "ValueError") = some true
  f : PySem.W.subIn K (.ref C) (.ref F) = some true
  row : Row K C Cs
theorem Rows.at {F : Addr} {Cs : List Addr} {c : Str} : ∀ {cs : List Str}, Rows K F Cs cs → c ∈ cs → ∃ C, RowAt K F Cs c C
  | _, .cons n h1 h2 h3 h4 h5 h6 h7 h8 v f row r, hm => by
    rcases List.mem_cons.mp hm with rfl | hm
    · exact ⟨_, n, ⟨h1, h2, h3, h4, h5, h6, h7, h8⟩, v, f, row⟩
    · exact Rows.at r hm
theorem ref_beq (a b : Addr) : (Value.ref a == Value.ref b) = (a == b) := by
  by_cases z : a = b
  · subst z; rw [beq_self_eq_true, beq_self_eq_true]
  · rw [beq_eq_false_iff_ne.mpr z]
    exact beq_eq_false_iff_ne.mpr fun q => z (by injection q)
theorem exi_mk {raised all : List Str} {Cs : List Addr} {F : Addr} (KX : K.In h) (G : h.Ns mainGlobals mg) (A : CFs K all Cs) (nd : Cs.Nodup) (na : all.Nodup) (hsub : ∀ c ∈ raised, c ∈ all) (R : Rows K F Cs raised) : ExI K mg raised all := by
  have un : ∀ {c : Str} {C C' : Addr}, PySem.W.nsIn K mainGlobals c = some (some (.ref C)) → mg c = some (.ref C') → C = C' := fun {c C C'} n m => by
    have := (PySem.W.mg_of KX G n).symm.trans m
    cases this
    rfl
  refine ⟨fun c hc C m => ?_, fun c hc c2 hc2 C C2 m m2 => ?_, fun c hc C m => ?_⟩
  · obtain ⟨C', r⟩ := R.at hc
    cases un r.n m
    exact r.x
  · obtain ⟨C', r⟩ := R.at hc
    cases un r.n m
    obtain ⟨i, Ci, i1, i2, ci⟩ := A.at (hsub c hc)
    cases un ci.n m
    obtain ⟨j, Cj, j1, j2, cj⟩ := A.at hc2
    cases un cj.n m2
    have sub := r.row.at (List.mem_of_getElem? j2)
    have key : decide (c = c2) = (C == C2) := by
      by_cases z : c = c2
      · subst z
        rw [m] at m2
        cases m2
        simp
      · rw [decide_eq_false z]
        refine (beq_eq_false_iff_ne.mpr fun q => z ?_).symm
        subst q
        obtain ⟨l1, g1⟩ := List.getElem?_eq_some_iff.mp i2
        obtain ⟨l2, g2⟩ := List.getElem?_eq_some_iff.mp j2
        have : i = j := (List.getElem_inj nd).mp (g1.trans g2.symm)
        subst this
        rw [i1] at j1
        cases j1
        rfl
    unfold PySem.W.kitOne
    rw [ref_beq]
    by_cases z : (C == C2) = true
    · rw [if_pos z, key, z]
    · rw [if_neg z]
      unfold PySem.W.kitCls
      obtain ⟨cd, hcd, _⟩ := PySem.W.any_some cj.d
      have e2 : ((PySem.W.clsIn K C2).isSome && PySem.W.typeIn K (.ref C2) == some (.type "type")) = true := by rw [hcd, cj.t] <;> rfl
      show (if ((PySem.W.clsIn K C2).isSome && PySem.W.typeIn K (.ref C2) == some (.type "type")) = true then PySem.W.subIn K (.ref C) (.ref C2) else none) = _
      rw [if_pos e2, sub, key]
  · obtain ⟨C', r⟩ := R.at hc
    cases un r.n m
    unfold PySem.W.kitOne
    have e1 : (Value.ref C == Value.type "ValueError") = false := rfl
    rw [e1]
    show PySem.W.kitCls K (.ref C) (.type "ValueError") = some true
    unfold PySem.W.kitCls
    show (if PySem.W.kitMeta "ValueError" = true then PySem.W.subIn K (.ref C) (.type "ValueError") else none) = some true
    rw [if_pos (by decide +kernel)]
    exact r.v
theorem try_mk {raised : List Str} {Cs : List Addr} {F : Addr} (KX : K.In h) (G : h.Ns mainGlobals mg) (n : PySem.W.nsIn K mainGlobals "FieldError" = some (some (.ref F))) (b : PySem.W.subIn K (.ref F) (.type "BaseException") = some true) (d : PySem.W.hasDictIn K F = true) (t : PySem.W.typeIn K (.ref F) = some (.type "type")) (R : Rows K F Cs raised) :
    ∃ F, mg "FieldError" = some (.ref F) ∧ ∀ c ∈ raised, ∀ C, mg c = some (.ref C) → PySem.W.exmOne K (.ref C) (.ref F) = some true := by
  refine ⟨F, PySem.W.mg_of KX G n, fun c hc C m => ?_⟩
  obtain ⟨C', r⟩ := R.at hc
  have := (PySem.W.mg_of KX G r.n).symm.trans m
  cases this
  exact PySem.W.exm_ref b d t r.f
theorem g_mk {x : Str} {a : Addr} (KX : K.In h) (G : h.Ns mainGlobals mg) (n : PySem.W.nsIn K mainGlobals x = some (some (.ref a))) : ∃ a, mg x = some (.ref a) := ⟨a, PySem.W.mg_of KX G n⟩
theorem x_mk {c : Str} {C : Addr} (KX : K.In h) (G : h.Ns mainGlobals mg) (n : PySem.W.nsIn K mainGlobals c = some (some (.ref C))) (x : PySem.W.excIn K C bmVE "ValueError.__new__" = true) (k : PySem.W.keepIn K (.ref C) = true) (b : PySem.W.subIn K (.ref C) (.type "BaseException") = some true) (t : PySem.W.typeIn K (.ref C) = some (.type "type")) : ∃ C, ExF K mg c C := ⟨C, PySem.W.mg_of KX G n, x, k, b, t⟩
theorem gt_mk {x : Str} {ss : List (List Nat)} {a : Addr} {its : Array Value} {n : Nat} {sl : Array (Option Value)} (KX : K.In h) (G : h.Ns mainGlobals mg) (m : PySem.W.nsIn K mainGlobals x = some (some (.ref a))) (l : K.lookup a = some ⟨.type "tuple", none, .seq its n, sl⟩) (hs : its.size ≤ sizeLine) (v : Vals (ss.map fun s => V.str ⟨s.toArray⟩) its.toList) : GTup K mg x ss :=
  ⟨a, _, its, n, PySem.W.mg_of KX G m, l, rfl, rfl, rfl, hs, v⟩
end
end FT
namespace FT
open PySem L2
set_option autoImplicit false
theorem exc_mk {K : PySem.W.Frag} {h : Heap} {mg : Str → Option Value} {raised all : List Str} {Cs : List Addr} {F : Addr} (KX : K.In h) (G : h.Ns mainGlobals mg) (A : CFs K all Cs) (nd : Cs.Nodup) (na : all.Nodup) (hsub : ∀ c ∈ raised, c ∈ all) (n : PySem.W.nsIn K mainGlobals "FieldError" = some (some (.ref F))) (b : PySem.W.subIn K (.ref F) (.type "BaseException") = some true) (d : PySem.W.hasDictIn K F = true) (t : PySem.W.typeIn K (.ref F) = some (.type "type")) (R : Rows K F Cs raised) :
    (∃ F, mg "FieldError" = some (.ref F) ∧ ∀ c ∈ raised, ∀ C, mg c = some (.ref C) → PySem.W.exmOne K (.ref C) (.ref F) = some true) ∧ ExI K mg raised all := ⟨try_mk KX G n b d t R, exi_mk KX G A nd na hsub R⟩
end FT
end
section
set_option maxRecDepth 100000
namespace FT
open PySem L2
set_option autoImplicit false
/-! ### what a mirror comes to -/
abbrev XE := Str → MH → Prop
def OkP {a : Type} (ξ : XE) (x : R a) (Q : a → MH → Prop) : Prop := match x with
  | .ok v h => Q v h
  | .exc c h => ξ c h
  | _ => False
def OkSP (ξ : XE) (x : SR) (N : Ev → MH → Prop) (T : D → MH → Prop) : Prop := match x with
  | .next e h => N e h
  | .ret d h => T d h
  | .exc c _ h => ξ c h
  | _ => False
/-- the same, shut: what is run is not to be unfolded by the way -/
structure OkX {a : Type} (ξ : XE) (x : R a) (Q : a → MH → Prop) : Prop where
  wrap ::
  bare : OkP ξ x Q
structure OkSX (ξ : XE) (x : SR) (N : Ev → MH → Prop) (T : D → MH → Prop) : Prop where
  wrap ::
  bare : OkSP ξ x N T
def noE : XE := fun _ _ => False
abbrev Ok {a : Type} (x : R a) (Q : a → MH → Prop) : Prop := OkX noE x Q
abbrev OkS (x : SR) (N : Ev → MH → Prop) (T : D → MH → Prop) : Prop := OkSX noE x N T
theorem ok_is : @OkX = @OkP := by funext a ξ x Q; exact propext ⟨OkX.bare, OkX.wrap⟩
theorem okS_is : @OkSX = @OkSP := by funext ξ x N T; exact propext ⟨OkSX.bare, OkSX.wrap⟩
section
variable {a b : Type} {ξ : XE}
theorem OkX.ex {x : R a} {Q : a → MH → Prop} (h : OkX noE x Q) : ∃ v h', x = .ok v h' ∧ Q v h' := by
  cases x with
  | ok v h' => exact ⟨v, h', rfl, h.bare⟩
  | exc c h' => exact False.elim h.bare
  | err => exact h.bare.elim
theorem w_ok {v : a} {h : MH} {Q : a → MH → Prop} : OkX ξ (.ok v h) Q = Q v h := by rw [ok_is]; rfl
theorem w_err {Q : a → MH → Prop} : OkX ξ (.err : R a) Q = False := by rw [ok_is]; rfl
theorem w_exc {c : Str} {h : MH} {Q : a → MH → Prop} : OkX ξ (.exc c h : R a) Q = ξ c h := by rw [ok_is]; rfl
theorem Ok.of {x : R a} {Q : a → MH → Prop} {v : a} {h : MH} (e : x = .ok v h) (q : Q v h) : OkX ξ x Q := by rw [e, w_ok]; exact q
theorem OkX.imp {x : R a} {Q Q' : a → MH → Prop} (h : OkX ξ x Q) (k : ∀ v h, Q v h → Q' v h) : OkX ξ x Q' := by
  cases x with
  | ok v h' => rw [w_ok] at h ⊢; exact k _ _ h
  | exc c h' => rw [w_exc] at h ⊢; exact h
  | err => rw [w_err] at h; exact h.elim
theorem OkX.impX {ξ' : XE} {x : R a} {Q Q' : a → MH → Prop} (h : OkX ξ x Q) (k : ∀ v h, Q v h → Q' v h) (e : ∀ c h, ξ c h → ξ' c h) : OkX ξ' x Q' := by
  cases x with
  | ok v h' => rw [w_ok] at h ⊢; exact k _ _ h
  | exc c h' => rw [w_exc] at h ⊢; exact e _ _ h
  | err => rw [w_err] at h; exact h.elim
theorem Ok.any {x : R a} {Q Q' : a → MH → Prop} (h : OkX noE x Q) (k : ∀ v h, Q v h → Q' v h) : OkX ξ x Q' := h.impX k fun _ _ z => False.elim z
theorem w_snext {e : Ev} {h : MH} {N : Ev → MH → Prop} {T : D → MH → Prop} : OkSX ξ (.next e h) N T = N e h := by rw [okS_is]; rfl
theorem w_sret {d : D} {h : MH} {N : Ev → MH → Prop} {T : D → MH → Prop} : OkSX ξ (.ret d h) N T = T d h := by rw [okS_is]; rfl
theorem w_sexc {c : Str} {e : Ev} {h : MH} {N : Ev → MH → Prop} {T : D → MH → Prop} : OkSX ξ (.exc c e h) N T = ξ c h := by rw [okS_is]; rfl
theorem w_serr {N : Ev → MH → Prop} {T : D → MH → Prop} : OkSX ξ .err N T = False := by rw [okS_is]; rfl
theorem w_bind {x : R a} {k : a → MH → R b} {Q : b → MH → Prop} : OkX ξ (x.bind k) Q = OkX ξ x fun v h => OkX ξ (k v h) Q := by cases x <;> simp only [R.bind, w_ok, w_err, w_exc]
theorem w_noX {x : R a} {Q : a → MH → Prop} : OkX ξ x.noX Q = OkX noE x Q := by
  cases x <;> simp only [R.noX, w_ok, w_err, w_exc]
  rfl
theorem w_toS {x : R a} {env : Ev} {k : a → MH → SR} {N : Ev → MH → Prop} {T : D → MH → Prop} : OkSX ξ (x.toS env k) N T = OkX ξ x fun v h => OkSX ξ (k v h) N T := by
  cases x <;> simp only [R.toS, w_ok, w_err, w_exc]
  · rw [okS_is]; rfl
  · rw [okS_is]; rfl
end
section
variable {ξ : XE} {env : Ev} {hp : MH} {Q : D → MH → Prop} {QB : Bool → MH → Prop} {QL : List D → MH → Prop} {N : Ev → MH → Prop} {T : D → MH → Prop} {f g k : E D} {fb gb : E Bool} {fl gl : E (List D)} {s t : S}
theorem w_var {i : Nat} {d : D} (h : env[i]? = some (some d)) : OkX ξ (vVar i env hp) Q = Q d hp := by unfold vVar; rw [h]; (first | rfl | (rw [ok_is]; rfl) | (rw [okS_is]; rfl) | (rw [ok_is, okS_is]; rfl))
theorem w_C {d : D} : OkX ξ (vC d env hp) Q = Q d hp := by (first | rfl | (rw [ok_is]; rfl) | (rw [okS_is]; rfl) | (rw [ok_is, okS_is]; rfl))
theorem w_op2 {p : D → D → MH → R D} : OkX ξ (op2 p f g env hp) Q = OkX ξ (f env hp) fun x h1 => OkX ξ (g env h1) fun y h2 => OkX ξ (p x y h2) Q := by unfold op2; simp only [w_bind]
theorem w_asB {x : D} {kk : Bool → R D} : OkX ξ (asB x kk) Q = match x with
    | .bl b => OkX ξ (kk b) Q
    | _ => False := by cases x <;> (first | rfl | (rw [ok_is]; rfl) | (rw [okS_is]; rfl) | (rw [ok_is, okS_is]; rfl))
theorem w_op3 {p q : D → D → MH → R D} : OkX ξ (op3 p q f g k env hp) Q = OkX ξ (f env hp) fun x h1 => OkX ξ (g env h1) fun y h2 => OkX ξ (p x y h2) fun z h3 => OkX ξ (asB z fun t => if t = true then (k env h3).bind fun w h4 => q y w h4 else .ok (.bl false) h3) Q := by unfold op3; simp only [w_bind]
theorem w_and : OkX ξ (vAnd f g env hp) Q = OkX ξ (f env hp) fun x h => OkX ξ (asB x fun c => if c = true then g env h else .ok (.bl false) h) Q := by unfold vAnd; simp only [w_bind]
theorem w_or : OkX ξ (vOr f g env hp) Q = OkX ξ (f env hp) fun x h => OkX ξ (asB x fun c => if c = true then .ok (.bl true) h else g env h) Q := by unfold vOr; simp only [w_bind]
theorem w_not : OkX ξ (vNot f env hp) Q = OkX ξ (f env hp) fun x h => OkX ξ (asB x fun c => .ok (.bl (!c)) h) Q := by unfold vNot; simp only [w_bind]
theorem w_test : OkX ξ (vTest f env hp) QB = OkX ξ (f env hp) fun x h => match x with
    | .bl b => QB b h
    | _ => False := by
  unfold vTest
  rw [w_bind]
  congr 1
  funext x h
  cases x <;> (first | rfl | (rw [ok_is]; rfl) | (rw [okS_is]; rfl) | (rw [ok_is, okS_is]; rfl))
theorem w_bAnd : OkX ξ (bAnd fb gb env hp) QB = OkX ξ (fb env hp) fun x h => OkX ξ (if x = true then gb env h else .ok false h) QB := by unfold bAnd; simp only [w_bind]
theorem w_bOr : OkX ξ (bOr fb gb env hp) QB = OkX ξ (fb env hp) fun x h => OkX ξ (if x = true then .ok true h else gb env h) QB := by unfold bOr; simp only [w_bind]
theorem w_bNot : OkX ξ (bNot fb env hp) QB = OkX ξ (fb env hp) fun x h => QB (!x) h := by unfold bNot; simp only [w_bind, w_ok]
theorem w_if : OkX ξ (vIf fb f g env hp) Q = OkX ξ (fb env hp) fun x h => OkX ξ (if x = true then f env h else g env h) Q := by unfold vIf; simp only [w_bind]
theorem w_lif : OkX ξ (lIf fb fl gl env hp) QL = OkX ξ (fb env hp) fun x h => OkX ξ (if x = true then fl env h else gl env h) QL := by unfold lIf; simp only [w_bind]
theorem w_tup : OkX ξ (vTup fl env hp) Q = OkX ξ (fl env hp) fun ds h => OkX ξ (if ds.length ≤ LIM then .ok (.tup ds) h else .err) Q := by unfold vTup; simp only [w_bind]
theorem w_lst : OkX ξ (lLst fl env hp) QL = OkX ξ (fl env hp) fun ds h => OkX ξ (if ds.length ≤ LIM then .ok ds h else .err) QL := by unfold lLst; simp only [w_bind]
theorem w_alloc : OkX ξ (vAlloc fl env hp) Q = OkX ξ (fl env hp) fun ds h => Q (.obj h.length) (h ++ [.lst ds]) := by unfold vAlloc; simp only [w_bind, w_ok]
theorem w_vL {p : List D → MH → R D} : OkX ξ (vL p fl env hp) Q = OkX ξ (fl env hp) fun ds h => OkX ξ (p ds h) Q := by unfold vL; simp only [w_bind]
theorem w_call {m : List D → MH → R D} : OkX ξ (vCall m fl env hp) Q = OkX ξ (fl env hp) fun ds h => OkX ξ (m ds h) Q := by unfold vCall; simp only [w_bind]
theorem w_aNil : OkX ξ (aNil env hp) QL = QL [] hp := by (first | rfl | (rw [ok_is]; rfl) | (rw [okS_is]; rfl) | (rw [ok_is, okS_is]; rfl))
theorem w_aCons : OkX ξ (aCons f fl env hp) QL = OkX ξ (f env hp) fun x h1 => OkX ξ (fl env h1) fun xs h2 => QL (x :: xs) h2 := by unfold aCons; simp only [w_bind, w_ok]
theorem w_lCall {q : List D → MH → R (List D)} : OkX ξ (lCall q fl env hp) QL = OkX ξ (fl env hp) fun ds h => OkX ξ (q ds h) QL := by unfold lCall; simp only [w_bind]
theorem w_append : OkX ξ (vAppend f g env hp) Q = OkX ξ (f env hp) fun x h1 => OkX ξ (isLst x h1 ((g env h1).bind fun y h2 => pushM x y h2)) Q := by unfold vAppend; simp only [w_bind]
theorem w_isLst {x : D} {h : MH} {kk : R D} : OkX ξ (isLst x h kk) Q = match lstOf x h with
    | some _ => OkX ξ kk Q
    | none => False := by unfold isLst; cases lstOf x h <;> (first | rfl | (rw [ok_is]; rfl) | (rw [okS_is]; rfl) | (rw [ok_is, okS_is]; rfl))
theorem w_nil {neg : Bool} : OkX ξ (vNil neg f env hp) Q = OkX ξ (f env hp) fun x h => match listItems x h with
    | some ds => Q (.bl (if neg then !ds.isEmpty else ds.isEmpty)) h
    | none => False := by
  unfold vNil
  rw [w_bind]
  congr 1
  funext x h
  cases listItems x h <;> (first | rfl | (rw [ok_is]; rfl) | (rw [okS_is]; rfl) | (rw [ok_is, okS_is]; rfl))
theorem w_lnil {neg : Bool} : OkX ξ (lNil neg fl env hp) Q = OkX ξ (fl env hp) fun ds h => Q (.bl (if neg then !ds.isEmpty else ds.isEmpty)) h := by unfold lNil; simp only [w_bind, w_ok]
/-! statements -/
theorem w_seq : OkSX ξ (sSeq s t env hp) N T = OkSX ξ (s env hp) (fun e h => OkSX ξ (t e h) N T) T := by
  unfold sSeq
  cases s env hp <;> (first | rfl | (rw [ok_is]; rfl) | (rw [okS_is]; rfl) | (rw [ok_is, okS_is]; rfl))
theorem w_next : OkSX ξ (sNext env hp) N T = N env hp := by (first | rfl | (rw [ok_is]; rfl) | (rw [okS_is]; rfl) | (rw [ok_is, okS_is]; rfl))
theorem w_ret : OkSX ξ (sRet f env hp) N T = OkX ξ (f env hp) T := by unfold sRet; rw [w_toS]; (first | rfl | (rw [ok_is]; rfl) | (rw [okS_is]; rfl) | (rw [ok_is, okS_is]; rfl))
theorem w_set {i : Nat} : OkSX ξ (sSet i f env hp) N T = OkX ξ (f env hp) fun d h => N (env.set i (some d)) h := by unfold sSet; rw [w_toS]; (first | rfl | (rw [ok_is]; rfl) | (rw [okS_is]; rfl) | (rw [ok_is, okS_is]; rfl))
theorem w_expr : OkSX ξ (sExpr f env hp) N T = OkX ξ (f env hp) fun _ h => N env h := by unfold sExpr; rw [w_toS]; (first | rfl | (rw [ok_is]; rfl) | (rw [okS_is]; rfl) | (rw [ok_is, okS_is]; rfl))
theorem w_sif : OkSX ξ (sIf fb s t env hp) N T = OkX ξ (fb env hp) fun b h => OkSX ξ (if b = true then s env h else t env h) N T := by unfold sIf; rw [w_toS]
theorem w_sub : OkSX ξ (sSub f g k env hp) N T = OkX ξ (k env hp) fun v h1 => OkX ξ (f env h1) fun o h2 => OkX ξ (g env h2) fun i h3 => match setM o i v h3 with
    | some h4 => N env h4
    | none => False := by
  unfold sSub
  rw [w_toS]
  congr 1
  funext v h1
  rw [w_toS]
  congr 1
  funext o h2
  rw [w_toS]
  congr 1
  funext i h3
  cases setM o i v h3 <;> (first | rfl | (rw [ok_is]; rfl) | (rw [okS_is]; rfl) | (rw [ok_is, okS_is]; rfl))
theorem w_unp {t : Tg} : OkSX ξ (sUnp t f env hp) N T = OkX ξ (f env hp) fun d h => match tgM t d env with
    | some e => N e h
    | none => False := by
  unfold sUnp
  rw [w_toS]
  congr 1
  funext d h
  cases tgM t d env <;> (first | rfl | (rw [ok_is]; rfl) | (rw [okS_is]; rfl) | (rw [ok_is, okS_is]; rfl))
theorem w_fn {n m : Nat} {b : S} {ds : List D} (hl : ds.length = n) : OkX ξ (fnM n m b ds hp) Q = OkSX ξ (b (ds.map some ++ List.replicate (m - n) none) hp) (fun _ h => Q .non h) Q := by
  unfold fnM
  rw [if_pos hl]
  cases b (ds.map some ++ List.replicate (m - n) none) hp <;> (first | rfl | (rw [ok_is]; rfl) | (rw [okS_is]; rfl) | (rw [ok_is, okS_is]; rfl))
end
/-! ### loops over items -/
section
variable {ξ : XE} {t : Tg} {body : S} {test : E Bool} {elt : E D} {env : Ev} {hp : MH} {N : Ev → MH → Prop} {T : D → MH → Prop} {QL : List D → MH → Prop}
/-- a loop over items, by what holds ahead of the rest -/
theorem w_for_items (I : List D → Ev → MH → Prop) {ds : List D} (h0 : I ds env hp)
    (hs : ∀ d r e h, I (d :: r) e h → ∃ e', tgM t d e = some e' ∧ OkSX ξ (body e' h) (fun e2 h2 => I r e2 h2) T) (hd : ∀ e h, I [] e h → N e h) :
    OkSX ξ (forGo (.items ds) t body (ds.length + 1) 0 env hp) N T := by
  have key : ∀ (k i : Nat) (e : Ev) (h : MH), k + i = ds.length → I (ds.drop i) e h → OkSX ξ (forGo (.items ds) t body (k + 1) i e h) N T := by
    intro k
    induction k with
    | zero =>
      intro i e h hk hI
      have : ds.length ≤ i := by omega
      rw [List.drop_eq_nil_of_le this] at hI
      unfold forGo
      simp only [Sc.nx, List.getElem?_eq_none this]
      rw [w_snext]
      exact hd e h hI
    | succ k ih =>
      intro i e h hk hI
      have hi : i < ds.length := by omega
      rw [List.drop_eq_getElem_cons hi] at hI
      obtain ⟨e', h1, h2⟩ := hs _ _ e h hI
      unfold forGo
      simp only [Sc.nx, List.getElem?_eq_getElem hi, h1]
      cases z : body e' h with
      | next e2 h3 =>
        rw [z] at h2
        rw [w_snext] at h2
        exact ih (i + 1) e2 h3 (by omega) h2
      | ret d h3 =>
        rw [z, w_sret] at h2
        show OkSX ξ (.ret d h3) N T
        rw [w_sret]
        exact h2
      | brk e2 h3 => rw [z] at h2; exact h2.bare.elim
      | cont e2 h3 => rw [z] at h2; exact h2.bare.elim
      | exc c e2 h3 =>
        rw [z, w_sexc] at h2
        show OkSX ξ (.exc c e2 h3) N T
        rw [w_sexc]
        exact h2
      | err => rw [z] at h2; exact h2.bare.elim
  exact key ds.length 0 env hp (by omega) (by simpa using h0)
theorem w_forS {src : E Sc} : OkSX ξ (sFor src t body env hp) N T = OkX ξ (src env hp) fun sc h => OkSX ξ (forGo sc t body (sc.size h + 1) 0 env h) N T := by unfold sFor; rw [w_toS]
/-- a comprehension over items: one step -/
def lcL (t : Tg) (test : E Bool) (elt : E D) (env : Ev) : List D → MH → R (List D)
  | [], h => .ok [] h
  | d :: r, h => match tgM t d env with
    | none => .err
    | some env' => (test env' h).noX.bind fun b h1 => if b = true then (elt env' h1).noX.bind fun y h2 => (lcL t test elt env r h2).bind fun ys h3 => .ok (y :: ys) h3 else lcL t test elt env r h1
theorem lc_items {ds : List D} : lcGo (.items ds) t test elt env (ds.length + 1) 0 hp = lcL t test elt env ds hp := by
  have key : ∀ (k i : Nat) (h : MH), k + i = ds.length → lcGo (.items ds) t test elt env (k + 1) i h = lcL t test elt env (ds.drop i) h := by
    intro k
    induction k with
    | zero =>
      intro i h hk
      have : ds.length ≤ i := by omega
      rw [List.drop_eq_nil_of_le this]
      unfold lcGo
      simp only [Sc.nx, List.getElem?_eq_none this, lcL]
    | succ k ih =>
      intro i h hk
      have hi : i < ds.length := by omega
      rw [List.drop_eq_getElem_cons hi]
      unfold lcGo
      simp only [Sc.nx, List.getElem?_eq_getElem hi, lcL]
      cases tgM t ds[i] env with
      | none => rfl
      | some env' =>
        simp only [fun h => ih (i + 1) h (by omega)]
  have := key ds.length 0 hp (by omega)
  simpa using this
theorem w_lc {src : E Sc} {own : List Nat} : OkX ξ (lcM src own t test elt env hp) QL = OkX ξ (src env hp) fun sc h => OkX ξ (if sc.size h < LIM then lcGo sc t test elt (wipeE env own) (sc.size h + 1) 0 h else .err) QL := by unfold lcM; rw [w_bind]
theorem w_lcI {ds : List D} (hl : ds.length < LIM) {env' : Ev} : OkX ξ (if (Sc.items ds).size hp < LIM then lcGo (.items ds) t test elt env' ((Sc.items ds).size hp + 1) 0 hp else .err) QL = OkX ξ (lcL t test elt env' ds hp) QL := by
  rw [if_pos (show (Sc.items ds).size hp < LIM from hl)]
  show OkX ξ (lcGo (.items ds) t test elt env' (ds.length + 1) 0 hp) QL = _
  rw [lc_items]
/-- by what holds ahead of the rest and of what is made -/
theorem w_lcL (I : List D → List D → MH → Prop) : ∀ (ds acc : List D) (h : MH), I ds acc h →
    (∀ d r acc h, I (d :: r) acc h → ∃ e', tgM t d env = some e' ∧ OkX noE (test e' h) fun b h1 => if b = true then OkX noE (elt e' h1) fun y h2 => I r (acc ++ [y]) h2 else I r acc h1) →
    (∀ acc h, I [] acc h → QL acc h) → OkX ξ (lcL t test elt env ds h) fun ys h' => QL (acc ++ ys) h'
  | [], acc, h, hI, hs, hd => by
    unfold lcL
    rw [w_ok, List.append_nil]
    exact hd acc h hI
  | d :: r, acc, h, hI, hs, hd => by
    obtain ⟨e', h1, h2⟩ := hs d r acc h hI
    unfold lcL
    simp only [h1, w_bind, w_noX]
    refine h2.imp fun b hb z => ?_
    cases b with
    | true =>
      simp only [if_true, w_bind, w_noX] at z ⊢
      refine z.imp fun y hy z2 => ?_
      have ih := w_lcL I r (acc ++ [y]) hy z2 hs hd
      refine ih.imp fun ys h' q => ?_
      rw [w_ok]
      rw [List.append_assoc] at q
      exact q
    | false =>
      simp only [Bool.false_eq_true, if_false] at z ⊢
      exact w_lcL I r acc hb z hs hd
end
end FT
end
section
set_option maxRecDepth 100000
namespace FT
open PySem L2
set_option autoImplicit false
theorem ok_congr {a : Type} {x y : R a} {Q : a → MH → Prop} (h : x = y) : Ok x Q = Ok y Q := by rw [h]
theorem okS_congr {x y : SR} {N : Ev → MH → Prop} {T : D → MH → Prop} (h : x = y) : OkS x N T = OkS y N T := by rw [h]
theorem ixN_nat {n j : Nat} (hj : j < n) : ixN n (j : Int) = some j := by
  unfold ixN
  rw [if_pos (by omega), if_pos (by omega), Int.toNat_natCast]
section
variable {ξ : XE} {m : Nat} {b : S} {x y z u v : D} {hp : MH} {Q : D → MH → Prop}
theorem w_fn1 : OkX ξ (fnM 1 m b [x] hp) Q = OkSX ξ (b (some x :: List.replicate (m - 1) none) hp) (fun _ h => Q .non h) Q := w_fn rfl
theorem w_fn2 : OkX ξ (fnM 2 m b [x, y] hp) Q = OkSX ξ (b (some x :: some y :: List.replicate (m - 2) none) hp) (fun _ h => Q .non h) Q := w_fn rfl
theorem w_fn3 : OkX ξ (fnM 3 m b [x, y, z] hp) Q = OkSX ξ (b (some x :: some y :: some z :: List.replicate (m - 3) none) hp) (fun _ h => Q .non h) Q := w_fn rfl
theorem w_fn4 : OkX ξ (fnM 4 m b [x, y, z, u] hp) Q = OkSX ξ (b (some x :: some y :: some z :: some u :: List.replicate (m - 4) none) hp) (fun _ h => Q .non h) Q := w_fn rfl
theorem w_fn5 : OkX ξ (fnM 5 m b [x, y, z, u, v] hp) Q = OkSX ξ (b (some x :: some y :: some z :: some u :: some v :: List.replicate (m - 5) none) hp) (fun _ h => Q .non h) Q := w_fn rfl
end
section
variable {ξ : XE} {i j : Int} {s t : List Nat} {xs ys : List D} {h : MH} {x y z u : D} {e : Ev} {ox : Option D} {n c : Nat} {p q : Bool}
theorem v_0 : vVar 0 (some x :: e) h = .ok x h := (rfl)
theorem v_S : vVar (n + 1) (ox :: e) h = vVar n e h := by unfold vVar; rw [List.getElem?_cons_succ]
theorem q_add : addM (.int i) (.int j) h = .ok (.int (i + j)) h := (rfl)
theorem q_addT (hl : xs.length + ys.length ≤ LIM) : addM (.tup xs) (.tup ys) h = .ok (.tup (xs ++ ys)) h := if_pos hl
theorem q_addS (hl : s.length + t.length ≤ LIM) : addM (.str s) (.str t) h = .ok (.str (s ++ t)) h := if_pos hl
theorem q_sub : subM (.int i) (.int j) h = .ok (.int (i - j)) h := (rfl)
theorem q_mul (hm : mulOk i j = true) : mulM (.int i) (.int j) h = .ok (.int (i * j)) h := if_pos hm
theorem q_fdiv (h0 : 0 < j) (h1 : j < 1073741824) : fdivM (.int i) (.int j) h = .ok (.int (i / j)) h := if_pos ⟨h0, h1⟩
theorem q_mod (h0 : 0 < j) : modM (.int i) (.int j) h = .ok (.int (i % j)) h := if_pos h0
theorem q_pow (h0 : 0 ≤ j) (h1 : j ≤ 1000000) (h2 : i.natAbs < 2 ^ 64) : powM (.int i) (.int j) h = .ok (.int (i ^ j.toNat)) h := if_pos ⟨h0, h1, h2⟩
theorem q_eq : eqM (.int i) (.int j) h = .ok (.bl (decide (i = j))) h := (rfl)
theorem q_eqS : eqM (.str s) (.str t) h = .ok (.bl (decide (s = t))) h := (rfl)
theorem q_eqB : eqM (.bl p) (.bl q) h = .ok (.bl (decide (p = q))) h := (rfl)
theorem q_ne : neM (.int i) (.int j) h = .ok (.bl (!decide (i = j))) h := (rfl)
theorem q_neS : neM (.str s) (.str t) h = .ok (.bl (!decide (s = t))) h := (rfl)
theorem q_neB : neM (.bl p) (.bl q) h = .ok (.bl (!decide (p = q))) h := (rfl)
theorem q_lt : ltM (.int i) (.int j) h = .ok (.bl (decide (i < j))) h := (rfl)
theorem q_ltS : ltM (.str s) (.str t) h = .ok (.bl (decide (s < t))) h := (rfl)
theorem q_le : leM (.int i) (.int j) h = .ok (.bl (decide (i ≤ j))) h := (rfl)
theorem q_gt : gtM (.int i) (.int j) h = .ok (.bl (decide (j < i))) h := (rfl)
theorem q_ge : geM (.int i) (.int j) h = .ok (.bl (decide (j ≤ i))) h := (rfl)
theorem q_in1 : inM (.str [n]) (.str s) h = .ok (.bl (decide (n ∈ s))) h := (rfl)
theorem q_nin1 : notInM (.str [n]) (.str s) h = .ok (.bl (!decide (n ∈ s))) h := (rfl)
theorem q_isN : isM x .non h = .ok (.bl x.isN) h := by cases x <;> (first | rfl | (rw [ok_is]; rfl) | (rw [okS_is]; rfl) | (rw [ok_is, okS_is]; rfl))
theorem q_isnN : isNotM x .non h = .ok (.bl (!x.isN)) h := by cases x <;> (first | rfl | (rw [ok_is]; rfl) | (rw [okS_is]; rfl) | (rw [ok_is, okS_is]; rfl))
theorem q_isB : isM (.bl p) (.bl q) h = .ok (.bl (decide (p = q))) h := (rfl)
theorem q_isnB : isNotM (.bl p) (.bl q) h = .ok (.bl (!decide (p = q))) h := (rfl)
theorem q_isiI0 : isiP [.int i, .ty 0] h = .ok (.bl true) h := (rfl)
theorem q_isiI1 : isiP [.int i, .ty 1] h = .ok (.bl false) h := (rfl)
theorem q_isiI2 : isiP [.int i, .ty 2] h = .ok (.bl false) h := (rfl)
theorem q_isiI3 : isiP [.int i, .ty 3] h = .ok (.bl false) h := (rfl)
theorem q_isiI4 : isiP [.int i, .ty 4] h = .ok (.bl false) h := (rfl)
theorem q_isiI5 : isiP [.int i, .ty 5] h = .ok (.bl false) h := (rfl)
theorem q_isiB0 : isiP [.bl p, .ty 0] h = .ok (.bl true) h := (rfl)
theorem q_isiB1 : isiP [.bl p, .ty 1] h = .ok (.bl true) h := (rfl)
theorem q_isiB2 : isiP [.bl p, .ty 2] h = .ok (.bl false) h := (rfl)
theorem q_isiB3 : isiP [.bl p, .ty 3] h = .ok (.bl false) h := (rfl)
theorem q_isiB4 : isiP [.bl p, .ty 4] h = .ok (.bl false) h := (rfl)
theorem q_isiB5 : isiP [.bl p, .ty 5] h = .ok (.bl false) h := (rfl)
theorem q_isiS0 : isiP [.str s, .ty 0] h = .ok (.bl false) h := (rfl)
theorem q_isiS1 : isiP [.str s, .ty 1] h = .ok (.bl false) h := (rfl)
theorem q_isiS2 : isiP [.str s, .ty 2] h = .ok (.bl true) h := (rfl)
theorem q_isiS3 : isiP [.str s, .ty 3] h = .ok (.bl false) h := (rfl)
theorem q_isiS4 : isiP [.str s, .ty 4] h = .ok (.bl false) h := (rfl)
theorem q_isiS5 : isiP [.str s, .ty 5] h = .ok (.bl false) h := (rfl)
theorem q_isiT0 : isiP [.tup xs, .ty 0] h = .ok (.bl false) h := (rfl)
theorem q_isiT1 : isiP [.tup xs, .ty 1] h = .ok (.bl false) h := (rfl)
theorem q_isiT2 : isiP [.tup xs, .ty 2] h = .ok (.bl false) h := (rfl)
theorem q_isiT3 : isiP [.tup xs, .ty 3] h = .ok (.bl true) h := (rfl)
theorem q_isiT4 : isiP [.tup xs, .ty 4] h = .ok (.bl false) h := (rfl)
theorem q_isiT5 : isiP [.tup xs, .ty 5] h = .ok (.bl false) h := (rfl)
theorem q_isiR0 : isiP [.rol xs, .ty 0] h = .ok (.bl false) h := (rfl)
theorem q_isiR1 : isiP [.rol xs, .ty 1] h = .ok (.bl false) h := (rfl)
theorem q_isiR2 : isiP [.rol xs, .ty 2] h = .ok (.bl false) h := (rfl)
theorem q_isiR3 : isiP [.rol xs, .ty 3] h = .ok (.bl false) h := (rfl)
theorem q_isiR4 : isiP [.rol xs, .ty 4] h = .ok (.bl true) h := (rfl)
theorem q_isiR5 : isiP [.rol xs, .ty 5] h = .ok (.bl false) h := (rfl)
theorem q_isiN0 : isiP [.non, .ty 0] h = .ok (.bl false) h := (rfl)
theorem q_isiN1 : isiP [.non, .ty 1] h = .ok (.bl false) h := (rfl)
theorem q_isiN2 : isiP [.non, .ty 2] h = .ok (.bl false) h := (rfl)
theorem q_isiN3 : isiP [.non, .ty 3] h = .ok (.bl false) h := (rfl)
theorem q_isiN4 : isiP [.non, .ty 4] h = .ok (.bl false) h := (rfl)
theorem q_isiN5 : isiP [.non, .ty 5] h = .ok (.bl false) h := (rfl)
theorem q_lenS (hl : s.length ≤ LIM) : lenV [.str s] h = .ok (.int s.length) h := if_pos hl
theorem q_lenT : lenV [.tup xs] h = .ok (.int xs.length) h := (rfl)
theorem q_lenR : lenV [.rol xs] h = .ok (.int xs.length) h := (rfl)
theorem q_min2 : min2P [.int i, .int j] h = .ok (.int (if j < i then j else i)) h := (rfl)
theorem q_max2 : max2P [.int i, .int j] h = .ok (.int (if i < j then j else i)) h := (rfl)
theorem q_strS : strP [.str s] h = .ok (.str s) h := (rfl)
theorem q_tupP : tupP xs h = .ok (.tup xs) h := (rfl)
end
section
variable {ξ : XE} {env : Ev} {hp : MH} {Q : D → MH → Prop} {QL : List D → MH → Prop} {QS : Sc → MH → Prop} {f g : E D} {fl gl : E (List D)} {lo hi : Option (E D)}
theorem w_join : OkX ξ (vJoinL f fl env hp) Q = OkX ξ (f env hp) fun s h1 => match s with
    | .str s => OkX ξ (fl env h1) fun ds h2 => OkX ξ (joinP (.str s) ds h2) Q
    | _ => False := by
  unfold vJoinL
  rw [w_bind]
  congr 1
  funext x h
  cases x <;> first | (first | rfl | (rw [ok_is]; rfl) | (rw [okS_is]; rfl) | (rw [ok_is, okS_is]; rfl)) | (simp only [asStr, w_bind]; done)
theorem w_vSrc : OkX ξ (vSrc f env hp) QS = OkX ξ (f env hp) fun x h => OkX ξ (srcOf x h) QS := by unfold vSrc; rw [w_bind]
theorem w_aSrc {q : List D → MH → R Sc} : OkX ξ (aSrc q fl env hp) QS = OkX ξ (fl env hp) fun x h => OkX ξ (q x h) QS := by unfold aSrc; rw [w_bind]
theorem w_lSrc : OkX ξ (lSrc fl env hp) QS = OkX ξ (fl env hp) fun ds h => QS (.items ds) h := by unfold lSrc; rw [w_bind]; (first | rfl | (rw [ok_is]; rfl) | (rw [okS_is]; rfl) | (rw [ok_is, okS_is]; rfl))
theorem w_catLL : OkX ξ (catLL fl gl env hp) QL = OkX ξ (fl env hp) fun xs h1 => OkX ξ (gl env h1) fun ys h2 => OkX ξ (if xs.length + ys.length ≤ LIM then .ok (xs ++ ys) h2 else .err) QL := by unfold catLL; simp only [w_bind]
theorem w_catOL : OkX ξ (catOL f gl env hp) QL = OkX ξ (f env hp) fun x h1 => OkX ξ (gl env h1) fun ys h2 => match lstOf x h2 with
    | some xs => OkX ξ (if xs.length + ys.length ≤ LIM then .ok (xs ++ ys) h2 else .err) QL
    | none => False := by
  unfold catOL
  simp only [w_bind]
  congr 1
  funext x h
  congr 1
  funext y h2
  cases lstOf x h2 <;> (first | rfl | (rw [ok_is]; rfl) | (rw [okS_is]; rfl) | (rw [ok_is, okS_is]; rfl))
theorem w_repL : OkX ξ (repL fl g env hp) QL = OkX ξ (fl env hp) fun xs h1 => OkX ξ (g env h1) fun y h2 => match y with
    | .int k => OkX ξ (if -(2 ^ 63) ≤ k ∧ k < 2 ^ 63 ∧ xs.length * k.toNat ≤ LIM then .ok (List.replicate k.toNat xs).flatten h2 else .err) QL
    | _ => False := by
  unfold repL
  simp only [w_bind]
  congr 1
  funext x h
  congr 1
  funext y h2
  cases y <;> (first | rfl | (rw [ok_is]; rfl) | (rw [okS_is]; rfl) | (rw [ok_is, okS_is]; rfl))
theorem w_sortV : OkX ξ (lSortSetV f env hp) QL = OkX ξ (f env hp) fun x h => match lstOf x h with
    | some ds => OkX ξ (sortSet ds h) QL
    | none => False := by
  unfold lSortSetV
  simp only [w_bind]
  congr 1
  funext x h
  cases lstOf x h <;> (first | rfl | (rw [ok_is]; rfl) | (rw [okS_is]; rfl) | (rw [ok_is, okS_is]; rfl))
theorem w_asI {x : D} {kk : Int → R D} : OkX ξ (asI x kk) Q = match x with
    | .int i => OkX ξ (kk i) Q
    | _ => False := by cases x <;> (first | rfl | (rw [ok_is]; rfl) | (rw [okS_is]; rfl) | (rw [ok_is, okS_is]; rfl))
theorem w_slE0 {h : MH} {kk : Option Int → MH → R D} : OkX ξ (slE none env h kk) Q = OkX ξ (kk none h) Q := by (first | rfl | (rw [ok_is]; rfl) | (rw [okS_is]; rfl) | (rw [ok_is, okS_is]; rfl))
theorem w_slE1 {h : MH} {kk : Option Int → MH → R D} : OkX ξ (slE (some f) env h kk) Q = OkX ξ (f env h) fun x h => OkX ξ (asI x fun i => kk (some i) h) Q := by unfold slE; simp only [w_bind]
theorem w_sl : OkX ξ (vSl f lo hi env hp) Q = OkX ξ (f env hp) fun x h1 => OkX ξ (slE lo env h1 fun l h2 => slE hi env h2 fun u h3 => slM x l u h3) Q := by unfold vSl; simp only [w_bind]
theorem q_srcT {ds : List D} {h : MH} : srcOf (.tup ds) h = .ok (.items ds) h := (rfl)
theorem q_srcS {s : List Nat} {h : MH} : srcOf (.str s) h = .ok (.items (s.map fun c => .str [c])) h := (rfl)
theorem q_srcR {ds : List D} {h : MH} : srcOf (.rol ds) h = .ok (.items ds) h := (rfl)
theorem q_rng1 {j : Int} {h : MH} (h0 : -1000 ≤ j) (h1 : j ≤ 1000000) : rng1 [.int j] h = .ok (.items (upTo 0 j.toNat)) h := if_pos (by omega)
theorem q_zipT {xs ys : List D} {h : MH} : zipT [.tup xs, .tup ys] h = .ok (.items (zipD xs ys)) h := (rfl)
theorem q_slT {ds : List D} {h : MH} {l u : Option Int} : slM (.tup ds) l u h = .ok (.tup (cutL ds l u)) h := (rfl)
theorem q_slS {s : List Nat} {h : MH} {l u : Option Int} (hl : s.length ≤ LIM) : slM (.str s) l u h = .ok (.str (cutL s l u)) h := if_pos hl
theorem cut_take {t : Type} {xs : List t} {n : Nat} : cutL xs none (some (n : Int)) = xs.take n := by
  unfold cutL
  rw [HT.sIx_none, HT.sIx_nat, List.drop_zero, Nat.sub_zero]
  rcases Nat.le_total n xs.length with h | h
  · rw [Nat.min_eq_left h]
  · rw [Nat.min_eq_right h, List.take_length, List.take_of_length_le h]
theorem cut_drop {t : Type} {xs : List t} {n : Nat} : cutL xs (some (n : Int)) none = xs.drop n := by
  unfold cutL
  rw [HT.sIx_none, HT.sIx_nat]
  rcases Nat.le_total n xs.length with h | h
  · rw [Nat.min_eq_left h, List.take_of_length_le (by simp)]
  · rw [Nat.min_eq_right h, List.drop_length, List.drop_of_length_le h]; simp
theorem upTo_len : ∀ (n : Nat) (lo : Int), (upTo lo n).length = n
  | 0, _ => rfl
  | n + 1, lo => by simp [upTo, upTo_len n]
end
section
variable {ξ : XE} {elt : E D} {env : Ev} {hp : MH} {QL : List D → MH → Prop} {i : Nat} {body : S} {N : Ev → MH → Prop} {T : D → MH → Prop}
/-- [elt for i in range(n)] by what holds after j turns -/
theorem lc_rng {n : Nat} (I : Nat → List D → MH → Prop) (h0 : I 0 [] hp) (hs : ∀ j acc h, j < n → I j acc h → OkX noE (elt (env.set i (some (.int j))) h) fun y h2 => I (j + 1) (acc ++ [y]) h2) (hd : ∀ acc h, I n acc h → QL acc h) :
    OkX ξ (lcL (.nm i) bTrue elt env (upTo 0 n) hp) QL := by
  have key : ∀ (m j : Nat) (acc : List D) (h : MH), j + m = n → I j acc h → OkX ξ (lcL (.nm i) bTrue elt env (upTo j m) h) fun ys h' => QL (acc ++ ys) h' := by
    intro m
    induction m with
    | zero =>
      intro j acc h hj hI
      rw [show j = n by omega] at hI
      show OkX ξ (.ok [] h) _
      rw [w_ok, List.append_nil]
      exact hd acc h hI
    | succ m ih =>
      intro j acc h hj hI
      unfold upTo lcL
      simp only [tgM, bTrue, w_bind, w_noX, w_ok, if_true]
      refine (hs j acc h (by omega) hI).imp fun y h2 hy => ?_
      have := ih (j + 1) (acc ++ [y]) h2 (by omega) hy
      rw [show ((j + 1 : Nat) : Int) = (j : Int) + 1 by omega] at this
      refine this.imp fun ys h' q => ?_
      rw [List.append_assoc] at q
      exact q
  have := key n 0 [] hp (by omega) h0
  simpa using this
/-- for i in range(n) -/
theorem for_rng {n : Nat} (I : Nat → Ev → MH → Prop) (h0 : I 0 env hp) (hs : ∀ j e h, j < n → I j e h → OkSX ξ (body (e.set i (some (.int j))) h) (fun e2 h2 => I (j + 1) e2 h2) T) (hd : ∀ e h, I n e h → N e h) :
    OkSX ξ (forGo (.items (upTo 0 n)) (.nm i) body ((Sc.items (upTo 0 n)).size hp + 1) 0 env hp) N T := by
  show OkSX ξ (forGo (.items (upTo 0 n)) (.nm i) body ((upTo 0 n).length + 1) 0 env hp) N T
  refine w_for_items (fun r e h => ∃ j, j + r.length = n ∧ r = upTo j r.length ∧ I j e h) ⟨0, by rw [upTo_len]; omega, by rw [upTo_len]; rfl, h0⟩ ?_ ?_
  · rintro d r e h ⟨j, h1, h2, h3⟩
    simp only [List.length_cons, upTo, List.cons.injEq] at h1 h2
    refine ⟨_, rfl, ?_⟩
    rw [h2.1]
    have := hs j e h (by omega) h3
    revert this
    cases body (e.set i (some (.int j))) h with
    | next e2 hh =>
      rw [w_snext, w_snext]
      exact fun q => ⟨j + 1, by omega, by rw [show ((j + 1 : Nat) : Int) = (j : Int) + 1 by omega]; exact h2.2, q⟩
    | ret d hh => rw [w_sret, w_sret]; exact fun q => q
    | brk e2 hh => exact fun q => q.bare.elim
    | cont e2 hh => exact fun q => q.bare.elim
    | exc c e2 hh => rw [w_sexc, w_sexc]; exact fun q => q
    | err => exact fun q => q.bare.elim
  · rintro e h ⟨j, h1, _, h3⟩
    exact hd e h (by rw [← h1]; exact h3)
end
/-! ### what pure code comes to -/
theorem blsOf_map {a : Type} (g : a → Bool) : ∀ l : List a, blsOf (l.map fun x => .bl (g x)) = some (l.map g)
  | [] => rfl
  | x :: l => by simp [blsOf, blsOf_map g l]
theorem intsOf_map {a : Type} (g : a → Int) : ∀ l : List a, intsOf (l.map fun x => .int (g x)) = some (l.map g)
  | [] => rfl
  | x :: l => by simp [intsOf, intsOf_map g l]
theorem strsOf_map {a : Type} (g : a → List Nat) : ∀ l : List a, strsOf (l.map fun x => .str (g x)) = some (l.map g)
  | [] => rfl
  | x :: l => by simp [strsOf, strsOf_map g l]
theorem all_map {a : Type} (g : a → Bool) (l : List a) (h : MH) : allP (l.map fun x => .bl (g x)) h = .ok (.bl (l.all g)) h := by
  unfold allP
  rw [blsOf_map]
  simp [List.all_map]
theorem sum_map {a : Type} (g : a → Int) (l : List a) (h : MH) : sumP (l.map fun x => .int (g x)) h = .ok (.int (l.map g).sum) h := by
  unfold sumP
  rw [intsOf_map]
theorem joinL_nil : ∀ ps : List (List Nat), TL.joinL [] ps = ps.flatten
  | [] => rfl
  | [p] => by simp [TL.joinL]
  | p :: q :: r => by
    have := joinL_nil (q :: r)
    simp [TL.joinL, this]
theorem flat_len (ps : List (List Nat)) : ps.flatten.length = (ps.map List.length).sum := by rw [List.length_flatten]
theorem join_strs {ps : List (List Nat)} {h : MH} (hl : (ps.map List.length).sum ≤ LIM) : joinP (.str []) (ps.map .str) h = .ok (.str ps.flatten) h := by
  unfold joinP
  have : strsOf (ps.map D.str) = some ps := by
    have := strsOf_map (fun x : List Nat => x) ps
    simpa using this
  simp [this, hl, joinL_nil]
section
variable {ξ : XE} {t : Tg} {test : E Bool} {elt : E D} {env : Ev} {h : MH} {src : E Sc} {own : List Nat} {i : Nat}
theorem lcL_pure {ds : List D} (p : D → Bool) (g : D → D) : (∀ d ∈ ds, ∃ e', tgM t d env = some e' ∧ test e' h = .ok (p d) h ∧ (p d = true → elt e' h = .ok (g d) h)) → lcL t test elt env ds h = .ok ((ds.filter p).map g) h := by
  induction ds with
  | nil => intro _; rfl
  | cons d ds ih =>
    intro hh
    obtain ⟨e', h1, h2, h3⟩ := hh d (List.mem_cons_self ..)
    have ih' := ih fun x hx => hh x (List.mem_cons_of_mem _ hx)
    unfold lcL
    simp only [h1, h2, R.noX, R.bind]
    cases hp : p d with
    | true => simp [h3 hp, R.noX, R.bind, ih', hp]
    | false => simp [ih', hp]
theorem lcL_map {a : Type} {xs : List a} {c : a → D} (g : a → D) (he : ∀ x ∈ xs, elt (env.set i (some (c x))) h = .ok (g x) h) : lcL (.nm i) bTrue elt env (xs.map c) h = .ok (xs.map g) h := by
  induction xs with
  | nil => rfl
  | cons x xs ih =>
    have h1 := he x (List.mem_cons_self ..)
    have h2 := ih fun y hy => he y (List.mem_cons_of_mem _ hy)
    simp only [List.map_cons]
    unfold lcL
    simp only [tgM, bTrue, R.noX, R.bind, if_true, h1, h2]
theorem lcL_fil {a : Type} {xs : List a} {c : a → D} (p : a → Bool) (ht : ∀ x ∈ xs, test (env.set i (some (c x))) h = .ok (p x) h) (hi : i < env.length) : lcL (.nm i) test (vVar i) env (xs.map c) h = .ok ((xs.filter p).map c) h := by
  induction xs with
  | nil => rfl
  | cons x xs ih =>
    have h1 := ht x (List.mem_cons_self ..)
    have h2 := ih fun y hy => ht y (List.mem_cons_of_mem _ hy)
    have h3 : vVar i (env.set i (some (c x))) h = .ok (c x) h := by
      unfold vVar
      rw [List.getElem?_set_self hi]
    simp only [List.map_cons]
    unfold lcL
    simp only [tgM, h1, R.noX, R.bind]
    cases hp : p x with
    | true => simp [h3, R.noX, R.bind, h2, hp]
    | false => simp [h2, hp]
theorem lcM_items {ds : List D} (hs : src env h = .ok (.items ds) h) (hl : ds.length < LIM) : lcM src own t test elt env h = lcL t test elt (wipeE env own) ds h := by
  unfold lcM
  rw [hs]
  show (if (Sc.items ds).size h < LIM then _ else _) = _
  rw [if_pos (show (Sc.items ds).size h < LIM from hl)]
  exact lc_items
/-- [elt for i in ds] -/
theorem lc_map {a : Type} {xs : List a} {c : a → D} (g : a → D) (hs : src env h = .ok (.items (xs.map c)) h) (hl : xs.length < LIM) (he : ∀ x ∈ xs, elt ((wipeE env own).set i (some (c x))) h = .ok (g x) h) : lcM src own (.nm i) bTrue elt env h = .ok (xs.map g) h := by
  rw [lcM_items hs (by simpa using hl)]
  clear hs hl
  induction xs with
  | nil => rfl
  | cons x xs ih =>
    have h1 := he x (List.mem_cons_self ..)
    have h2 := ih fun y hy => he y (List.mem_cons_of_mem _ hy)
    simp only [List.map_cons]
    unfold lcL
    simp only [tgM, bTrue, R.noX, R.bind, if_true, h1, h2]
/-- [i for i in ds if test] -/
theorem lc_fil {a : Type} {xs : List a} {c : a → D} (p : a → Bool) (hs : src env h = .ok (.items (xs.map c)) h) (hl : xs.length < LIM) (ht : ∀ x ∈ xs, test ((wipeE env own).set i (some (c x))) h = .ok (p x) h) (hi : i < env.length) : lcM src own (.nm i) test (vVar i) env h = .ok ((xs.filter p).map c) h := by
  rw [lcM_items hs (by simpa using hl)]
  clear hs hl
  induction xs with
  | nil => rfl
  | cons x xs ih =>
    have h1 := ht x (List.mem_cons_self ..)
    have h2 := ih fun y hy => ht y (List.mem_cons_of_mem _ hy)
    have h3 : vVar i ((wipeE env own).set i (some (c x))) h = .ok (c x) h := by
      unfold vVar
      rw [List.getElem?_set_self (by rw [wipeE_len]; exact hi)]
    simp only [List.map_cons]
    unfold lcL
    simp only [tgM, h1, R.noX, R.bind]
    cases hp : p x with
    | true => simp [h3, R.noX, R.bind, h2, hp]
    | false => simp [h2, hp]
end
section
variable {ξ : XE} {t : Tg} {test : E Bool} {elt : E D} {env : Ev} {h : MH} {src : E Sc} {own : List Nat} {i n : Nat}
/-- a list that stays as it is while it is walked -/
theorem live_items {ds : List D} (hn : h[n]? = some (.lst ds)) (hp : ∀ d ∈ ds, ∃ e', tgM t d env = some e' ∧ ∃ b, test e' h = .ok b h ∧ (b = true → ∃ y, elt e' h = .ok y h)) : ∀ (f j : Nat), lcGo (.live n) t test elt env f j h = lcGo (.items ds) t test elt env f j h
  | 0, _ => rfl
  | f + 1, j => by
    unfold lcGo
    simp only [Sc.nx, hn]
    cases z : ds[j]? with
    | none => rfl
    | some d =>
      obtain ⟨e', h1, b, h2, h3⟩ := hp d (List.mem_of_getElem? z)
      simp only [h1, h2, R.noX, R.bind]
      cases b with
      | false => simp only [Bool.false_eq_true, if_false]; exact live_items hn hp f (j + 1)
      | true =>
        obtain ⟨y, h4⟩ := h3 rfl
        simp only [if_true, h4, R.noX, live_items hn hp f (j + 1)]
theorem lcM_live {ds : List D} (hs : src env h = .ok (.live n) h) (hn : h[n]? = some (.lst ds)) (hl : ds.length < LIM) (hp : ∀ d ∈ ds, ∃ e', tgM t d (wipeE env own) = some e' ∧ ∃ b, test e' h = .ok b h ∧ (b = true → ∃ y, elt e' h = .ok y h)) : lcM src own t test elt env h = lcL t test elt (wipeE env own) ds h := by
  unfold lcM
  rw [hs]
  have e : (Sc.live n).size h = ds.length := by simp [Sc.size, hn]
  show (if (Sc.live n).size h < LIM then _ else _) = _
  rw [e, if_pos hl, live_items hn hp]
  exact lc_items
theorem w_lcLive {ds : List D} {QL : List D → MH → Prop} (hn : h[n]? = some (.lst ds)) (hl : ds.length < LIM) (hp : ∀ d ∈ ds, ∃ e', tgM t d env = some e' ∧ ∃ b, test e' h = .ok b h ∧ (b = true → ∃ y, elt e' h = .ok y h)) : OkX ξ (if (Sc.live n).size h < LIM then lcGo (.live n) t test elt env ((Sc.live n).size h + 1) 0 h else .err) QL = OkX ξ (lcL t test elt env ds h) QL := by
  have e : (Sc.live n).size h = ds.length := by simp [Sc.size, hn]
  rw [e, if_pos hl, live_items hn hp, lc_items]
end
theorem filter_nil {a : Type} (p : a → Bool) (xs : List a) : (xs.filter p).isEmpty = xs.all fun x => !p x := by
  induction xs with
  | nil => rfl
  | cons x xs ih => cases hp : p x <;> simp [hp, ih]
theorem map_nil {a b : Type} (f : a → b) (xs : List a) : (xs.map f).isEmpty = xs.isEmpty := by cases xs <;> rfl
/-! ### x[i] -/
theorem atI_0 {a : Type} {x : a} {xs : List a} : atI (x :: xs) 0 = some x := atI_nat (j := 0) rfl
theorem atI_1 {a : Type} {x y : a} {xs : List a} : atI (x :: y :: xs) 1 = some y := atI_nat (j := 1) rfl
theorem atI_2 {a : Type} {x y z : a} {xs : List a} : atI (x :: y :: z :: xs) 2 = some z := atI_nat (j := 2) rfl
theorem atI_3 {a : Type} {x y z w : a} {xs : List a} : atI (x :: y :: z :: w :: xs) 3 = some w := atI_nat (j := 3) rfl
theorem ix_0 {x : D} {xs : List D} {h : MH} : ixM (.tup (x :: xs)) (.int 0) h = .ok x h := by simp [ixM, atI_0]
theorem ix_1 {x y : D} {xs : List D} {h : MH} : ixM (.tup (x :: y :: xs)) (.int 1) h = .ok y h := by simp [ixM, atI_1]
theorem ix_2 {x y z : D} {xs : List D} {h : MH} : ixM (.tup (x :: y :: z :: xs)) (.int 2) h = .ok z h := by simp [ixM, atI_2]
theorem ix_3 {x y z w : D} {xs : List D} {h : MH} : ixM (.tup (x :: y :: z :: w :: xs)) (.int 3) h = .ok w h := by simp [ixM, atI_3]
theorem atI_get' {a : Type} {xs : List a} {i : Int} (h0 : 0 ≤ i) (h1 : i < xs.length) : ∃ x, atI xs i = some x ∧ x ∈ xs ∧ xs[i.toNat]? = some x := by
  have h2 : i.toNat < xs.length := by omega
  refine ⟨xs[i.toNat], ?_, List.getElem_mem h2, List.getElem?_eq_getElem h2⟩
  have := atI_nat (xs := xs) (j := i.toNat) (List.getElem?_eq_getElem h2)
  rwa [Int.toNat_of_nonneg h0] at this
theorem ix_tup {ds : List D} {i : Int} {h : MH} (h0 : 0 ≤ i) (h1 : i < ds.length) : ∃ d, d ∈ ds ∧ ds[i.toNat]? = some d ∧ ixM (.tup ds) (.int i) h = .ok d h := by
  obtain ⟨d, e, m, g⟩ := atI_get' h0 h1
  exact ⟨d, m, g, by simp [ixM, e]⟩
theorem ix_obj {ds : List D} {i : Int} {h : MH} {n : Nat} (hn : h[n]? = some (.lst ds)) (h0 : 0 ≤ i) (h1 : i < ds.length) : ∃ d, d ∈ ds ∧ ds[i.toNat]? = some d ∧ ixM (.obj n) (.int i) h = .ok d h := by
  obtain ⟨d, e, m, g⟩ := atI_get' h0 h1
  exact ⟨d, m, g, by simp [ixM, hn, e]⟩
/-! ### heaps -/
/-- all objects stay but one, new ones may come -/
structure Fr (t : Nat) (h h' : MH) : Prop where
  len : h.length ≤ h'.length
  at' : ∀ i, i < h.length → i ≠ t → h'[i]? = h[i]?
theorem Fr.refl {t : Nat} {h : MH} : Fr t h h := ⟨Nat.le_refl _, fun _ _ _ => rfl⟩
theorem Fr.trans {t : Nat} {h h1 h2 : MH} (a : Fr t h h1) (b : Fr t h1 h2) : Fr t h h2 := ⟨Nat.le_trans a.len b.len, fun i hi ht => (b.at' i (Nat.lt_of_lt_of_le hi a.len) ht).trans (a.at' i hi ht)⟩
theorem Fr.app {t : Nat} {h l : MH} : Fr t h (h ++ l) := ⟨by simp, fun i hi _ => List.getElem?_append_left hi⟩
theorem Fr.set {t : Nat} {h : MH} {x : MO} : Fr t h (h.set t x) := ⟨by simp, fun i hi ht => List.getElem?_set_ne (Ne.symm ht)⟩
theorem Fr.get {t : Nat} {h h' : MH} {i : Nat} {x : MO} (a : Fr t h h') (e : h[i]? = some x) (ne : i ≠ t) : h'[i]? = some x := by
  have : i < h.length := by
    rcases Nat.lt_or_ge i h.length with l | l
    · exact l
    · rw [List.getElem?_eq_none l] at e; cases e
  rw [a.at' i this ne]; exact e
/-- an object made later was changed -/
theorem Fr.set_new {t n : Nat} {h h' : MH} {x : MO} (a : Fr t h h') (hn : h.length ≤ n) : Fr t h (h'.set n x) := ⟨by rw [List.length_set]; exact a.len, fun i hi ht => by rw [List.getElem?_set_ne (by omega)]; exact a.at' i hi ht⟩
/-- the drawing's own list -/
def Twn (ns : List Int) (t b : Nat) (h : MH) : Prop := ∃ (c : Nat) (cs : List Int), h[t]? = some (.lst (.int c :: cs.map .int)) ∧ cs.length = ns.length ∧ c ≤ b
section
variable {ξ : XE} {ns : List Int} {t b b' n : Nat} {h l : MH} {x : MO}
theorem Twn.lt (a : Twn ns t b h) : t < h.length := by
  obtain ⟨c, cs, e, _, _⟩ := a
  rcases Nat.lt_or_ge t h.length with l | l
  · exact l
  · rw [List.getElem?_eq_none l] at e; cases e
theorem Twn.mono (a : Twn ns t b h) (hb : b ≤ b') : Twn ns t b' h := by
  obtain ⟨c, cs, e, e2, e3⟩ := a
  exact ⟨c, cs, e, e2, Nat.le_trans e3 hb⟩
theorem Twn.app (a : Twn ns t b h) : Twn ns t b (h ++ l) := by
  have := a.lt
  obtain ⟨c, cs, e, e2, e3⟩ := a
  exact ⟨c, cs, by rw [List.getElem?_append_left this]; exact e, e2, e3⟩
theorem Twn.set_ne (a : Twn ns t b h) (hn : n ≠ t) : Twn ns t b (h.set n x) := by
  obtain ⟨c, cs, e, e2, e3⟩ := a
  exact ⟨c, cs, by rw [List.getElem?_set_ne hn]; exact e, e2, e3⟩
end
theorem get_lt {a : Type} {h : List a} {i : Nat} {x : a} (e : h[i]? = some x) : i < h.length := by
  rcases Nat.lt_or_ge i h.length with l | l
  · exact l
  · rw [List.getElem?_eq_none l] at e; cases e
theorem get_app {a : Type} {h l : List a} {i : Nat} {x : a} (e : h[i]? = some x) : (h ++ l)[i]? = some x := by rw [List.getElem?_append_left (get_lt e)]; exact e
theorem getElem?_app {h : MH} {x : MO} : (h ++ [x])[h.length]? = some x := by simp
theorem lim_0 : (0 ≤ LIM) = True := by simp [LIM]
theorem lim_1 : (1 ≤ LIM) = True := by simp [LIM]
theorem lim_2 : (2 ≤ LIM) = True := by simp [LIM]
theorem lim_3 : (3 ≤ LIM) = True := by simp [LIM]
theorem lim_4 : (4 ≤ LIM) = True := by simp [LIM]
theorem lim_5 : (5 ≤ LIM) = True := by simp [LIM]
theorem lim_6 : (6 ≤ LIM) = True := by simp [LIM]
theorem lim_7 : (7 ≤ LIM) = True := by simp [LIM]
theorem lim_8 : (8 ≤ LIM) = True := by simp [LIM]
theorem lim_9 : (9 ≤ LIM) = True := by simp [LIM]
theorem lim_10 : (10 ≤ LIM) = True := by simp [LIM]
theorem lim_11 : (11 ≤ LIM) = True := by simp [LIM]
theorem lim_12 : (12 ≤ LIM) = True := by simp [LIM]
theorem lim_13 : (13 ≤ LIM) = True := by simp [LIM]
theorem lim_14 : (14 ≤ LIM) = True := by simp [LIM]
theorem lim_15 : (15 ≤ LIM) = True := by simp [LIM]
theorem lim_16 : (16 ≤ LIM) = True := by simp [LIM]
theorem lim_17 : (17 ≤ LIM) = True := by simp [LIM]
theorem lim_18 : (18 ≤ LIM) = True := by simp [LIM]
theorem lim_19 : (19 ≤ LIM) = True := by simp [LIM]
theorem lim_20 : (20 ≤ LIM) = True := by simp [LIM]
theorem lim_21 : (21 ≤ LIM) = True := by simp [LIM]
theorem lim_22 : (22 ≤ LIM) = True := by simp [LIM]
theorem lim_23 : (23 ≤ LIM) = True := by simp [LIM]
end FT
end
section
set_option maxRecDepth 100000
namespace FT
open PySem L2
set_option autoImplicit false
/-! ### plain data: what is equal is the same -/
def plN : Nat → D → Bool
  | 0, _ => false
  | n + 1, d => match d with
    | .non => true
    | .int _ => true
    | .str s => s.all fun c => decide (c < 0x110000)
    | .tup ds => ds.all (plN n)
    | _ => false
noncomputable def eqD (x y : D) : Bool := @decide (x = y) (Classical.propDecidable _)
noncomputable def inD (x : D) (ds : List D) : Bool := @decide (x ∈ ds) (Classical.propDecidable _)
theorem eqD_iff {x y : D} : eqD x y = true ↔ x = y := by
  unfold eqD
  exact @decide_eq_true_iff _ (Classical.propDecidable _)
theorem inD_iff {x : D} {ds : List D} : inD x ds = true ↔ x ∈ ds := by
  unfold inD
  exact @decide_eq_true_iff _ (Classical.propDecidable _)
theorem pl_py {h : MH} : ∀ (n : Nat) (d : D), plN n d = true → ∃ p, pyOf h n d = some p ∧ p.canLay0 = true ∧ p.depth ≤ n
  | 0, _, e => by cases e
  | n + 1, d, e => by
    cases d with
    | non => exact ⟨_, rfl, by simp [PyData.canLay0], by simp [PyData.depth]⟩
    | int i => exact ⟨_, rfl, by simp [PyData.canLay0], by simp [PyData.depth]⟩
    | str s => exact ⟨_, rfl, by simp only [PyData.canLay0, PyData.strOk, plN] at e ⊢; simpa using e, by simp [PyData.depth]⟩
    | tup ds =>
      have all : ∀ ds : List D, ds.all (plN n) = true → ∃ ps, optAll (pyOf h n) ds = some ps ∧ PyData.canLayAll0 ps = true ∧ PyData.depthAll ps ≤ n := by
        intro ds
        induction ds with
        | nil => intro _; exact ⟨[], rfl, by simp [PyData.canLayAll0], by simp [PyData.depthAll]⟩
        | cons d ds ih =>
          intro e
          simp only [List.all_cons, Bool.and_eq_true] at e
          obtain ⟨p, e1, e2, e3⟩ := pl_py (h := h) n d e.1
          obtain ⟨ps, e4, e5, e6⟩ := ih e.2
          exact ⟨p :: ps, by simp [optAll, e1, e4], by simp [PyData.canLayAll0, e2, e5], by simp [PyData.depthAll]; omega⟩
      obtain ⟨ps, e1, e2, e3⟩ := all ds e
      exact ⟨.tuple ps, by simp [pyOf, e1], by simpa [PyData.canLay0] using e2, by simp [PyData.depth]; omega⟩
    | _ => cases e
theorem py_eq {h : MH} : ∀ (n : Nat) (x y : D) (p q : PyData), plN n x = true → plN n y = true → pyOf h n x = some p → pyOf h n y = some q → (PyData.eqv p q = true ↔ x = y)
  | 0, _, _, _, _, e, _, _, _ => by cases e
  | n + 1, x, y, p, q, ex, ey, e1, e2 => by
    have all : ∀ (xs ys : List D) (ps qs : List PyData), xs.all (plN n) = true → ys.all (plN n) = true → optAll (pyOf h n) xs = some ps → optAll (pyOf h n) ys = some qs → (PyData.eqvAll ps qs = true ↔ xs = ys) := by
      intro xs
      induction xs with
      | nil =>
        intro ys ps qs _ ey e1 e2
        cases e1
        cases ys with
        | nil => cases e2; simp [PyData.eqvAll]
        | cons y ys => obtain ⟨z, zs, _, _, rfl⟩ := optAll_cons e2; simp [PyData.eqvAll]
      | cons x xs ih =>
        intro ys ps qs ex ey e1 e2
        obtain ⟨z, zs, f1, f2, rfl⟩ := optAll_cons e1
        cases ys with
        | nil => cases e2; simp [PyData.eqvAll]
        | cons y ys =>
          obtain ⟨u, us, f3, f4, rfl⟩ := optAll_cons e2
          simp only [List.all_cons, Bool.and_eq_true] at ex ey
          have a := py_eq n x y z u ex.1 ey.1 f1 f3
          have b := ih ys zs us ex.2 ey.2 f2 f4
          simp [PyData.eqvAll, a, b]
    cases x <;> first | (exfalso; cases ex; done) | skip
    all_goals cases y <;> first | (exfalso; cases ey; done) | skip
    all_goals simp only [pyOf, Option.map_eq_some_iff, Option.some.injEq] at e1 e2
    all_goals first | (obtain ⟨ps, g1, rfl⟩ := e1) | subst e1
    all_goals first | (obtain ⟨qs, g2, rfl⟩ := e2) | subst e2
    all_goals first
      | (simp only [plN] at ex ey; rw [PyData.eqv, D.tup.injEq]; exact all _ _ _ _ ex ey g1 g2)
      | (simp [PyData.eqv]; done)
theorem eq_pl {h : MH} {x y : D} (hx : plN 40 x = true) (hy : plN 40 y = true) : eqM x y h = .ok (.bl (eqD x y)) h := by
  obtain ⟨p, p1, p2, p3⟩ := pl_py (h := h) 40 x hx
  obtain ⟨q, q1, q2, q3⟩ := pl_py (h := h) 40 y hy
  have k := py_eq 40 x y p q hx hy p1 q1
  have e : py2 x y h (fun p q => .ok (.bl (PyData.eqv p q)) h) = .ok (.bl (eqD x y)) h := by
    unfold py2
    simp only [DEEP, p1, q1, SeqAt.shaped, p2, q2, show p.depth ≤ 64 by omega, show q.depth ≤ 64 by omega, decide_true, Bool.and_self, and_self, if_true]
    have : PyData.eqv p q = eqD x y := by rw [Bool.eq_iff_iff, k, eqD_iff]
    rw [this]
  have z : ∀ b : Bool, (b = true ↔ x = y) → R.ok (D.bl b) h = R.ok (D.bl (eqD x y)) h := fun b hb => by
    have : b = eqD x y := by rw [Bool.eq_iff_iff, hb, eqD_iff]
    rw [this]
  cases x <;> cases y <;> first | exact e | (refine z _ ?_; simp; done) | (cases hx; done)
theorem ne_pl {h : MH} {x y : D} (hx : plN 40 x = true) (hy : plN 40 y = true) : neM x y h = .ok (.bl (!eqD x y)) h := by
  obtain ⟨p, p1, p2, p3⟩ := pl_py (h := h) 40 x hx
  obtain ⟨q, q1, q2, q3⟩ := pl_py (h := h) 40 y hy
  have k := py_eq 40 x y p q hx hy p1 q1
  have e : py2 x y h (fun p q => .ok (.bl (!PyData.eqv p q)) h) = .ok (.bl (!eqD x y)) h := by
    unfold py2
    simp only [DEEP, p1, q1, SeqAt.shaped, p2, q2, show p.depth ≤ 64 by omega, show q.depth ≤ 64 by omega, decide_true, Bool.and_self, and_self, if_true]
    have : PyData.eqv p q = eqD x y := by rw [Bool.eq_iff_iff, k, eqD_iff]
    rw [this]
  have z : ∀ b : Bool, (b = true ↔ x = y) → R.ok (D.bl (!b)) h = R.ok (D.bl (!eqD x y)) h := fun b hb => by
    have : b = eqD x y := by rw [Bool.eq_iff_iff, hb, eqD_iff]
    rw [this]
  cases x <;> cases y <;> first | exact e | (refine z _ ?_; simp; done) | (cases hx; done)
/-- x in (..) -/
theorem opt_all {h : MH} {n : Nat} : ∀ ds : List D, ds.all (plN n) = true → ∃ ps, optAll (pyOf h n) ds = some ps ∧ PyData.canLayAll0 ps = true ∧ PyData.depthAll ps ≤ n
  | [], _ => ⟨[], rfl, by simp [PyData.canLayAll0], by simp [PyData.depthAll]⟩
  | d :: ds, e => by
    simp only [List.all_cons, Bool.and_eq_true] at e
    obtain ⟨p, e1, e2, e3⟩ := pl_py (h := h) n d e.1
    obtain ⟨ps, e4, e5, e6⟩ := opt_all (h := h) ds e.2
    exact ⟨p :: ps, by simp [optAll, e1, e4], by simp [PyData.canLayAll0, e2, e5], by simp [PyData.depthAll]; omega⟩
theorem any_in {h : MH} {n : Nat} {x : D} {p : PyData} (hx : plN n x = true) (hp : pyOf h n x = some p) : ∀ (ds : List D) (ps : List PyData), ds.all (plN n) = true → optAll (pyOf h n) ds = some ps → ((ps.any fun z => PyData.eqv z p) = true ↔ x ∈ ds)
  | [], _, _, e => by cases e; simp
  | d :: ds, _, hd, e => by
    obtain ⟨z, zs, f1, f2, rfl⟩ := optAll_cons e
    simp only [List.all_cons, Bool.and_eq_true] at hd
    have a := py_eq n d x z p hd.1 hx f1 hp
    have b := any_in hx hp ds zs hd.2 f2
    simp only [List.any_cons, Bool.or_eq_true, a, b, List.mem_cons]
    constructor
    · rintro (e | e)
      · exact .inl e.symm
      · exact .inr e
    · rintro (e | e)
      · exact .inl e.symm
      · exact .inr e
theorem plN_mono : ∀ (n : Nat) (d : D), plN n d = true → plN (n + 1) d = true
  | 0, _, e => by cases e
  | n + 1, d, e => by
    cases d with
    | tup ds =>
      simp only [plN, List.all_eq_true] at e ⊢
      intro x hx
      exact plN_mono n x (e x hx)
    | _ => exact e
section
variable {h : MH} {x : D} {ds : List D}
theorem in_run {y : D} {f : List PyData → PyData} (hf : f = PyData.tuple ∨ f = PyData.list) (hx : plN 39 x = true) (hd : ds.all (plN 39) = true) (hy : ∀ ps, optAll (pyOf h 39) ds = some ps → pyOf h 40 y = some (f ps)) :
    (py2 x y h fun p q => match q with
    | .list ds => .ok (.bl (ds.any fun z => PyData.eqv z p)) h
    | .tuple ds => .ok (.bl (ds.any fun z => PyData.eqv z p)) h
    | _ => .err) = R.ok (.bl (inD x ds)) h ∧ (py2 x y h fun p q => match q with
    | .list ds => .ok (.bl (!ds.any fun z => PyData.eqv z p)) h
    | .tuple ds => .ok (.bl (!ds.any fun z => PyData.eqv z p)) h
    | _ => .err) = R.ok (.bl (!inD x ds)) h := by
  obtain ⟨p, p1, p2, p3⟩ := pl_py (h := h) 40 x (plN_mono 39 x hx)
  obtain ⟨p', p1', _, _⟩ := pl_py (h := h) 39 x hx
  obtain ⟨ps, q1, q2, q3⟩ := opt_all (h := h) ds hd
  have same : ∀ (n : Nat) (d : D) (p : PyData), pyOf h n d = some p → pyOf h (n + 1) d = some p := by
    intro n
    induction n with
    | zero => intro d p e; cases e
    | succ n ih =>
      intro d p e
      have all : ∀ (ds : List D) (ps : List PyData), optAll (pyOf h n) ds = some ps → optAll (pyOf h (n + 1)) ds = some ps := by
        intro ds
        induction ds with
        | nil => intro ps e; exact e
        | cons d ds ih2 =>
          intro ps e
          obtain ⟨z, zs, f1, f2, rfl⟩ := optAll_cons e
          simp [optAll, ih d z f1, ih2 zs f2]
      cases d with
      | tup ds =>
        rw [pyOf, Option.map_eq_some_iff] at e ⊢
        obtain ⟨a, b, c⟩ := e
        exact ⟨a, all _ _ b, c⟩
      | rol ds =>
        rw [pyOf, Option.map_eq_some_iff] at e ⊢
        obtain ⟨a, b, c⟩ := e
        exact ⟨a, all _ _ b, c⟩
      | obj m =>
        have key : ∀ n, pyOf h (n + 1) (.obj m) = match h[m]? with
          | some (.lst ds) => (optAll (pyOf h n) ds).map PyData.list
          | _ => none := fun _ => rfl
        rw [key] at e ⊢
        cases hm : h[m]? with
        | none => rw [hm] at e; cases e
        | some o =>
          rw [hm] at e
          cases o with
          | lst xs =>
            rw [Option.map_eq_some_iff] at e ⊢
            obtain ⟨a, b, c⟩ := e
            exact ⟨a, all _ _ b, c⟩
          | _ => cases e
      | _ => exact e
  have pp : p' = p := by
    have := same 39 x p' p1'
    rw [p1] at this
    exact (Option.some.inj this).symm
  subst pp
  have k := any_in hx p1' ds ps hd q1
  have e : (ps.any fun z => PyData.eqv z p') = inD x ds := by rw [Bool.eq_iff_iff, k, inD_iff]
  have c1 : (f ps).canLay0 = true := by rcases hf with rfl | rfl <;> simpa [PyData.canLay0] using q2
  have c2 : (f ps).depth ≤ 64 := by rcases hf with rfl | rfl <;> (simp only [PyData.depth]; omega)
  unfold py2
  simp only [DEEP, p1, hy ps q1, SeqAt.shaped, p2, c1, c2, show p'.depth ≤ 64 by omega, decide_true, Bool.and_self, and_self, if_true]
  rcases hf with rfl | rfl <;> exact ⟨by simp only [e], by simp only [e]⟩
theorem in_tup (hx : plN 39 x = true) (hd : ds.all (plN 39) = true) : inM x (.tup ds) h = .ok (.bl (inD x ds)) h := by
  have a := (in_run (h := h) (y := .tup ds) (.inl rfl) hx hd fun ps e => by show Option.map _ (optAll (pyOf h 39) ds) = _; rw [e]; rfl).1
  unfold inM
  split
  · rename_i e; cases e
  · exact a
theorem in_lst {n : Nat} (hn : h[n]? = some (.lst ds)) (hx : plN 39 x = true) (hd : ds.all (plN 39) = true) : inM x (.obj n) h = .ok (.bl (inD x ds)) h := by
  have a := (in_run (h := h) (y := .obj n) (.inr rfl) hx hd fun ps e => by rw [pyOf, hn]; show Option.map _ (optAll (pyOf h 39) ds) = _; rw [e]; rfl).1
  unfold inM
  split
  · rename_i e; cases e
  · exact a
theorem nin_tup (hx : plN 39 x = true) (hd : ds.all (plN 39) = true) : notInM x (.tup ds) h = .ok (.bl (!inD x ds)) h := by
  have a := (in_run (h := h) (y := .tup ds) (.inl rfl) hx hd fun ps e => by show Option.map _ (optAll (pyOf h 39) ds) = _; rw [e]; rfl).2
  unfold notInM
  split
  · rename_i e; cases e
  · exact a
theorem nin_lst {n : Nat} (hn : h[n]? = some (.lst ds)) (hx : plN 39 x = true) (hd : ds.all (plN 39) = true) : notInM x (.obj n) h = .ok (.bl (!inD x ds)) h := by
  have a := (in_run (h := h) (y := .obj n) (.inr rfl) hx hd fun ps e => by rw [pyOf, hn]; show Option.map _ (optAll (pyOf h 39) ds) = _; rw [e]; rfl).2
  unfold notInM
  split
  · rename_i e; cases e
  · exact a
end
end FT
end
section
set_option maxRecDepth 100000
namespace FT
open PySem L2
set_option autoImplicit false
/-! ### formats and their values, with no program in sight -/
abbrev Sg := List Nat
inductive SF where
  | word (s : Sg) | digits (lo hi : Nat) | letters (lo hi : Nat) | number (n : Nat) | choice (ts : List Sg)
inductive FF where
  | one (s : SF) | rep (s : SF) (lo hi : Nat)
abbrev kWord : Sg := [119, 111, 114, 100]
abbrev kDigits : Sg := [100, 105, 103, 105, 116, 115]
abbrev kLetters : Sg := [108, 101, 116, 116, 101, 114, 115]
abbrev kNumber : Sg := [110, 117, 109, 98, 101, 114]
abbrev kChoice : Sg := [99, 104, 111, 105, 99, 101]
abbrev kRepeat : Sg := [114, 101, 112, 101, 97, 116]
abbrev cSigns : Sg := [45, 46, 48, 49, 50, 51, 52, 53, 54, 55, 56, 57, 58, 97, 98, 99, 100, 101, 102]
abbrev cDig : Sg := [48, 49, 50, 51, 52, 53, 54, 55, 56, 57]
abbrev cLet : Sg := [97, 98, 99, 100, 101, 102]
def SF.d : SF → D
  | .word s => .tup [.str kWord, .str s]
  | .digits lo hi => .tup [.str kDigits, .int lo, .int hi]
  | .letters lo hi => .tup [.str kLetters, .int lo, .int hi]
  | .number n => .tup [.str kNumber, .int n]
  | .choice ts => .tup [.str kChoice, .tup (ts.map .str)]
def FF.d : FF → D
  | .one s => s.d
  | .rep s lo hi => .tup [.str kRepeat, s.d, .int lo, .int hi]
def TxOk (s : Sg) : Prop := 1 ≤ s.length ∧ s.length ≤ 4 ∧ ∀ c ∈ s, c ∈ cSigns
def SF.Ok : SF → Prop
  | .word s => TxOk s
  | .digits lo hi => lo ≤ hi ∧ hi ≤ 4
  | .letters lo hi => lo ≤ hi ∧ hi ≤ 4
  | .number n => 1 ≤ n ∧ n ≤ 4
  | .choice ts => 1 ≤ ts.length ∧ ts.length ≤ 4 ∧ (∀ s ∈ ts, TxOk s) ∧ ts.Pairwise (· < ·)
def FF.Ok : FF → Prop
  | .one s => s.Ok
  | .rep s lo hi => s.Ok ∧ lo ≤ hi ∧ 1 ≤ hi ∧ hi ≤ 3
def only' (s cs : Sg) : Bool := s.all fun c => decide (c ∈ cs)
def SF.val : SF → D → Bool
  | .word s, .str t => decide (t = s)
  | .digits lo hi, .str t => only' t cDig && (decide (lo ≤ t.length) && decide (t.length ≤ hi))
  | .letters lo hi, .str t => only' t cLet && (decide (lo ≤ t.length) && decide (t.length ≤ hi))
  | .number n, .int i => decide (0 ≤ i) && decide (i < 10 ^ n)
  | .choice ts, .str t => decide (t ∈ ts)
  | _, _ => false
def FF.val : FF → D → Bool
  | .one s, d => s.val d
  | .rep s lo hi, .tup ds => (decide (lo ≤ ds.length) && decide (ds.length ≤ hi)) && ds.all s.val
  | _, _ => false
def vals : List FF → List D → Bool
  | [], [] => true
  | f :: fs, d :: ds => f.val d && vals fs ds
  | _, _ => false
def listed (fs : List FF) : D → Bool
  | .tup ds => vals fs ds
  | _ => false
/-- the text of a value -/
def ptxt : D → Sg
  | .str s => s
  | .int i => decL i.toNat
  | _ => []
def vtxt : D → Sg
  | .tup ds => (ds.map ptxt).flatten
  | d => ptxt d
/-- what may be asked whether it is a value -/
def Bas (h : MH) (d : D) : Prop := (∃ t, tyOf d h = some t ∧ t < 7) ∧ (∀ s, d = .str s → s.length ≤ 1000000 ∧ ∀ c ∈ s, c < 1114112) ∧ ∀ ds, d = .tup ds → ds.length < 1000000
def Flat (h : MH) (d : D) : Prop := Bas h d ∧ ∀ ds, d = .tup ds → ∀ x ∈ ds, Bas h x
theorem Bas.mono {t : Nat} {h h' : MH} {d : D} (a : Bas h d) (f : Fr t h h') (ht : ∀ n, d = .obj n → n ≠ t) : Bas h' d := by
  obtain ⟨⟨k, e, e2⟩, b, c⟩ := a
  refine ⟨⟨k, ?_, e2⟩, b, c⟩
  cases d with
  | obj n =>
    simp only [tyOf] at e ⊢
    have : n ≠ t := ht n rfl
    cases q : h[n]? with
    | none => rw [q] at e; cases e
    | some o => rw [q] at e; rw [f.get q this]; exact e
  | _ => exact e
theorem val_str {f : SF} {d : D} (hv : f.val d = true) : (∃ s, d = .str s) ∨ ∃ i, d = .int i := by
  cases f <;> cases d <;> first | (cases hv; done) | exact .inl ⟨_, rfl⟩ | exact .inr ⟨_, rfl⟩
theorem listed_len {fs : List FF} {d : D} (h : listed fs d = true) : ∃ ds, d = .tup ds ∧ ds.length = fs.length ∧ vals fs ds = true := by
  cases d <;> first | (cases h; done) | skip
  rename_i ds
  refine ⟨ds, rfl, ?_, h⟩
  simp only [listed] at h
  induction fs generalizing ds with
  | nil => cases ds with
    | nil => rfl
    | cons d ds => cases h
  | cons f fs ih => cases ds with
    | nil => cases h
    | cons d ds =>
      simp only [vals, Bool.and_eq_true] at h
      simp [ih ds h.2]
theorem vals_get : ∀ {fs : List FF} {ds : List D} {i : Nat} {f : FF} {d : D}, vals fs ds = true → fs[i]? = some f → ds[i]? = some d → f.val d = true
  | [], _, _, _, _, _, e, _ => by simp at e
  | f :: fs, [], _, _, _, h, _, _ => by cases h
  | f :: fs, d :: ds, 0, _, _, h, e1, e2 => by
    simp only [vals, Bool.and_eq_true] at h
    simp at e1 e2
    subst e1 e2
    exact h.1
  | f :: fs, d :: ds, i + 1, _, _, h, e1, e2 => by
    simp only [vals, Bool.and_eq_true] at h
    simp at e1 e2
    exact vals_get h.2 e1 e2
/-- one value is changed -/
theorem vals_set : ∀ {fs : List FF} {ds : List D} {i : Nat} {f : FF} (x : D), vals fs ds = true → fs[i]? = some f → vals fs (ds.take i ++ x :: ds.drop (i + 1)) = f.val x
  | [], _, _, _, _, _, e => by simp at e
  | f :: fs, [], _, _, _, h, _ => by cases h
  | f :: fs, d :: ds, 0, _, x, h, e => by
    simp only [vals, Bool.and_eq_true] at h
    simp at e
    subst e
    simp [vals, h.2]
  | f :: fs, d :: ds, i + 1, _, x, h, e => by
    simp only [vals, Bool.and_eq_true] at h
    simp at e
    have := vals_set x h.2 e
    simp [vals, h.1, this]
theorem decL_len {n k : Nat} (hk : 0 < k) (h : n < 10 ^ k) : 1 ≤ (decL n).length ∧ (decL n).length ≤ k := by
  unfold decL
  rw [List.length_map]
  exact ⟨Nat.length_toDigits_pos, (Nat.length_toDigits_le_iff (by decide) hk).mpr h⟩
theorem minI_le2 : ∀ (r : List Int) (m : Int), minI r m ≤ m ∧ ∀ x ∈ r, minI r m ≤ x
  | [], m => ⟨Int.le_refl _, fun x hx => by simp at hx⟩
  | y :: r, m => by
    have ih := minI_le2 r (if y < m then y else m)
    unfold minI
    split at ih <;> rename_i hc <;> simp only [hc, if_true, if_false] <;> refine ⟨by omega, fun x hx => ?_⟩ <;> rcases List.mem_cons.mp hx with rfl | hx <;> first | omega | exact ih.2 x hx
theorem le_maxI : ∀ (r : List Int) (m : Int), m ≤ maxI r m ∧ ∀ x ∈ r, x ≤ maxI r m
  | [], m => ⟨Int.le_refl _, fun x hx => by simp at hx⟩
  | y :: r, m => by
    have ih := le_maxI r (if m < y then y else m)
    unfold maxI
    split at ih <;> rename_i hc <;> simp only [hc, if_true, if_false] <;> refine ⟨by omega, fun x hx => ?_⟩ <;> rcases List.mem_cons.mp hx with rfl | hx <;> first | omega | exact ih.2 x hx
def lens (ts : List Sg) : List Int := ts.map fun t => (t.length : Int)
def least : List Int → Int
  | [] => 0
  | x :: r => minI r x
def most : List Int → Int
  | [] => 0
  | x :: r => maxI r x
theorem least_le {l : List Int} {x : Int} (h : x ∈ l) : least l ≤ x := by
  cases l with
  | nil => simp at h
  | cons y r =>
    rcases List.mem_cons.mp h with rfl | h
    · exact (minI_le2 r _).1
    · exact (minI_le2 r _).2 x h
theorem le_most {l : List Int} {x : Int} (h : x ∈ l) : x ≤ most l := by
  cases l with
  | nil => simp at h
  | cons y r =>
    rcases List.mem_cons.mp h with rfl | h
    · exact (le_maxI r _).1
    · exact (le_maxI r _).2 x h
def SF.lo : SF → Int
  | .word s => s.length
  | .digits lo _ => lo
  | .letters lo _ => lo
  | .number _ => 1
  | .choice ts => least (lens ts)
def SF.hi : SF → Int
  | .word s => s.length
  | .digits _ hi => hi
  | .letters _ hi => hi
  | .number n => n
  | .choice ts => most (lens ts)
def FF.lo : FF → Int
  | .one s => s.lo
  | .rep s lo _ => s.lo * lo
def FF.hi : FF → Int
  | .one s => s.hi
  | .rep s _ hi => s.hi * hi
theorem SF.len {f : SF} {d : D} (hf : f.Ok) (hv : f.val d = true) : f.lo ≤ (ptxt d).length ∧ ((ptxt d).length : Int) ≤ f.hi := by
  cases f <;> cases d <;> first | (cases hv; done) | skip
  · simp only [SF.val, decide_eq_true_eq] at hv
    subst hv
    exact ⟨Int.le_refl _, Int.le_refl _⟩
  · simp only [SF.val, Bool.and_eq_true, decide_eq_true_eq] at hv
    simp only [SF.lo, SF.hi, ptxt]
    omega
  · simp only [SF.val, Bool.and_eq_true, decide_eq_true_eq] at hv
    simp only [SF.lo, SF.hi, ptxt]
    omega
  · rename_i n i
    simp only [SF.val, Bool.and_eq_true, decide_eq_true_eq] at hv
    simp only [SF.lo, SF.hi, ptxt]
    have h1 : i.toNat < 10 ^ n := by
      have h2 : ((i.toNat : Nat) : Int) < ((10 ^ n : Nat) : Int) := by
        rw [Int.toNat_of_nonneg hv.1]
        simpa using hv.2
      exact Int.ofNat_lt.mp h2
    have := decL_len hf.1 h1
    omega
  · rename_i ts t
    simp only [SF.val, decide_eq_true_eq] at hv
    simp only [SF.lo, SF.hi, ptxt]
    have hm : (t.length : Int) ∈ lens ts := List.mem_map.mpr ⟨t, hv, rfl⟩
    exact ⟨least_le hm, le_most hm⟩
theorem SF.lo_nn {f : SF} : 0 ≤ f.lo ∧ 0 ≤ f.hi := by
  have nn : ∀ ts : List Sg, 0 ≤ least (lens ts) ∧ 0 ≤ most (lens ts) := fun ts => by
    cases ts with
    | nil => exact ⟨Int.le_refl _, Int.le_refl _⟩
    | cons t ts =>
      refine ⟨?_, Int.le_trans (show (0 : Int) ≤ (t.length : Int) by omega) (le_most (List.mem_cons_self ..))⟩
      have := minI_mem (lens ts) (t.length : Int)
      show 0 ≤ minI (lens ts) (t.length : Int)
      rcases List.mem_cons.mp this with e | e
      · rw [e]; omega
      · obtain ⟨u, _, e⟩ := List.mem_map.mp e
        rw [← e]; omega
  cases f <;> simp only [SF.lo, SF.hi] <;> first | exact nn _ | omega
theorem flat_bounds {f : SF} (hf : f.Ok) : ∀ ds : List D, ds.all f.val = true → f.lo * ds.length ≤ ((ds.map ptxt).flatten.length : Int) ∧ ((ds.map ptxt).flatten.length : Int) ≤ f.hi * ds.length
  | [], _ => by simp
  | d :: ds, h => by
    simp only [List.all_cons, Bool.and_eq_true] at h
    have a := SF.len hf h.1
    have b := flat_bounds hf ds h.2
    simp only [List.map_cons, List.flatten_cons, List.length_append, List.length_cons, Int.natCast_add, Int.natCast_one, Int.mul_add, Int.mul_one]
    omega
theorem FF.len {f : FF} {d : D} (hf : f.Ok) (hv : f.val d = true) : f.lo ≤ (vtxt d).length ∧ ((vtxt d).length : Int) ≤ f.hi := by
  cases f with
  | one s =>
    have := SF.len hf hv
    rcases val_str (show s.val d = true from hv) with ⟨t, rfl⟩ | ⟨i, rfl⟩ <;> exact this
  | rep s lo hi =>
    cases d <;> first | (cases hv; done) | skip
    rename_i ds
    simp only [FF.val, Bool.and_eq_true, decide_eq_true_eq] at hv
    have a := flat_bounds hf.1 ds hv.2
    have n := SF.lo_nn (f := s)
    simp only [FF.lo, FF.hi, vtxt]
    have h1 : s.lo * (lo : Int) ≤ s.lo * (ds.length : Int) := Int.mul_le_mul_of_nonneg_left (by omega) n.1
    have h2 : s.hi * (ds.length : Int) ≤ s.hi * (hi : Int) := Int.mul_le_mul_of_nonneg_left (by omega) n.2
    omega
theorem vals_len : ∀ (fs : List FF) (ds : List D), (∀ f ∈ fs, f.Ok) → vals fs ds = true → (fs.map FF.lo).sum ≤ ((ds.map vtxt).flatten.length : Int) ∧ ((ds.map vtxt).flatten.length : Int) ≤ (fs.map FF.hi).sum
  | [], [], _, _ => by simp
  | [], d :: ds, _, h => by cases h
  | f :: fs, [], _, h => by cases h
  | f :: fs, d :: ds, hf, h => by
    simp only [vals, Bool.and_eq_true] at h
    have a := FF.len (hf f (List.mem_cons_self ..)) h.1
    have b := vals_len fs ds (fun g hg => hf g (List.mem_cons_of_mem _ hg)) h.2
    simp only [List.map_cons, List.sum_cons, List.flatten_cons, List.length_append, Int.natCast_add]
    omega
end FT
end
section
set_option maxRecDepth 100000
namespace FT
open PySem L2
set_option autoImplicit false
/-! ### the notation in plain Lean -/
def numOf (w : Sg) : Int := match w with
  | [c] => if 48 ≤ c ∧ c ≤ 52 then (c : Int) - 48 else -1
  | _ => -1
def nums (s : Sg) : List D := (splC 44 s).map fun w => .int (numOf w)
def nameOf (p : Sg) : Sg := if p.take 1 = [100] then kDigits else if p.take 1 = [108] then kLetters else []
def readS (p : Sg) : D :=
  if p.take 1 = [61] then .tup [.str kWord, .str (p.drop 1)]
  else if p.take 1 = [124] then .tup [.str kChoice, .tup ((splC 124 (p.drop 1)).map .str)]
  else if p.take 1 = [110] then .tup [.str kNumber, .int (numOf (p.drop 1))]
  else .tup (.str (nameOf p) :: nums (p.drop 1))
def readF (p : Sg) : D := if 42 ∈ p then .tup (.str kRepeat :: readS (p.take (p.idxOf 42)) :: nums (p.drop (p.idxOf 42 + 1))) else readS p
def lawF (p : Sg) : D := if p.count 42 = 1 then readF p else readS p
def SF.line : SF → Sg
  | .word s => 61 :: s
  | .digits lo hi => 100 :: decL lo ++ 44 :: decL hi
  | .number n => 110 :: decL n
  | .letters lo hi => 108 :: decL lo ++ 44 :: decL hi
  | .choice ts => (ts.map fun t => 124 :: t).flatten
def FF.line : FF → Sg
  | .one f => f.line
  | .rep f lo hi => f.line ++ (42 :: decL lo ++ 44 :: decL hi)
def formLine (fs : List FF) : Sg := TL.joinL [32] (fs.map FF.line)
theorem dec1 : ∀ n, n ≤ 4 → decL n = [48 + n] := by
  intro n h
  have : n = 0 ∨ n = 1 ∨ n = 2 ∨ n = 3 ∨ n = 4 := by omega
  rcases this with rfl | rfl | rfl | rfl | rfl <;> decide
theorem num1 {n : Nat} (h : n ≤ 4) : numOf [48 + n] = n := by
  simp only [numOf]
  rw [if_pos (by omega)]
  omega
theorem splC_free {c : Nat} : ∀ {s : Sg}, c ∉ s → splC c s = [s]
  | [], _ => rfl
  | x :: xs, h => by
    have h1 : ¬ x = c := fun e => h (e ▸ List.mem_cons_self ..)
    have h2 := splC_free (c := c) (s := xs) fun e => h (List.mem_cons_of_mem _ e)
    simp [splC, h1, h2]
theorem splC_app {c : Nat} {q : Sg} : ∀ {s : Sg}, c ∉ s → splC c (s ++ c :: q) = s :: splC c q
  | [], _ => by simp [splC]
  | x :: xs, h => by
    have h1 : ¬ x = c := fun e => h (e ▸ List.mem_cons_self ..)
    have h2 := splC_app (c := c) (q := q) (s := xs) fun e => h (List.mem_cons_of_mem _ e)
    simp [splC, h1, h2]
theorem splC_join {c : Nat} : ∀ {ps : List Sg}, ps ≠ [] → (∀ p ∈ ps, c ∉ p) → splC c (TL.joinL [c] ps) = ps
  | [], h, _ => absurd rfl h
  | [p], _, h => by simp only [TL.joinL]; exact splC_free (h p (by simp))
  | p :: q :: r, _, h => by
    have ih := splC_join (c := c) (ps := q :: r) (by simp) fun p hp => h p (List.mem_cons_of_mem _ hp)
    simp only [TL.joinL] at ih ⊢
    rw [show p ++ ([c] ++ TL.joinL [c] (q :: r)) = p ++ c :: TL.joinL [c] (q :: r) by simp]
    rw [splC_app (h p (by simp)), ih]
theorem splC_flat {c : Nat} : ∀ {ts : List Sg}, ts ≠ [] → (∀ t ∈ ts, c ∉ t) → splC c ((ts.map fun t => c :: t).flatten.drop 1) = ts
  | [], h, _ => absurd rfl h
  | [t], _, h => by simp; exact splC_free (h t (by simp))
  | t :: u :: r, _, h => by
    have ih := splC_flat (c := c) (ts := u :: r) (by simp) fun p hp => h p (List.mem_cons_of_mem _ hp)
    simp only [List.map_cons, List.flatten_cons, List.cons_append, List.drop_succ_cons, List.drop_zero] at ih ⊢
    rw [splC_app (h t (by simp)), ih]
theorem sg_lt : ∀ c ∈ cSigns, c ≠ 42 ∧ c ≠ 32 ∧ c ≠ 124 ∧ c ≠ 44 ∧ c < 128 := by decide
theorem tx_free {s : Sg} (h : TxOk s) {c : Nat} (hc : c = 42 ∨ c = 32 ∨ c = 124) : c ∉ s := fun m => by
  have := sg_lt c (h.2.2 c m)
  omega
/-- what stands in a line -/
theorem SF.line_ok {f : SF} (fo : f.Ok) : 42 ∉ f.line ∧ 32 ∉ f.line ∧ f.line.length ≤ 20 ∧ ∀ c ∈ f.line, c < 128 := by
  cases f with
  | word s =>
    have h1 := tx_free fo (c := 42) (by simp)
    have h2 := tx_free fo (c := 32) (by simp)
    have := fo.2.1
    refine ⟨by simp [SF.line, h1], by simp [SF.line, h2], by simp [SF.line]; omega, fun c hc => ?_⟩
    simp only [SF.line, List.mem_cons] at hc
    rcases hc with rfl | hc
    · omega
    · exact (sg_lt c (fo.2.2 c hc)).2.2.2.2
  | digits lo hi =>
    obtain ⟨f1, f2⟩ := fo
    simp only [SF.line, dec1 lo (by omega), dec1 hi (by omega), List.cons_append, List.nil_append, List.mem_cons, List.not_mem_nil, or_false, List.length_cons, List.length_nil]
    exact ⟨by omega, by omega, by omega, fun c hc => by omega⟩
  | letters lo hi =>
    obtain ⟨f1, f2⟩ := fo
    simp only [SF.line, dec1 lo (by omega), dec1 hi (by omega), List.cons_append, List.nil_append, List.mem_cons, List.not_mem_nil, or_false, List.length_cons, List.length_nil]
    exact ⟨by omega, by omega, by omega, fun c hc => by omega⟩
  | number n =>
    obtain ⟨f1, f2⟩ := fo
    simp only [SF.line, dec1 n (by omega), List.mem_cons, List.not_mem_nil, or_false, List.length_cons, List.length_nil]
    exact ⟨by omega, by omega, by omega, fun c hc => by omega⟩
  | choice ts =>
    obtain ⟨f1, f2, f3, f4⟩ := fo
    have mem : ∀ c, c ∈ (ts.map fun t => 124 :: t).flatten → c = 124 ∨ ∃ t ∈ ts, c ∈ t := fun c hc => by
      simp only [List.mem_flatten, List.mem_map] at hc
      obtain ⟨l, ⟨t, ht, rfl⟩, hc⟩ := hc
      rcases List.mem_cons.mp hc with rfl | hc
      · exact .inl rfl
      · exact .inr ⟨t, ht, hc⟩
    refine ⟨fun hc => ?_, fun hc => ?_, ?_, fun c hc => ?_⟩
    · rcases mem _ hc with h | ⟨t, ht, h⟩
      · omega
      · exact tx_free (f3 t ht) (by simp) h
    · rcases mem _ hc with h | ⟨t, ht, h⟩
      · omega
      · exact tx_free (f3 t ht) (by simp) h
    · have len : ∀ l : List Sg, (∀ s ∈ l, TxOk s) → ((l.map fun t => 124 :: t).flatten).length ≤ 5 * l.length := by
        intro l
        induction l with
        | nil => intro _; simp
        | cons x l ih =>
          intro hx
          have h1 := ih fun s hs => hx s (List.mem_cons_of_mem _ hs)
          have h2 := (hx x (List.mem_cons_self ..)).2.1
          simp only [List.map_cons, List.flatten_cons, List.length_append, List.length_cons]
          omega
      have := len ts f3
      simp only [SF.line]
      omega
    · rcases mem _ hc with h | ⟨t, ht, h⟩
      · omega
      · exact (sg_lt c ((f3 t ht).2.2 c h)).2.2.2.2
theorem readS_line {f : SF} (fo : f.Ok) : readS f.line = f.d := by
  cases f with
  | word s => simp [readS, SF.line, SF.d]
  | digits lo hi =>
    obtain ⟨f1, f2⟩ := fo
    have a : splC 44 [48 + lo, 44, 48 + hi] = [[48 + lo], [48 + hi]] := by
      have := splC_app (c := 44) (q := [48 + hi]) (s := [48 + lo]) (by simp; omega)
      rw [splC_free (c := 44) (s := [48 + hi]) (by simp; omega)] at this
      exact this
    simp only [readS, SF.line, SF.d, dec1 lo (by omega), dec1 hi (by omega), nums, nameOf]
    simp [a, num1 (show lo ≤ 4 by omega), num1 (show hi ≤ 4 by omega)]
  | letters lo hi =>
    obtain ⟨f1, f2⟩ := fo
    have a : splC 44 [48 + lo, 44, 48 + hi] = [[48 + lo], [48 + hi]] := by
      have := splC_app (c := 44) (q := [48 + hi]) (s := [48 + lo]) (by simp; omega)
      rw [splC_free (c := 44) (s := [48 + hi]) (by simp; omega)] at this
      exact this
    simp only [readS, SF.line, SF.d, dec1 lo (by omega), dec1 hi (by omega), nums, nameOf]
    simp [a, num1 (show lo ≤ 4 by omega), num1 (show hi ≤ 4 by omega)]
  | number n =>
    obtain ⟨f1, f2⟩ := fo
    simp only [readS, SF.line, SF.d, dec1 n (by omega)]
    simp [num1 (show n ≤ 4 by omega)]
  | choice ts =>
    obtain ⟨f1, f2, f3, f4⟩ := fo
    have ne : ts ≠ [] := fun e => by rw [e] at f1; simp at f1
    have fl := splC_flat (c := 124) ne fun t ht => tx_free (f3 t ht) (by simp)
    have hd : ((ts.map fun t => 124 :: t).flatten).take 1 = [124] := by
      cases ts with
      | nil => exact absurd rfl ne
      | cons t r => simp
    simp only [readS, SF.line, SF.d, hd, fl]
    simp
theorem FF.line_ok {f : FF} (fo : f.Ok) : f.line.count 42 ≤ 1 ∧ 32 ∉ f.line ∧ f.line.length ≤ 24 ∧ ∀ c ∈ f.line, c < 128 := by
  cases f with
  | one f =>
    obtain ⟨h1, h2, h3, h4⟩ := SF.line_ok fo
    exact ⟨by rw [show (FF.one f).line = f.line from rfl, List.count_eq_zero_of_not_mem h1]; omega, h2, by simp only [FF.line]; omega, h4⟩
  | rep f lo hi =>
    obtain ⟨f0, f1, f2, f3⟩ := fo
    obtain ⟨h1, h2, h3, h4⟩ := SF.line_ok f0
    simp only [FF.line, dec1 lo (by omega), dec1 hi (by omega)]
    refine ⟨?_, ?_, ?_, fun c hc => ?_⟩
    · rw [List.count_append, List.count_eq_zero_of_not_mem h1]
      have c1 : ¬ (48 + lo = 42) := by omega
      have c2 : ¬ (48 + hi = 42) := by omega
      simp [List.count_cons, c1, c2]
    · simp only [List.mem_append, List.cons_append, List.nil_append, List.mem_cons, List.not_mem_nil, or_false, h2, false_or]
      omega
    · simp only [List.length_append, List.cons_append, List.nil_append, List.length_cons, List.length_nil]
      omega
    · simp only [List.mem_append, List.cons_append, List.nil_append, List.mem_cons, List.not_mem_nil, or_false] at hc
      rcases hc with hc | hc
      · exact h4 c hc
      · omega
theorem idx_cons {x c : Nat} {xs : Sg} (h : ¬ x = c) : (x :: xs).idxOf c = xs.idxOf c + 1 := by
  simp only [List.idxOf, List.findIdx_cons]
  have : (x == c) = false := by simpa using h
  rw [this]
  rfl
theorem idx_app {c : Nat} {q : Sg} : ∀ {s : Sg}, c ∉ s → (s ++ c :: q).idxOf c = s.length
  | [], _ => by simp
  | x :: xs, h => by
    have h1 : ¬ x = c := fun e => h (e ▸ List.mem_cons_self ..)
    have h2 := idx_app (c := c) (q := q) (s := xs) fun e => h (List.mem_cons_of_mem _ e)
    rw [List.cons_append, idx_cons h1, h2]
    rfl
theorem readF_line {f : FF} (fo : f.Ok) : readF f.line = f.d := by
  cases f with
  | one f =>
    obtain ⟨h1, _⟩ := SF.line_ok fo
    simp only [readF, FF.line, FF.d, h1, if_false]
    exact readS_line fo
  | rep f lo hi =>
    obtain ⟨f0, f1, f2, f3⟩ := fo
    obtain ⟨h1, _⟩ := SF.line_ok f0
    have a : splC 44 [48 + lo, 44, 48 + hi] = [[48 + lo], [48 + hi]] := by
      have := splC_app (c := 44) (q := [48 + hi]) (s := [48 + lo]) (by simp; omega)
      rw [splC_free (c := 44) (s := [48 + hi]) (by simp; omega)] at this
      exact this
    have e : f.line ++ (42 :: decL lo ++ 44 :: decL hi) = f.line ++ 42 :: [48 + lo, 44, 48 + hi] := by rw [dec1 lo (by omega), dec1 hi (by omega)]; rfl
    simp only [readF, FF.line, FF.d, e, idx_app h1]
    rw [if_pos (by simp), List.take_left' rfl, show f.line.length + 1 = f.line.length + 1 from rfl]
    have dr : (f.line ++ 42 :: [48 + lo, 44, 48 + hi]).drop (f.line.length + 1) = [48 + lo, 44, 48 + hi] := by
      rw [List.drop_append]
      simp
    rw [dr, readS_line f0]
    simp only [nums, a, List.map_cons, List.map_nil, num1 (show lo ≤ 4 by omega), num1 (show hi ≤ 4 by omega)]
theorem lawF_line {f : FF} (fo : f.Ok) : lawF f.line = f.d := by
  unfold lawF
  split
  · exact readF_line fo
  · rename_i h
    have h1 := (FF.line_ok fo).1
    have h0 : f.line.count 42 = 0 := by omega
    have : 42 ∉ f.line := List.count_eq_zero.mp h0
    have r := readF_line fo
    unfold readF at r
    rw [if_neg this] at r
    exact r
theorem count_split {c : Nat} : ∀ {s : Sg}, s.count c = 1 → splC c s = [s.take (s.idxOf c), s.drop (s.idxOf c + 1)]
  | [], h => by simp at h
  | x :: xs, h => by
    by_cases e : x = c
    · subst e
      rw [List.count_cons_self] at h
      have h0 : x ∉ xs := List.count_eq_zero.mp (by omega)
      simp [splC, splC_free h0]
    · rw [List.count_cons_of_ne e] at h
      have ih := count_split h
      rw [idx_cons e]
      simp [splC, e, ih]
theorem str_map_inj : ∀ {a b : List Sg}, a.map D.str = b.map D.str → a = b
  | [], [], _ => rfl
  | [], _ :: _, h => by simp at h
  | _ :: _, [], h => by simp at h
  | x :: a, y :: b, h => by
    simp only [List.map_cons, List.cons.injEq, D.str.injEq] at h
    rw [h.1, str_map_inj h.2]
theorem sfd_inj {f g : SF} (h : f.d = g.d) : f = g := by
  cases f <;> cases g <;> simp [SF.d] at h
  · rw [h]
  · rename_i a b c d
    rw [show a = c by omega, show b = d by omega]
  · rename_i a b c d
    rw [show a = c by omega, show b = d by omega]
  · rename_i a b
    rw [show a = b by omega]
  · rw [str_map_inj h]
theorem ffd_inj {f g : FF} (h : f.d = g.d) : f = g := by
  cases f with
  | one f =>
    cases g with
    | one g => rw [sfd_inj h]
    | rep g lo hi => exfalso; cases f <;> simp [SF.d, FF.d] at h
  | rep f l u =>
    cases g with
    | one g => exfalso; cases g <;> simp [SF.d, FF.d] at h
    | rep g lo hi =>
      simp only [FF.d, D.tup.injEq, List.cons.injEq, D.int.injEq, true_and, and_true] at h
      rw [sfd_inj h.1, show l = lo by omega, show u = hi by omega]
end FT
end
section
set_option maxRecDepth 100000
namespace FT
open PySem L2
set_option autoImplicit false
section
variable {ξ : XE} {env : Ev} {hp : MH} {Q : D → MH → Prop} {QB : Bool → MH → Prop} {QL : List D → MH → Prop} {N : Ev → MH → Prop} {T : D → MH → Prop} {f g k : E D} {fl : E (List D)} {s t : S}
theorem w_raise {c : Str} : OkSX ξ (sRaise c env hp) N T = ξ c hp := by unfold sRaise; rw [w_sexc]
theorem w_try {cls : List Str} {i j : Nat} {su : S} : OkSX ξ (sTry cls i (sSet j f) su env hp) N T = OkX (fun c h => c ∈ cls ∧ OkSX noE (su (env.set i (some (.obj h.length))) (h ++ [.exc c])) (fun e2 h2 => N (e2.set i none) h2) T) (f env hp) (fun d h => N (env.set j (some d)) h) := by
  unfold sTry sSet R.toS
  cases z : f env hp with
  | ok d h => simp only [w_ok, w_snext]
  | err => simp only [w_err, w_serr]
  | exc c h =>
    simp only [w_exc]
    by_cases hc : c ∈ cls
    · simp only [hc, if_true, true_and]
      cases su (env.set i (some (.obj h.length))) (h ++ [.exc c]) with
      | next e2 h2 => simp only [w_snext]
      | ret d h2 => simp only [w_sret]
      | err => simp only [w_serr]
      | exc c2 e2 h2 => simp only [w_serr, w_sexc]; rfl
      | brk e2 h2 => rw [okS_is]; rfl
      | cont e2 h2 => rw [okS_is]; rfl
    · simp only [hc, if_false, false_and, w_serr]
theorem w_vMS {m : D → D → MH → R D} : OkX ξ (vMS m f g env hp) Q = OkX ξ (f env hp) fun x h1 => match x with
    | .str s => OkX ξ (g env h1) fun y h2 => OkX ξ (m (.str s) y h2) Q
    | _ => False := by
  unfold vMS
  rw [w_bind]
  congr 1
  funext x h
  cases x <;> first | (simp only [asStr, w_bind]; done) | (simp only [asStr, w_err]; done)
theorem w_vML {m : D → D → MH → R D} : OkX ξ (vML m f g env hp) Q = OkX ξ (f env hp) fun x h1 => match lstOf x h1 with
    | some _ => OkX ξ (g env h1) fun y h2 => OkX ξ (m x y h2) Q
    | none => False := by
  unfold vML
  rw [w_bind]
  congr 1
  funext x h
  unfold isLst
  cases lstOf x h <;> simp only [w_bind, w_err]
theorem w_fmt : OkX ξ (vFmt f env hp) Q = OkX ξ (f env hp) fun x h => OkX ξ (fmtM x h) Q := by unfold vFmt; rw [w_bind]
theorem w_js {fs : List (E D)} : OkX ξ (vJs fs env hp) Q = OkX ξ (fJs fs [] env hp) Q := rfl
theorem w_fj0 {acc : List Nat} : OkX ξ (fJs [] acc env hp) Q = Q (.str acc) hp := by unfold fJs; rw [w_ok]
theorem w_fj1 {fs : List (E D)} {acc : List Nat} : OkX ξ (fJs (f :: fs) acc env hp) Q = OkX ξ (f env hp) fun x h1 => match x with
    | .str s => OkX ξ (if (acc ++ s).length ≤ LIM then fJs fs (acc ++ s) env h1 else .err) Q
    | _ => False := by
  rw [show fJs (f :: fs) acc env hp = (f env hp).bind fun x h1 => match x with
    | .str s => if (acc ++ s).length ≤ LIM then fJs fs (acc ++ s) env h1 else .err
    | _ => .err from rfl, w_bind]
  congr 1
  funext x h
  cases x <;> first | (simp only [w_err]; done) | (dsimp only; done)
theorem q_fmtS {s : List Nat} {h : MH} (hl : s.length ≤ LIM) : fmtM (.str s) h = .ok (.str s) h := if_pos hl
theorem q_fmtI {n : Nat} {h : MH} (hl : (n : Int) < 10 ^ 18) : fmtM (.int n) h = .ok (.str (decL n)) h := by
  have c : 0 ≤ (n : Int) ∧ (n : Int) < 10 ^ 18 := ⟨by omega, hl⟩
  unfold fmtM
  simp only []
  rw [if_pos c, Int.toNat_natCast]
theorem w_disp2 {a b c d : List Nat} : OkX ξ (vDisp2 a b c d env hp) Q = Q (.obj hp.length) (hp ++ [.dic [(.str a, .str b), (.str c, .str d)]]) := by unfold vDisp2; rw [w_ok]
theorem w_get2 : OkX ξ (vGet2 f g k env hp) Q = OkX ξ (f env hp) fun x h1 => isDic x h1 = true ∧ OkX ξ (g env h1) fun y h2 => OkX ξ (k env h2) fun z h3 => OkX ξ (getDM x y z h3) Q := by
  unfold vGet2
  rw [w_bind]
  congr 1
  funext x h
  unfold asDic
  cases isDic x h <;> simp [w_bind, w_err]
theorem w_idxC {ss : List (List Nat)} : OkX ξ (vIdxC ss f env hp) Q = OkX ξ (f env hp) fun x h => OkX ξ (idxC ss x h) Q := by unfold vIdxC; rw [w_bind]
theorem w_split : OkX ξ (lSplit f g env hp) QL = OkX ξ (f env hp) fun x h1 => match x with
    | .str s => OkX ξ (g env h1) fun y h2 => OkX ξ (splitM (.str s) y h2) QL
    | _ => False := by
  unfold lSplit
  rw [w_bind]
  congr 1
  funext x h
  cases x <;> first | (simp only [asStrL, w_bind]; done) | (simp only [asStrL, w_err]; done)
theorem q_split {c : Nat} {s : List Nat} {h : MH} (hl : s.length + 2 ≤ LIM) (hc : c < 256) : splitM (.str s) (.str [c]) h = .ok ((splC c s).map .str) h := if_pos ⟨hl, hc⟩
theorem w_par {i j : Nat} : OkSX ξ (sPar i j fl env hp) N T = OkX ξ (fl env hp) fun ds h => match ds with
    | [x, y] => N ((env.set i (some x)).set j (some y)) h
    | _ => False := by
  unfold sPar
  rw [w_toS]
  congr 1
  funext ds h
  match ds with
  | [] => simp only [w_serr]
  | [x] => simp only [w_serr]
  | [x, y] => simp only [w_snext]
  | x :: y :: z :: r => simp only [w_serr]
theorem w_unpL {is : List Nat} : OkSX ξ (sUnpL is fl env hp) N T = OkX ξ (fl env hp) fun ds h => match setAll is ds env with
    | some e => N e h
    | none => False := by
  unfold sUnpL
  rw [w_toS]
  congr 1
  funext ds h
  cases setAll is ds env <;> simp only [w_snext, w_serr]
theorem w_unpV {is : List Nat} : OkSX ξ (sUnpV is f env hp) N T = OkX ξ (f env hp) fun d h => match itemsM d h with
    | some ds => (match setAll is ds env with
      | some e => N e h
      | none => False)
    | none => False := by
  unfold sUnpV
  rw [w_toS]
  congr 1
  funext d h
  cases itemsM d h with
  | none => simp only [w_serr]
  | some ds =>
    dsimp only
    cases setAll is ds env <;> simp only [w_snext, w_serr]
theorem w_dnew : OkX ξ (vDNew env hp) Q = Q (.obj hp.length) (hp ++ [.dic []]) := by unfold vDNew; rw [w_ok]
theorem w_dnewN : OkX ξ (vDNewN env hp) Q = Q (.obj hp.length) (hp ++ [.dik []]) := by unfold vDNewN; rw [w_ok]
theorem w_subD : OkSX ξ (sSubD f g k env hp) N T = OkX ξ (k env hp) fun v h1 => OkX ξ (f env h1) fun o h2 => OkX ξ (g env h2) fun i h3 => match putDM o i v h3 with
    | some h4 => N env h4
    | none => False := by
  unfold sSubD
  rw [w_toS]
  congr 1
  funext v h1
  rw [w_toS]
  congr 1
  funext o h2
  rw [w_toS]
  congr 1
  funext i h3
  cases putDM o i v h3 <;> simp only [w_snext, w_serr]
end
theorem Ok.eq {a : Type} {x : R a} {w : a} {h : MH} (q : OkX noE x fun v h' => v = w ∧ h' = h) : x = .ok w h := by
  obtain ⟨v, h', e, rfl, rfl⟩ := q.ex
  exact e
/-! ### heaps that only grow -/
def Px (h h' : MH) : Prop := ∃ l, h' = h ++ l
theorem Px.refl {h : MH} : Px h h := ⟨[], by simp⟩
theorem Px.trans {h h1 h2 : MH} (a : Px h h1) (b : Px h1 h2) : Px h h2 := by
  obtain ⟨l, rfl⟩ := a
  obtain ⟨m, rfl⟩ := b
  exact ⟨l ++ m, by simp⟩
theorem Px.app {h l : MH} : Px h (h ++ l) := ⟨l, rfl⟩
theorem Px.get {h h' : MH} {i : Nat} {x : MO} (a : Px h h') (e : h[i]? = some x) : h'[i]? = some x := by
  obtain ⟨l, rfl⟩ := a
  exact get_app e
theorem Px.len {h h' : MH} (a : Px h h') : h.length ≤ h'.length := by
  obtain ⟨l, rfl⟩ := a
  simp
theorem Px.fr {t : Nat} {h h' : MH} (a : Px h h') : Fr t h h' := by
  obtain ⟨l, rfl⟩ := a
  exact Fr.app
theorem Px.twn {ns : List Int} {t b : Nat} {h h' : MH} (a : Px h h') (T : Twn ns t b h) : Twn ns t b h' := by
  obtain ⟨l, rfl⟩ := a
  exact T.app
/-! ### comprehensions whose parts let the heap grow -/
section
variable {ξ : XE} {t : Tg} {test : E Bool} {elt : E D} {env : Ev} {QL : List D → MH → Prop} {i : Nat}
theorem lcL_grow {a : Type} {c : a → D} (g : a → D) : ∀ (xs : List a) (h : MH), (∀ x ∈ xs, ∀ h', Px h h' → OkX noE (elt (env.set i (some (c x))) h') fun v h2 => v = g x ∧ Px h' h2) → OkX ξ (lcL (.nm i) bTrue elt env (xs.map c) h) fun ys h' => ys = xs.map g ∧ Px h h'
  | [], h, _ => by
    unfold lcL
    rw [List.map_nil]
    show OkX ξ (.ok [] h) _
    rw [w_ok]
    exact ⟨rfl, Px.refl⟩
  | x :: xs, h, he => by
    rw [List.map_cons]
    unfold lcL
    simp only [tgM, bTrue, R.noX, R.bind, if_true]
    show OkX ξ ((elt (env.set i (some (c x))) h).noX.bind fun y h2 => (lcL (.nm i) bTrue elt env (xs.map c) h2).bind fun ys h3 => .ok (y :: ys) h3) _
    rw [w_bind, w_noX]
    refine (he x (List.mem_cons_self ..) h Px.refl).imp fun v h2 p => ?_
    obtain ⟨rfl, p2⟩ := p
    rw [w_bind]
    refine (lcL_grow g xs h2 fun y hy h' p => he y (List.mem_cons_of_mem _ hy) h' (p2.trans p)).imp fun ys h3 q => ?_
    rw [w_ok]
    exact ⟨by rw [q.1]; rfl, p2.trans q.2⟩
/-- filters over a list that stands in the heap -/
theorem lcGo_live {n : Nat} {ds : List D} (p : D → Bool) (hi : i < env.length) : ∀ (f j : Nat) (h : MH), h[n]? = some (.lst ds) → ds.length < f + j → j ≤ ds.length → (∀ x ∈ ds, ∀ h', Px h h' → OkX noE (test (env.set i (some x)) h') fun b h2 => b = p x ∧ Px h' h2) →
    OkX ξ (lcGo (.live n) (.nm i) test (vVar i) env f j h) fun ys h' => ys = (ds.drop j).filter p ∧ Px h h'
  | 0, j, h, hn, hf, hj, ht => absurd hf (by omega)
  | f + 1, j, h, hn, hf, hj, ht => by
    have nx : (Sc.live n).nx j h = some ds[j]? := by simp [Sc.nx, hn]
    unfold lcGo
    by_cases c : j = ds.length
    · subst c
      simp only [nx, List.getElem?_eq_none (Nat.le_refl _)]
      rw [w_ok]
      exact ⟨by simp, Px.refl⟩
    · have hj2 : j < ds.length := by omega
      simp only [nx, List.getElem?_eq_getElem hj2, tgM]
      rw [w_bind, w_noX, List.drop_eq_getElem_cons hj2]
      refine (ht ds[j] (List.getElem_mem hj2) h Px.refl).imp fun b h2 q => ?_
      obtain ⟨rfl, p2⟩ := q
      have ih := lcGo_live p hi f (j + 1) h2 (p2.get hn) (by omega) (by omega) fun x hx h' q => ht x hx h' (p2.trans q)
      by_cases cp : p ds[j] = true
      · have ev : (env.set i (some ds[j]))[i]? = some (some ds[j]) := by rw [List.getElem?_set_self hi]
        simp only [cp, if_true, w_bind, w_noX, w_var ev, List.filter_cons]
        refine ih.imp fun ys h3 q => ?_
        rw [w_ok]
        exact ⟨by rw [q.1], p2.trans q.2⟩
      · simp only [cp, Bool.false_eq_true, if_false, List.filter_cons]
        exact ih.imp fun ys h3 q => ⟨q.1, p2.trans q.2⟩
end
end FT
end
section
set_option maxRecDepth 100000
namespace FT
open PySem L2
set_option autoImplicit false
/-! the mirrors -/
def raisedL : List Str := ["InvalidFormat", "InvalidText"]
def subsL : List Str := ["InvalidFormat", "InvalidField", "InvalidRecord", "InvalidText", "InvalidNumber", "InvalidPlaces", "NoReading", "Doubtful", "TooMany", "LastField", "NothingToUndo"]
abbrev I_is_between : Nat := 0
abbrev I_is_text : Nat := 1
abbrev I_is_span : Nat := 2
abbrev I_is_simple : Nat := 3
abbrev I_is_field : Nat := 4
abbrev I_is_format : Nat := 5
abbrev I_check_format : Nat := 6
abbrev I_field_text : Nat := 7
abbrev I_form_text : Nat := 8
abbrev I_notation : Nat := 9
abbrev I_number_of : Nat := 10
abbrev I_numbers_in : Nat := 11
abbrev I_read_field : Nat := 12
abbrev I_format_from : Nat := 13
abbrev I__law_town : Nat := 14
abbrev I__law_draw : Nat := 15
abbrev I__law_pick : Nat := 16
abbrev I__law_outcome : Nat := 17
abbrev I__law_name : Nat := 18
abbrev I__law_raises : Nat := 19
abbrev I__law_signs : Nat := 20
abbrev I__law_simple : Nat := 21
abbrev I__law_field : Nat := 22
abbrev I__law_form : Nat := 23
abbrev I__law_call : Nat := 24
abbrev I__law_line : Nat := 25
abbrev I__law_number : Nat := 26
abbrev I__law_part : Nat := 27
abbrev I_law : Nat := 28
def m_is_between (r : Nat → List D → MH → R D) : List D → MH → R D := fnM 3 3
  (sRet (vAnd (vCall isiP (aCons (vVar 0) (aCons (vC (.ty 0)) aNil))) (vAnd (vNot (vCall isiP (aCons (vVar 0) (aCons (vC (.ty 1)) aNil)))) (op3 leM leM (vVar 1) (vVar 0) (vVar 2)))))

def m_is_text (r : Nat → List D → MH → R D) : List D → MH → R D := fnM 3 4
  (sRet (vAnd (vCall isiP (aCons (vVar 0) (aCons (vC (.ty 2)) aNil))) (vAnd (op3 leM leM (vVar 1) (vCall lenV (aCons (vVar 0) aNil)) (vVar 2)) (vL allP (lcM (vSrc (vVar 0)) [3] (.nm 3) bTrue (op2 inM (vVar 3) (vC (.str [45, 46, 48, 49, 50, 51, 52, 53, 54, 55, 56, 57, 58, 97, 98, 99, 100, 101, 102]))))))))

def m_is_span (r : Nat → List D → MH → R D) : List D → MH → R D := fnM 4 4
  (sRet (vAnd (vCall (r I_is_between) (aCons (vVar 0) (aCons (vC (.int 0)) (aCons (vVar 3) aNil)))) (vAnd (vCall (r I_is_between) (aCons (vVar 1) (aCons (vVar 2) (aCons (vVar 3) aNil)))) (op2 leM (vVar 0) (vVar 1)))))

def m_is_simple (r : Nat → List D → MH → R D) : List D → MH → R D := fnM 1 4
  (sSeq (sIf (bOr (bNot (vTest (vCall isiP (aCons (vVar 0) (aCons (vC (.ty 3)) aNil))))) (bOr (bNot (vTest (op3 leM leM (vC (.int 2)) (vCall lenV (aCons (vVar 0) aNil)) (vC (.int 3))))) (bNot (vTest (vCall isiP (aCons (op2 ixM (vVar 0) (vC (.int 0))) (aCons (vC (.ty 2)) aNil)))))))
    (sRet (vC (.bl false)))
    sNext)
    (sSeq (sIf (vTest (op2 eqM (vCall lenV (aCons (vVar 0) aNil)) (vC (.int 3))))
    (sRet (vAnd (op2 inM (op2 ixM (vVar 0) (vC (.int 0))) (vTup (aCons (vC (.str [100, 105, 103, 105, 116, 115])) (aCons (vC (.str [108, 101, 116, 116, 101, 114, 115])) aNil)))) (vCall (r I_is_span) (aCons (op2 ixM (vVar 0) (vC (.int 1))) (aCons (op2 ixM (vVar 0) (vC (.int 2))) (aCons (vC (.int 0)) (aCons (vC (.int 4)) aNil)))))))
    sNext)
    (sSeq (sIf (vTest (op2 eqM (op2 ixM (vVar 0) (vC (.int 0))) (vC (.str [119, 111, 114, 100]))))
    (sRet (vCall (r I_is_text) (aCons (op2 ixM (vVar 0) (vC (.int 1))) (aCons (vC (.int 1)) (aCons (vC (.int 4)) aNil)))))
    sNext)
    (sSeq (sIf (vTest (op2 eqM (op2 ixM (vVar 0) (vC (.int 0))) (vC (.str [110, 117, 109, 98, 101, 114]))))
    (sRet (vCall (r I_is_between) (aCons (op2 ixM (vVar 0) (vC (.int 1))) (aCons (vC (.int 1)) (aCons (vC (.int 4)) aNil)))))
    sNext)
    (sSeq (sIf (bOr (vTest (op2 neM (op2 ixM (vVar 0) (vC (.int 0))) (vC (.str [99, 104, 111, 105, 99, 101])))) (bOr (bNot (vTest (vCall isiP (aCons (op2 ixM (vVar 0) (vC (.int 1))) (aCons (vC (.ty 3)) aNil))))) (bNot (vTest (op3 leM leM (vC (.int 1)) (vCall lenV (aCons (op2 ixM (vVar 0) (vC (.int 1))) aNil)) (vC (.int 4)))))))
    (sRet (vC (.bl false)))
    sNext)
    (sSeq (sSet 1 (op2 ixM (vVar 0) (vC (.int 1))))
    (sSeq (sIf (bNot (vTest (vL allP (lcM (vSrc (vVar 1)) [2] (.nm 2) bTrue (vCall (r I_is_text) (aCons (vVar 2) (aCons (vC (.int 1)) (aCons (vC (.int 4)) aNil))))))))
    (sRet (vC (.bl false)))
    sNext)
    (sRet (vL allP (lcM (aSrc rng1 (aCons (op2 subM (vCall lenV (aCons (vVar 1) aNil)) (vC (.int 1))) aNil)) [3] (.nm 3) bTrue (op2 ltM (op2 ixM (vVar 1) (vVar 3)) (op2 ixM (vVar 1) (op2 addM (vVar 3) (vC (.int 1)))))))))))))))

def m_is_field (r : Nat → List D → MH → R D) : List D → MH → R D := fnM 1 1
  (sSeq (sIf (bAnd (vTest (vCall isiP (aCons (vVar 0) (aCons (vC (.ty 3)) aNil)))) (bAnd (vTest (op2 eqM (vCall lenV (aCons (vVar 0) aNil)) (vC (.int 4)))) (bAnd (vTest (vCall isiP (aCons (op2 ixM (vVar 0) (vC (.int 0))) (aCons (vC (.ty 2)) aNil)))) (vTest (op2 eqM (op2 ixM (vVar 0) (vC (.int 0))) (vC (.str [114, 101, 112, 101, 97, 116])))))))
    (sRet (vAnd (vCall (r I_is_simple) (aCons (op2 ixM (vVar 0) (vC (.int 1))) aNil)) (vCall (r I_is_span) (aCons (op2 ixM (vVar 0) (vC (.int 2))) (aCons (op2 ixM (vVar 0) (vC (.int 3))) (aCons (vC (.int 1)) (aCons (vC (.int 3)) aNil)))))))
    sNext)
    (sRet (vCall (r I_is_simple) (aCons (vVar 0) aNil))))

def m_is_format (r : Nat → List D → MH → R D) : List D → MH → R D := fnM 1 2
  (sRet (vAnd (vCall isiP (aCons (vVar 0) (aCons (vC (.ty 3)) aNil))) (vAnd (op3 leM leM (vC (.int 1)) (vCall lenV (aCons (vVar 0) aNil)) (vC (.int 6))) (vL allP (lcM (vSrc (vVar 0)) [1] (.nm 1) bTrue (vCall (r I_is_field) (aCons (vVar 1) aNil)))))))

def m_check_format (r : Nat → List D → MH → R D) : List D → MH → R D := fnM 1 1
  (sIf (bNot (vTest (vCall (r I_is_format) (aCons (vVar 0) aNil))))
    (sRaise "InvalidFormat")
    sNext)

def m_field_text (r : Nat → List D → MH → R D) : List D → MH → R D := fnM 1 2
  (sSeq (sIf (vTest (op2 eqM (op2 ixM (vVar 0) (vC (.int 0))) (vC (.str [119, 111, 114, 100]))))
    (sRet (op2 addM (vC (.str [61])) (op2 ixM (vVar 0) (vC (.int 1)))))
    sNext)
    (sSeq (sIf (vTest (op2 eqM (op2 ixM (vVar 0) (vC (.int 0))) (vC (.str [99, 104, 111, 105, 99, 101]))))
    (sRet (vJoinL (vC (.str [])) (lcM (vSrc (op2 ixM (vVar 0) (vC (.int 1)))) [1] (.nm 1) bTrue (op2 addM (vC (.str [124])) (vVar 1)))))
    sNext)
    (sSeq (sIf (vTest (op2 eqM (op2 ixM (vVar 0) (vC (.int 0))) (vC (.str [110, 117, 109, 98, 101, 114]))))
    (sRet (vJs ((vC (.str [110])) :: ((vFmt (op2 ixM (vVar 0) (vC (.int 1)))) :: []))))
    sNext)
    (sSeq (sIf (vTest (op2 eqM (op2 ixM (vVar 0) (vC (.int 0))) (vC (.str [114, 101, 112, 101, 97, 116]))))
    (sRet (op2 addM (vCall (r I_field_text) (aCons (op2 ixM (vVar 0) (vC (.int 1))) aNil)) (vJs ((vC (.str [42])) :: ((vFmt (op2 ixM (vVar 0) (vC (.int 2)))) :: ((vC (.str [44])) :: ((vFmt (op2 ixM (vVar 0) (vC (.int 3)))) :: [])))))))
    sNext)
    (sRet (vJs ((vFmt (op2 ixM (op2 ixM (vVar 0) (vC (.int 0))) (vC (.int 0)))) :: ((vFmt (op2 ixM (vVar 0) (vC (.int 1)))) :: ((vC (.str [44])) :: ((vFmt (op2 ixM (vVar 0) (vC (.int 2)))) :: []))))))))))

def m_form_text (r : Nat → List D → MH → R D) : List D → MH → R D := fnM 1 2
  (sRet (vJoinL (vC (.str [32])) (lcM (vSrc (vVar 0)) [1] (.nm 1) bTrue (vCall (r I_field_text) (aCons (vVar 1) aNil)))))

def m_notation (r : Nat → List D → MH → R D) : List D → MH → R D := fnM 1 1
  (sSeq (sExpr (vCall (r I_check_format) (aCons (vVar 0) aNil)))
    (sRet (vCall (r I_form_text) (aCons (vVar 0) aNil))))

def m_number_of (r : Nat → List D → MH → R D) : List D → MH → R D := fnM 1 1
  (sRet (vIf (vTest (op2 inM (vVar 0) (vC (.tup ([[48], [49], [50], [51], [52]].map .str))))) (vIdxC [[48], [49], [50], [51], [52]] (vVar 0)) (vC (.int (-1)))))

def m_numbers_in (r : Nat → List D → MH → R D) : List D → MH → R D := fnM 1 2
  (sRet (vL tupP (lcM (lSrc (lSplit (vVar 0) (vC (.str [44])))) [1] (.nm 1) bTrue (vCall (r I_number_of) (aCons (vVar 1) aNil)))))

def m_read_field (r : Nat → List D → MH → R D) : List D → MH → R D := fnM 1 4
  (sSeq (sIf (vTest (op2 inM (vC (.str [42])) (vVar 0)))
    (sSeq (sSet 1 (vMS indexM (vVar 0) (vC (.str [42]))))
    (sRet (op2 addM (vTup (aCons (vC (.str [114, 101, 112, 101, 97, 116])) (aCons (vCall (r I_read_field) (aCons (vSl (vVar 0) none (some (vVar 1))) aNil)) aNil))) (vCall (r I_numbers_in) (aCons (vSl (vVar 0) (some (op2 addM (vVar 1) (vC (.int 1)))) none) aNil)))))
    sNext)
    (sSeq (sPar 2 3 (aCons (vSl (vVar 0) none (some (vC (.int 1)))) (aCons (vSl (vVar 0) (some (vC (.int 1))) none) aNil)))
    (sSeq (sIf (vTest (op2 eqM (vVar 2) (vC (.str [61]))))
    (sRet (vTup (aCons (vC (.str [119, 111, 114, 100])) (aCons (vVar 3) aNil))))
    sNext)
    (sSeq (sIf (vTest (op2 eqM (vVar 2) (vC (.str [124]))))
    (sRet (vTup (aCons (vC (.str [99, 104, 111, 105, 99, 101])) (aCons (vL tupP (lSplit (vVar 3) (vC (.str [124])))) aNil))))
    sNext)
    (sSeq (sIf (vTest (op2 eqM (vVar 2) (vC (.str [110]))))
    (sRet (vTup (aCons (vC (.str [110, 117, 109, 98, 101, 114])) (aCons (vCall (r I_number_of) (aCons (vVar 3) aNil)) aNil))))
    sNext)
    (sRet (op2 addM (vTup (aCons (vGet2 (vDisp2 [100] [100, 105, 103, 105, 116, 115] [108] [108, 101, 116, 116, 101, 114, 115]) (vVar 2) (vC (.str []))) aNil)) (vCall (r I_numbers_in) (aCons (vVar 3) aNil)))))))))

def m_format_from (r : Nat → List D → MH → R D) : List D → MH → R D := fnM 1 3
  (sSeq (sIf (bOr (bNot (vTest (vCall isiP (aCons (vVar 0) (aCons (vC (.ty 2)) aNil))))) (bOr (vTest (op2 gtM (vCall lenV (aCons (vVar 0) aNil)) (vC (.int 200)))) (vTest (op2 gtM (vMS countM (vVar 0) (vC (.str [42]))) (vC (.int 6))))))
    (sRaise "InvalidText")
    sNext)
    (sSeq (sSet 1 (vL tupP (lcM (lSrc (lSplit (vVar 0) (vC (.str [32])))) [2] (.nm 2) bTrue (vCall (r I_read_field) (aCons (vVar 2) aNil)))))
    (sSeq (sIf (bOr (bNot (vTest (vCall (r I_is_format) (aCons (vVar 1) aNil)))) (vTest (op2 neM (vCall (r I_form_text) (aCons (vVar 1) aNil)) (vVar 0))))
    (sRaise "InvalidText")
    sNext)
    (sRet (vVar 1)))))

def m__law_town (r : Nat → List D → MH → R D) : List D → MH → R D := fnM 1 1
  (sRet (vAlloc (catLL (lLst (aCons (vC (.int 0)) aNil)) (lCall listP (aCons (vVar 0) aNil)))))

def m__law_draw (r : Nat → List D → MH → R D) : List D → MH → R D := fnM 3 6
  (sSeq (sSub (vVar 1) (vC (.int 0)) (op2 addM (op2 ixM (vVar 1) (vC (.int 0))) (vC (.int 1))))
    (sSeq (sIf (vTest (vNil false (vVar 0)))
    (sRet (op2 modM (op2 fdivM (op2 mulM (op2 mulM (op2 ixM (vVar 1) (vC (.int 0))) (op2 ixM (vVar 1) (vC (.int 0)))) (vC (.int 7))) (vC (.int 3))) (vVar 2)))
    sNext)
    (sSeq (sSet 3 (op2 modM (op2 ixM (vVar 1) (vC (.int 0))) (vCall lenV (aCons (vVar 0) aNil))))
    (sSeq (sSet 4 (op2 ixM (vVar 1) (op2 addM (vC (.int 1)) (vVar 3))))
    (sSeq (sIf (bAnd (vTest (op2 geM (op2 ixM (vVar 0) (vVar 3)) (op2 powM (vC (.int 10)) (vC (.int 18))))) (vTest (op2 gtM (vVar 4) (vC (.int 0)))))
    (sSeq (sSub (vVar 1) (op2 addM (vC (.int 1)) (vVar 3)) (op2 fdivM (vVar 4) (vVar 2)))
    (sRet (op2 modM (vVar 4) (vVar 2))))
    sNext)
    (sSeq (sSet 5 (op2 modM (op2 addM (op2 ixM (vVar 0) (vVar 3)) (op2 mulM (vC (.int 104729)) (op2 ixM (vVar 1) (vC (.int 0))))) (vC (.int 4294967291))))
    (sSeq (sSet 5 (op2 modM (op2 powM (vVar 5) (vC (.int 5))) (vC (.int 4294967279))))
    (sRet (op2 modM (op2 fdivM (op2 modM (op2 addM (op2 mulM (op2 fdivM (vVar 5) (vC (.int 64))) (vC (.int 69621))) (vVar 5)) (vC (.int 4294967231))) (vC (.int 8))) (vVar 2))))))))))

def m__law_pick (r : Nat → List D → MH → R D) : List D → MH → R D := fnM 3 3
  (sRet (op2 ixM (vVar 2) (vCall (r I__law_draw) (aCons (vVar 0) (aCons (vVar 1) (aCons (vCall lenV (aCons (vVar 2) aNil)) aNil))))))

def m__law_outcome (r : Nat → List D → MH → R D) : List D → MH → R D := fnM 2 5
  (sSeq (sSet 2 (vC .non))
    (sSeq (sSet 3 (vC .non))
    (sSeq (sTry raisedL 4
    (sSet 3 (vCall (r I__law_call) (aCons (vVar 0) (aCons (vVar 1) aNil))))
    (sSet 2 (vVar 4)))
    (sSeq (sIf (vTest (op2 isM (vVar 2) (vC .non)))
    (sRet (vTup (aCons (vC (.str [114, 101, 116, 117, 114, 110, 101, 100])) (aCons (vVar 3) aNil))))
    sNext)
    (sRet (vTup (aCons (vC (.str [114, 97, 105, 115, 101, 100])) (aCons (vCall (r I__law_name) (aCons (vVar 2) aNil)) aNil))))))))

def m__law_name (r : Nat → List D → MH → R D) : List D → MH → R D := fnM 1 2
  (sSeq (sIf (bNot (vTest (vCall (isiE raisedL subsL) (aCons (vVar 0) (aCons (vC (.ty 7)) aNil)))))
    (sRet (vC (.int (-1))))
    sNext)
    (sSeq (sSet 1 (vAlloc (lLst (aCons (vCall (isiE raisedL subsL) (aCons (vVar 0) (aCons (vC (.fn "InvalidFormat")) aNil))) (aCons (vCall (isiE raisedL subsL) (aCons (vVar 0) (aCons (vC (.fn "InvalidField")) aNil))) aNil)))))
    (sSeq (sSet 1 (vAlloc (catOL (vVar 1) (lLst (aCons (vCall (isiE raisedL subsL) (aCons (vVar 0) (aCons (vC (.fn "InvalidRecord")) aNil))) (aCons (vCall (isiE raisedL subsL) (aCons (vVar 0) (aCons (vC (.fn "InvalidText")) aNil))) aNil))))))
    (sSeq (sSet 1 (vAlloc (catOL (vVar 1) (lLst (aCons (vCall (isiE raisedL subsL) (aCons (vVar 0) (aCons (vC (.fn "InvalidNumber")) aNil))) (aCons (vCall (isiE raisedL subsL) (aCons (vVar 0) (aCons (vC (.fn "InvalidPlaces")) aNil))) aNil))))))
    (sSeq (sSet 1 (vAlloc (catOL (vVar 1) (lLst (aCons (vCall (isiE raisedL subsL) (aCons (vVar 0) (aCons (vC (.fn "NoReading")) aNil))) (aCons (vCall (isiE raisedL subsL) (aCons (vVar 0) (aCons (vC (.fn "Doubtful")) aNil))) aNil))))))
    (sSeq (sSet 1 (vAlloc (catOL (vVar 1) (lLst (aCons (vCall (isiE raisedL subsL) (aCons (vVar 0) (aCons (vC (.fn "TooMany")) aNil))) (aCons (vCall (isiE raisedL subsL) (aCons (vVar 0) (aCons (vC (.fn "LastField")) aNil))) aNil))))))
    (sSeq (sSet 1 (vAlloc (catOL (vVar 1) (lLst (aCons (vCall (isiE raisedL subsL) (aCons (vVar 0) (aCons (vC (.fn "NothingToUndo")) aNil))) aNil)))))
    (sRet (vIf (vTest (op2 eqM (vML lCountM (vVar 1) (vC (.bl true))) (vC (.int 1)))) (vML lIndexM (vVar 1) (vC (.bl true))) (vC (.int (-1))))))))))))

def m__law_raises (r : Nat → List D → MH → R D) : List D → MH → R D := fnM 1 2
  (sSeq (sSet 1 (vAlloc (lLst (aCons (vC (.str [102, 111, 114, 109, 97, 116])) (aCons (vC (.str [102, 105, 101, 108, 100])) (aCons (vC (.str [114, 101, 99, 111, 114, 100])) (aCons (vC (.str [116, 101, 120, 116])) (aCons (vC (.str [110, 117, 109, 98, 101, 114])) (aCons (vC (.str [112, 108, 97, 99, 101, 115])) aNil)))))))))
    (sSeq (sSet 1 (vAlloc (catOL (vVar 1) (lLst (aCons (vC (.str [114, 101, 97, 100, 105, 110, 103])) (aCons (vC (.str [100, 111, 117, 98, 116, 102, 117, 108])) (aCons (vC (.str [109, 97, 110, 121])) (aCons (vC (.str [108, 97, 115, 116])) (aCons (vC (.str [117, 110, 100, 111])) aNil)))))))))
    (sRet (vTup (aCons (vC (.str [114, 97, 105, 115, 101, 100])) (aCons (vML lIndexM (vVar 1) (vVar 0)) aNil))))))

def m__law_signs (r : Nat → List D → MH → R D) : List D → MH → R D := fnM 4 5
  (sRet (vJoinL (vC (.str [])) (lcM (aSrc rng1 (aCons (vVar 3) aNil)) [4] (.nm 4) bTrue (vCall (r I__law_pick) (aCons (vVar 0) (aCons (vVar 1) (aCons (vAlloc (lCall listP (aCons (vVar 2) aNil))) aNil)))))))

def m__law_simple (r : Nat → List D → MH → R D) : List D → MH → R D := fnM 3 8
  (sSeq (sSet 3 (vCall (r I__law_draw) (aCons (vVar 0) (aCons (vVar 1) (aCons (vC (.int 6)) aNil)))))
    (sSeq (sIf (vTest (op2 eqM (vVar 3) (vC (.int 0))))
    (sRet (vTup (aCons (vC (.str [119, 111, 114, 100])) (aCons (vCall (r I__law_signs) (aCons (vVar 0) (aCons (vVar 1) (aCons (vC (.str [45, 48, 97])) (aCons (op2 addM (vC (.int 1)) (vCall (r I__law_draw) (aCons (vVar 0) (aCons (vVar 1) (aCons (vCall min2P (aCons (vC (.int 2)) (aCons (vVar 2) aNil))) aNil))))) aNil))))) aNil))))
    sNext)
    (sSeq (sIf (vTest (op2 ltM (vVar 3) (vC (.int 3))))
    (sSeq (sSet 4 (vCall (r I__law_draw) (aCons (vVar 0) (aCons (vVar 1) (aCons (op2 addM (vVar 2) (vC (.int 1))) aNil)))))
    (sRet (vTup (aCons (op2 ixM (vTup (aCons (vC (.str [100, 105, 103, 105, 116, 115])) (aCons (vC (.str [108, 101, 116, 116, 101, 114, 115])) aNil))) (op2 subM (vVar 3) (vC (.int 1)))) (aCons (vVar 4) (aCons (op2 addM (vVar 4) (vCall (r I__law_draw) (aCons (vVar 0) (aCons (vVar 1) (aCons (op2 subM (op2 addM (vVar 2) (vC (.int 1))) (vVar 4)) aNil))))) aNil))))))
    sNext)
    (sSeq (sIf (vTest (op2 eqM (vVar 3) (vC (.int 3))))
    (sRet (vTup (aCons (vC (.str [110, 117, 109, 98, 101, 114])) (aCons (op2 addM (vC (.int 1)) (vCall (r I__law_draw) (aCons (vVar 0) (aCons (vVar 1) (aCons (vVar 2) aNil))))) aNil))))
    sNext)
    (sSeq (sSet 5 (vAlloc (lLst aNil)))
    (sSeq (sFor (aSrc rng1 (aCons (op2 addM (vC (.int 1)) (vCall (r I__law_draw) (aCons (vVar 0) (aCons (vVar 1) (aCons (vC (.int 3)) aNil))))) aNil)) (.nm 6)
    (sSeq (sSet 7 (vCall (r I__law_pick) (aCons (vVar 0) (aCons (vVar 1) (aCons (vAlloc (lLst (aCons (vC (.str [97, 98])) (aCons (vC (.str [48, 49])) (aCons (vC (.str [45, 46])) (aCons (vC (.str [97, 48])) aNil)))))) aNil)))))
    (sExpr (vAppend (vVar 5) (vCall (r I__law_signs) (aCons (vVar 0) (aCons (vVar 1) (aCons (vVar 7) (aCons (op2 addM (vC (.int 1)) (vCall (r I__law_draw) (aCons (vVar 0) (aCons (vVar 1) (aCons (vVar 2) aNil))))) aNil)))))))))
    (sRet (vTup (aCons (vC (.str [99, 104, 111, 105, 99, 101])) (aCons (vL tupP (lSortSetV (vVar 5))) aNil))))))))))

def m__law_field (r : Nat → List D → MH → R D) : List D → MH → R D := fnM 3 5
  (sSeq (sSet 3 (vCall (r I__law_simple) (aCons (vVar 0) (aCons (vVar 1) (aCons (vVar 2) aNil)))))
    (sSeq (sIf (vTest (op2 gtM (vCall (r I__law_draw) (aCons (vVar 0) (aCons (vVar 1) (aCons (vC (.int 4)) aNil)))) (vC (.int 0))))
    (sRet (vVar 3))
    sNext)
    (sSeq (sSet 4 (vCall (r I__law_draw) (aCons (vVar 0) (aCons (vVar 1) (aCons (vC (.int 3)) aNil)))))
    (sRet (vTup (aCons (vC (.str [114, 101, 112, 101, 97, 116])) (aCons (vVar 3) (aCons (vVar 4) (aCons (vCall max2P (aCons (vC (.int 1)) (aCons (op2 addM (vVar 4) (vCall (r I__law_draw) (aCons (vVar 0) (aCons (vVar 1) (aCons (vC (.int 2)) aNil))))) aNil))) aNil)))))))))

def m__law_form (r : Nat → List D → MH → R D) : List D → MH → R D := fnM 4 5
  (sRet (vL tupP (lcM (aSrc rng1 (aCons (op2 addM (vC (.int 1)) (vCall (r I__law_draw) (aCons (vVar 0) (aCons (vVar 1) (aCons (vVar 2) aNil))))) aNil)) [4] (.nm 4) bTrue (vCall (r I__law_field) (aCons (vVar 0) (aCons (vVar 1) (aCons (vVar 3) aNil)))))))

def m__law_call (r : Nat → List D → MH → R D) : List D → MH → R D := fnM 2 2
  (sRet (vCall (r I_format_from) (aCons (vVar 1) aNil)))

def m__law_line (r : Nat → List D → MH → R D) : List D → MH → R D := fnM 1 2
  (sSeq (sIf (vTest (op2 eqM (op2 ixM (vVar 0) (vC (.int 0))) (vC (.str [114, 101, 112, 101, 97, 116]))))
    (sRet (op2 addM (op2 addM (op2 addM (op2 addM (vCall (r I__law_line) (aCons (op2 ixM (vVar 0) (vC (.int 1))) aNil)) (vC (.str [42]))) (vCall strP (aCons (op2 ixM (vVar 0) (vC (.int 2))) aNil))) (vC (.str [44]))) (vCall strP (aCons (op2 ixM (vVar 0) (vC (.int 3))) aNil))))
    sNext)
    (sSeq (sIf (vTest (op2 eqM (op2 ixM (vVar 0) (vC (.int 0))) (vC (.str [119, 111, 114, 100]))))
    (sRet (op2 addM (vC (.str [61])) (op2 ixM (vVar 0) (vC (.int 1)))))
    sNext)
    (sSeq (sIf (vTest (op2 eqM (op2 ixM (vVar 0) (vC (.int 0))) (vC (.str [99, 104, 111, 105, 99, 101]))))
    (sRet (vJoinL (vC (.str [])) (lcM (vSrc (op2 ixM (vVar 0) (vC (.int 1)))) [1] (.nm 1) bTrue (op2 addM (vC (.str [124])) (vVar 1)))))
    sNext)
    (sSeq (sIf (vTest (op2 eqM (op2 ixM (vVar 0) (vC (.int 0))) (vC (.str [110, 117, 109, 98, 101, 114]))))
    (sRet (op2 addM (vC (.str [110])) (vCall strP (aCons (op2 ixM (vVar 0) (vC (.int 1))) aNil))))
    sNext)
    (sRet (op2 addM (op2 addM (op2 addM (op2 ixM (op2 ixM (vVar 0) (vC (.int 0))) (vC (.int 0))) (vCall strP (aCons (op2 ixM (vVar 0) (vC (.int 1))) aNil))) (vC (.str [44]))) (vCall strP (aCons (op2 ixM (vVar 0) (vC (.int 2))) aNil))))))))

def m__law_number (r : Nat → List D → MH → R D) : List D → MH → R D := fnM 1 1
  (sRet (vIf (vTest (op2 inM (vVar 0) (vTup (aCons (vC (.str [48])) (aCons (vC (.str [49])) (aCons (vC (.str [50])) (aCons (vC (.str [51])) (aCons (vC (.str [52])) aNil)))))))) (vCall intP (aCons (vVar 0) aNil)) (vC (.int (-1)))))

def m__law_part (r : Nat → List D → MH → R D) : List D → MH → R D := fnM 1 5
  (sSeq (sIf (vTest (op2 eqM (vMS countM (vVar 0) (vC (.str [42]))) (vC (.int 1))))
    (sSeq (sUnpL [1, 2] (lSplit (vVar 0) (vC (.str [42]))))
    (sRet (op2 addM (vTup (aCons (vC (.str [114, 101, 112, 101, 97, 116])) (aCons (vCall (r I__law_part) (aCons (vVar 1) aNil)) aNil))) (vL tupP (lcM (lSrc (lSplit (vVar 2) (vC (.str [44])))) [4] (.nm 4) bTrue (vCall (r I__law_number) (aCons (vVar 4) aNil)))))))
    sNext)
    (sSeq (sIf (vTest (op2 eqM (vSl (vVar 0) none (some (vC (.int 1)))) (vC (.str [61]))))
    (sRet (vTup (aCons (vC (.str [119, 111, 114, 100])) (aCons (vSl (vVar 0) (some (vC (.int 1))) none) aNil))))
    sNext)
    (sSeq (sIf (vTest (op2 eqM (vSl (vVar 0) none (some (vC (.int 1)))) (vC (.str [124]))))
    (sRet (vTup (aCons (vC (.str [99, 104, 111, 105, 99, 101])) (aCons (vL tupP (lSplit (vSl (vVar 0) (some (vC (.int 1))) none) (vC (.str [124])))) aNil))))
    sNext)
    (sSeq (sIf (vTest (op2 eqM (vSl (vVar 0) none (some (vC (.int 1)))) (vC (.str [110]))))
    (sRet (vTup (aCons (vC (.str [110, 117, 109, 98, 101, 114])) (aCons (vCall (r I__law_number) (aCons (vSl (vVar 0) (some (vC (.int 1))) none) aNil)) aNil))))
    sNext)
    (sSeq (sSet 3 (vGet2 (vDisp2 [100] [100, 105, 103, 105, 116, 115] [108] [108, 101, 116, 116, 101, 114, 115]) (vSl (vVar 0) none (some (vC (.int 1)))) (vC (.str []))))
    (sRet (op2 addM (vTup (aCons (vVar 3) aNil)) (vL tupP (lcM (lSrc (lSplit (vSl (vVar 0) (some (vC (.int 1))) none) (vC (.str [44])))) [4] (.nm 4) bTrue (vCall (r I__law_number) (aCons (vVar 4) aNil)))))))))))

def m_law (r : Nat → List D → MH → R D) : List D → MH → R D := fnM 1 14
  (sSeq (sSet 1 (vCall (r I__law_town) (aCons (vVar 0) aNil)))
    (sSeq (sSet 2 (vCall (r I__law_form) (aCons (vVar 0) (aCons (vVar 1) (aCons (vC (.int 4)) (aCons (vC (.int 4)) aNil))))))
    (sSeq (sSet 3 (vJoinL (vC (.str [32])) (lcM (vSrc (vVar 2)) [11] (.nm 11) bTrue (vCall (r I__law_line) (aCons (vVar 11) aNil)))))
    (sSeq (sIf (bOr (vTest (op2 neM (vCall (r I_notation) (aCons (vVar 2) aNil)) (vVar 3))) (vTest (op2 neM (vCall (r I__law_outcome) (aCons (vC (.int 0)) (aCons (vVar 3) aNil))) (vTup (aCons (vC (.str [114, 101, 116, 117, 114, 110, 101, 100])) (aCons (vVar 2) aNil))))))
    (sRet (vC (.bl false)))
    sNext)
    (sSeq (sFor (aSrc rng1 (aCons (vC (.int 8)) aNil)) (.nm 4)
    (sSeq (sSet 5 (vCall (r I__law_draw) (aCons (vVar 0) (aCons (vVar 1) (aCons (op2 addM (vCall lenV (aCons (vVar 3) aNil)) (vC (.int 1))) aNil)))))
    (sSeq (sSet 6 (vCall (r I__law_pick) (aCons (vVar 0) (aCons (vVar 1) (aCons (vAlloc (catLL (lCall listP (aCons (vC (.str [48, 49, 50, 52, 53, 61, 124, 110, 100, 108, 42, 44, 32, 97, 98, 103])) aNil)) (lLst (aCons (vC (.str [])) aNil)))) aNil)))))
    (sSeq (sSet 7 (op2 addM (op2 addM (vSl (vVar 3) none (some (vVar 5))) (vVar 6)) (vSl (vVar 3) (some (op2 addM (vVar 5) (vCall (r I__law_draw) (aCons (vVar 0) (aCons (vVar 1) (aCons (vC (.int 2)) aNil)))))) none)))
    (sSeq (sSet 8 (vL tupP (lcM (lSrc (lSplit (vVar 7) (vC (.str [32])))) [12] (.nm 12) bTrue (vCall (r I__law_part) (aCons (vVar 12) aNil)))))
    (sSeq (sSet 9 (vAnd (vCall (r I_is_format) (aCons (vVar 8) aNil)) (op2 eqM (vJoinL (vC (.str [32])) (lcM (vSrc (vVar 8)) [11] (.nm 11) bTrue (vCall (r I__law_line) (aCons (vVar 11) aNil)))) (vVar 7))))
    (sIf (vTest (op2 neM (vCall (r I__law_outcome) (aCons (vC (.int 0)) (aCons (vVar 7) aNil))) (vIf (vTest (vVar 9)) (vTup (aCons (vC (.str [114, 101, 116, 117, 114, 110, 101, 100])) (aCons (vVar 8) aNil))) (vCall (r I__law_raises) (aCons (vC (.str [116, 101, 120, 116])) aNil)))))
    (sRet (vC (.bl false)))
    sNext)))))))
    (sSeq (sSet 10 (vAlloc (lLst (aCons (vC .non) (aCons (vC (.int 5)) (aCons (vC (.str [])) (aCons (vC (.str [32])) (aCons (vC (.str [100])) (aCons (vC (.str [100, 49])) (aCons (vC (.str [100, 50, 44, 49])) (aCons (vC (.str [100, 48, 44, 53])) (aCons (vC (.str [110, 48])) (aCons (vC (.str [110, 53])) (aCons (vC (.str [110, 48, 49])) (aCons (vC (.str [61])) (aCons (vC (.str [61, 103])) (aCons (vC (.str [124])) (aCons (vC (.str [124, 98, 124, 97])) (aCons (vC (.str [124, 97, 124, 97])) (aCons (vC (.str [61, 97, 42, 48, 44, 48])) aNil))))))))))))))))))))
    (sSeq (sSet 10 (vAlloc (catOL (vVar 10) (lLst (aCons (vC (.str [61, 97, 42, 49, 44, 49, 42, 49, 44, 49])) (aCons (vC (.str [120, 49, 44, 50])) (aCons (vC (.str [61, 97, 32, 61, 98, 32, 61, 97, 32, 61, 98, 32, 61, 97, 32, 61, 98, 32, 61, 97])) (aCons (vC (.str [100, 32, 49, 44, 50])) (aCons (vC (.str [100, 49, 44, 32, 50])) (aCons (vVar 2) (aCons (vAlloc (lLst (aCons (vVar 3) aNil))) aNil)))))))))))
    (sSeq (sSet 10 (vAlloc (catOL (vVar 10) (lLst (aCons (op2 addM (vVar 3) (vC (.str [32]))) (aCons (vC (.bl true)) (aCons (vC (.str [42, 49, 44, 50])) aNil)))))))
    (sSeq (sIf (vTest (lNil true (lcM (vSrc (vVar 10)) [13] (.nm 13) (vTest (op2 neM (vCall (r I__law_outcome) (aCons (vC (.int 0)) (aCons (vVar 13) aNil))) (vCall (r I__law_raises) (aCons (vC (.str [116, 101, 120, 116])) aNil)))) (vVar 13))))
    (sRet (vC (.bl false)))
    sNext)
    (sSeq (sSet 8 (vTup (aCons (vTup (aCons (vC (.str [114, 101, 112, 101, 97, 116])) (aCons (vTup (aCons (vC (.str [99, 104, 111, 105, 99, 101])) (aCons (vTup (aCons (vC (.str [97])) (aCons (vC (.str [98, 99])) aNil))) aNil))) (aCons (vC (.int 0)) (aCons (vC (.int 3)) aNil))))) (aCons (vTup (aCons (vC (.str [108, 101, 116, 116, 101, 114, 115])) (aCons (vC (.int 0)) (aCons (vC (.int 4)) aNil)))) aNil))))
    (sRet (op2 eqM (vCall (r I__law_outcome) (aCons (vC (.int 0)) (aCons (vC (.str [124, 97, 124, 98, 99, 42, 48, 44, 51, 32, 108, 48, 44, 52])) aNil))) (vTup (aCons (vC (.str [114, 101, 116, 117, 114, 110, 101, 100])) (aCons (vVar 8) aNil)))))))))))))))
def tbl (r : Nat → List D → MH → R D) : Nat → List D → MH → R D
  | 0 => m_is_between r
  | 1 => m_is_text r
  | 2 => m_is_span r
  | 3 => m_is_simple r
  | 4 => m_is_field r
  | 5 => m_is_format r
  | 6 => m_check_format r
  | 7 => m_field_text r
  | 8 => m_form_text r
  | 9 => m_notation r
  | 10 => m_number_of r
  | 11 => m_numbers_in r
  | 12 => m_read_field r
  | 13 => m_format_from r
  | 14 => m__law_town r
  | 15 => m__law_draw r
  | 16 => m__law_pick r
  | 17 => m__law_outcome r
  | 18 => m__law_name r
  | 19 => m__law_raises r
  | 20 => m__law_signs r
  | 21 => m__law_simple r
  | 22 => m__law_field r
  | 23 => m__law_form r
  | 24 => m__law_call r
  | 25 => m__law_line r
  | 26 => m__law_number r
  | 27 => m__law_part r
  | 28 => m_law r
  | _ => fun _ _ => .err
def run : Nat → Nat → List D → MH → R D
  | 0 => fun _ _ _ => .err
  | k + 1 => tbl (run k)
theorem e_is_between {k : Nat} : run (k + 1) I_is_between = m_is_between (run k) := rfl
theorem e_is_text {k : Nat} : run (k + 1) I_is_text = m_is_text (run k) := rfl
theorem e_is_span {k : Nat} : run (k + 1) I_is_span = m_is_span (run k) := rfl
theorem e_is_simple {k : Nat} : run (k + 1) I_is_simple = m_is_simple (run k) := rfl
theorem e_is_field {k : Nat} : run (k + 1) I_is_field = m_is_field (run k) := rfl
theorem e_is_format {k : Nat} : run (k + 1) I_is_format = m_is_format (run k) := rfl
theorem e_check_format {k : Nat} : run (k + 1) I_check_format = m_check_format (run k) := rfl
theorem e_field_text {k : Nat} : run (k + 1) I_field_text = m_field_text (run k) := rfl
theorem e_form_text {k : Nat} : run (k + 1) I_form_text = m_form_text (run k) := rfl
theorem e_notation {k : Nat} : run (k + 1) I_notation = m_notation (run k) := rfl
theorem e_number_of {k : Nat} : run (k + 1) I_number_of = m_number_of (run k) := rfl
theorem e_numbers_in {k : Nat} : run (k + 1) I_numbers_in = m_numbers_in (run k) := rfl
theorem e_read_field {k : Nat} : run (k + 1) I_read_field = m_read_field (run k) := rfl
theorem e_format_from {k : Nat} : run (k + 1) I_format_from = m_format_from (run k) := rfl
theorem e__law_town {k : Nat} : run (k + 1) I__law_town = m__law_town (run k) := rfl
theorem e__law_draw {k : Nat} : run (k + 1) I__law_draw = m__law_draw (run k) := rfl
theorem e__law_pick {k : Nat} : run (k + 1) I__law_pick = m__law_pick (run k) := rfl
theorem e__law_outcome {k : Nat} : run (k + 1) I__law_outcome = m__law_outcome (run k) := rfl
theorem e__law_name {k : Nat} : run (k + 1) I__law_name = m__law_name (run k) := rfl
theorem e__law_raises {k : Nat} : run (k + 1) I__law_raises = m__law_raises (run k) := rfl
theorem e__law_signs {k : Nat} : run (k + 1) I__law_signs = m__law_signs (run k) := rfl
theorem e__law_simple {k : Nat} : run (k + 1) I__law_simple = m__law_simple (run k) := rfl
theorem e__law_field {k : Nat} : run (k + 1) I__law_field = m__law_field (run k) := rfl
theorem e__law_form {k : Nat} : run (k + 1) I__law_form = m__law_form (run k) := rfl
theorem e__law_call {k : Nat} : run (k + 1) I__law_call = m__law_call (run k) := rfl
theorem e__law_line {k : Nat} : run (k + 1) I__law_line = m__law_line (run k) := rfl
theorem e__law_number {k : Nat} : run (k + 1) I__law_number = m__law_number (run k) := rfl
theorem e__law_part {k : Nat} : run (k + 1) I__law_part = m__law_part (run k) := rfl
theorem e_law {k : Nat} : run (k + 1) I_law = m_law (run k) := rfl
end FT
end
section
set_option maxRecDepth 100000
namespace FT
open PySem L2
set_option autoImplicit false
/-! ### drawing -/
def Drw (ns : List Int) (t b : Nat) (lim : Int) (h : MH) (v : D) (h' : MH) : Prop := ∃ i : Int, v = .int i ∧ 0 ≤ i ∧ i < lim ∧ Twn ns t b h' ∧ Fr t h h'
theorem set_twn {h : MH} {t : Nat} {c : Nat} {cs : List Int} {v : D} (e : h[t]? = some (.lst (.int c :: cs.map .int))) : setM (.obj t) (.int 0) v h = some (h.set t (.lst (v :: cs.map .int))) := by
  simp [setM, e, ixN]
theorem set_twn1 {h : MH} {t j : Nat} {c : Int} {cs : List Int} {v : D} (e : h[t]? = some (.lst (.int c :: cs.map .int))) (hj : j < cs.length) : setM (.obj t) (.int (1 + (j : Int))) v h = some (h.set t (.lst (.int c :: (cs.map .int).set j v))) := by
  have : ixN (cs.length + 1) (1 + (j : Int)) = some (j + 1) := by
    have := ixN_nat (n := cs.length + 1) (j := j + 1) (by omega)
    rw [show (1 + (j : Int)) = ((j + 1 : Nat) : Int) by omega]
    exact this
  simp [setM, e, this]
theorem s_draw {k : Nat} {ns : List Int} {t b : Nat} {lim : Int} {h : MH} (T : Twn ns t b h) (hb : b < 2 ^ 60) (h0 : 0 < lim) (h1 : lim < 1073741824) :
    OkX noE (run (k + 1) I__law_draw [.rol (ns.map .int), .obj t, .int lim] h) (Drw ns t (b + 1) lim h) := by
  have tl := T.lt
  obtain ⟨c, cs, e, el, hc⟩ := T
  rw [e__law_draw]
  unfold m__law_draw
  have g0 : ∀ (h : MH) (c : Nat) (xs : List D), h[t]? = some (.lst (.int c :: xs)) → ixM (.obj t) (.int 0) h = .ok (.int c) h := fun h c xs e => by simp [ixM, e, atI_0]
  have t1 : (h.set t (.lst (.int ((c + 1 : Nat) : Int) :: cs.map .int)))[t]? = some (.lst (.int ((c + 1 : Nat) : Int) :: cs.map .int)) := by simp [tl]
  simp only [w_raise, w_try, w_vMS, w_vML, w_fmt, w_js, w_fj0, w_fj1, w_disp2, w_get2, w_idxC, w_split, w_par, w_unpL, w_unpV, w_dnew, w_dnewN, w_subD, w_bind, w_noX, w_ok, w_C, w_op2, w_asB, w_op3, w_and, w_or, w_not, w_test, w_bAnd, w_bOr, w_bNot, w_if, w_lif, w_tup, w_lst, w_alloc, w_vL, w_call, w_aNil, w_aCons, w_lCall, w_append, w_nil, w_lnil, w_seq, w_next, w_ret, w_set, w_expr, w_sif, w_sub, w_unp, w_fn1, w_fn2, w_fn3, w_fn4, w_fn5, w_join, w_vSrc, w_aSrc, w_lSrc, w_catLL, w_catOL, w_repL, w_sortV, w_asI, w_slE0, w_slE1, w_sl, q_srcT, q_srcS, q_srcR, q_zipT, q_slT, w_lc, w_forS, Int.toNat_natCast, v_0, v_S, List.replicate_succ, List.replicate_zero, Nat.reduceSub, List.getElem?_cons_zero, List.getElem?_cons_succ, List.set_cons_zero, List.set_cons_succ, if_true, if_false, Bool.false_eq_true, Bool.not_true, Bool.not_false, q_add, q_addT, q_addS, q_sub, q_eq, q_eqS, q_eqB, q_ne, q_neS, q_neB, q_lt, q_ltS, q_le, q_gt, q_ge, q_in1, q_nin1, q_isN, q_isnN, q_isB, q_isnB, q_isiI0, q_isiI1, q_isiI2, q_isiI3, q_isiI4, q_isiI5, q_isiB0, q_isiB1, q_isiB2, q_isiB3, q_isiB4, q_isiB5, q_isiS0, q_isiS1, q_isiS2, q_isiS3, q_isiS4, q_isiS5, q_isiT0, q_isiT1, q_isiT2, q_isiT3, q_isiT4, q_isiT5, q_isiR0, q_isiR1, q_isiR2, q_isiR3, q_isiR4, q_isiR5, q_isiN0, q_isiN1, q_isiN2, q_isiN3, q_isiN4, q_isiN5, q_lenS, q_lenT, q_lenR, q_min2, q_max2, q_strS, q_tupP, ix_0, ix_1, ix_2, ix_3, g0 h c _ e, set_twn e]
  rw [show ((c : Int) + 1) = ((c + 1 : Nat) : Int) by omega]
  generalize hh : h.set t (.lst (.int ((c + 1 : Nat) : Int) :: cs.map .int)) = h2 at *
  have fr : Fr t h h2 := hh ▸ Fr.set
  have T2 : Twn ns t (b + 1) h2 := ⟨c + 1, cs, t1, el, by omega⟩
  have tl2 := T2.lt
  have G0 := g0 h2 _ _ t1
  have hcb : ((c + 1 : Nat) : Int) < 2 ^ 62 := by omega
  clear hh
  generalize hc' : ((c + 1 : Nat) : Int) = C at *
  have C0 : 0 ≤ C := by omega
  cases ns with
  | nil =>
    have m1 : mulOk C C = true := by simp only [mulOk]; simp; omega
    have m2 : mulOk (C * C) 7 = true := by simp [mulOk]
    simp only [List.map_nil, listItems, List.isEmpty_nil, w_raise, w_try, w_vMS, w_vML, w_fmt, w_js, w_fj0, w_fj1, w_disp2, w_get2, w_idxC, w_split, w_par, w_unpL, w_unpV, w_dnew, w_dnewN, w_subD, w_bind, w_noX, w_ok, w_C, w_op2, w_asB, w_op3, w_and, w_or, w_not, w_test, w_bAnd, w_bOr, w_bNot, w_if, w_lif, w_tup, w_lst, w_alloc, w_vL, w_call, w_aNil, w_aCons, w_lCall, w_append, w_nil, w_lnil, w_seq, w_next, w_ret, w_set, w_expr, w_sif, w_sub, w_unp, w_fn1, w_fn2, w_fn3, w_fn4, w_fn5, w_join, w_vSrc, w_aSrc, w_lSrc, w_catLL, w_catOL, w_repL, w_sortV, w_asI, w_slE0, w_slE1, w_sl, q_srcT, q_srcS, q_srcR, q_zipT, q_slT, w_lc, w_forS, Int.toNat_natCast, v_0, v_S, List.replicate_succ, List.replicate_zero, Nat.reduceSub, List.getElem?_cons_zero, List.getElem?_cons_succ, List.set_cons_zero, List.set_cons_succ, if_true, if_false, Bool.false_eq_true, Bool.not_true, Bool.not_false, q_add, q_addT, q_addS, q_sub, q_eq, q_eqS, q_eqB, q_ne, q_neS, q_neB, q_lt, q_ltS, q_le, q_gt, q_ge, q_in1, q_nin1, q_isN, q_isnN, q_isB, q_isnB, q_isiI0, q_isiI1, q_isiI2, q_isiI3, q_isiI4, q_isiI5, q_isiB0, q_isiB1, q_isiB2, q_isiB3, q_isiB4, q_isiB5, q_isiS0, q_isiS1, q_isiS2, q_isiS3, q_isiS4, q_isiS5, q_isiT0, q_isiT1, q_isiT2, q_isiT3, q_isiT4, q_isiT5, q_isiR0, q_isiR1, q_isiR2, q_isiR3, q_isiR4, q_isiR5, q_isiN0, q_isiN1, q_isiN2, q_isiN3, q_isiN4, q_isiN5, q_lenS, q_lenT, q_lenR, q_min2, q_max2, q_strS, q_tupP, ix_0, ix_1, ix_2, ix_3, G0, q_mul m1, q_mul m2]
    rw [q_fdiv (by decide) (by decide), w_ok, q_mod h0, w_ok]
    exact ⟨_, rfl, Int.emod_nonneg _ (by omega), Int.emod_lt_of_pos _ h0, T2, fr⟩
  | cons n ns =>
    simp only [List.map_cons, listItems, List.isEmpty_cons, w_raise, w_try, w_vMS, w_vML, w_fmt, w_js, w_fj0, w_fj1, w_disp2, w_get2, w_idxC, w_split, w_par, w_unpL, w_unpV, w_dnew, w_dnewN, w_subD, w_bind, w_noX, w_ok, w_C, w_op2, w_asB, w_op3, w_and, w_or, w_not, w_test, w_bAnd, w_bOr, w_bNot, w_if, w_lif, w_tup, w_lst, w_alloc, w_vL, w_call, w_aNil, w_aCons, w_lCall, w_append, w_nil, w_lnil, w_seq, w_next, w_ret, w_set, w_expr, w_sif, w_sub, w_unp, w_fn1, w_fn2, w_fn3, w_fn4, w_fn5, w_join, w_vSrc, w_aSrc, w_lSrc, w_catLL, w_catOL, w_repL, w_sortV, w_asI, w_slE0, w_slE1, w_sl, q_srcT, q_srcS, q_srcR, q_zipT, q_slT, w_lc, w_forS, Int.toNat_natCast, v_0, v_S, List.replicate_succ, List.replicate_zero, Nat.reduceSub, List.getElem?_cons_zero, List.getElem?_cons_succ, List.set_cons_zero, List.set_cons_succ, if_true, if_false, Bool.false_eq_true, Bool.not_true, Bool.not_false, q_add, q_addT, q_addS, q_sub, q_eq, q_eqS, q_eqB, q_ne, q_neS, q_neB, q_lt, q_ltS, q_le, q_gt, q_ge, q_in1, q_nin1, q_isN, q_isnN, q_isB, q_isnB, q_isiI0, q_isiI1, q_isiI2, q_isiI3, q_isiI4, q_isiI5, q_isiB0, q_isiB1, q_isiB2, q_isiB3, q_isiB4, q_isiB5, q_isiS0, q_isiS1, q_isiS2, q_isiS3, q_isiS4, q_isiS5, q_isiT0, q_isiT1, q_isiT2, q_isiT3, q_isiT4, q_isiT5, q_isiR0, q_isiR1, q_isiR2, q_isiR3, q_isiR4, q_isiR5, q_isiN0, q_isiN1, q_isiN2, q_isiN3, q_isiN4, q_isiN5, q_lenS, q_lenT, q_lenR, q_min2, q_max2, q_strS, q_tupP, ix_0, ix_1, ix_2, ix_3, G0, List.length_cons, List.length_map]
    have hp : (0 : Int) < ((ns.length + 1 : Nat) : Int) := by omega
    rw [q_mod hp, w_ok]
    have n0 : (0 : Int) ≤ C % ((ns.length + 1 : Nat) : Int) := Int.emod_nonneg _ (by omega)
    have n1 : C % ((ns.length + 1 : Nat) : Int) < ((ns.length + 1 : Nat) : Int) := Int.emod_lt_of_pos _ hp
    obtain ⟨j, hj⟩ : ∃ j : Nat, C % ((ns.length + 1 : Nat) : Int) = (j : Int) := ⟨_, (Int.toNat_of_nonneg n0).symm⟩
    rw [hj] at n0 n1 ⊢
    have jl : j < cs.length := by rw [el]; simp only [List.length_cons]; omega
    have gj : ixM (.obj t) (.int (1 + (j : Int))) h2 = .ok (.int cs[j]) h2 := by
      have : atI (D.int C :: cs.map .int) ((j + 1 : Nat) : Int) = some (.int cs[j]) := atI_nat (by simp [jl])
      rw [show (1 + (j : Int)) = ((j + 1 : Nat) : Int) by omega]
      unfold ixM
      simp only [t1, this]
    obtain ⟨q, gs⟩ : ∃ q, ixM (.rol (D.int n :: ns.map .int)) (.int (j : Int)) h2 = .ok (.int q) h2 := by
      have hj2 : j < (n :: ns).length := by rw [el] at jl; exact jl
      have : atI (D.int n :: ns.map .int) (j : Int) = some (.int (n :: ns)[j]) := atI_nat (by
        have := List.getElem?_map (f := D.int) (l := n :: ns) (i := j)
        simp only [List.map_cons] at this
        rw [this, List.getElem?_eq_getElem hj2]; rfl)
      exact ⟨(n :: ns)[j], by unfold ixM; simp only [this]⟩
    obtain ⟨Z, p1⟩ : ∃ Z : Int, ∀ h, powM (.int 10) (.int 18) h = .ok (.int Z) h := ⟨_, fun h => q_pow (by omega) (by omega) (by omega)⟩
    simp only [w_raise, w_try, w_vMS, w_vML, w_fmt, w_js, w_fj0, w_fj1, w_disp2, w_get2, w_idxC, w_split, w_par, w_unpL, w_unpV, w_dnew, w_dnewN, w_subD, w_bind, w_noX, w_ok, w_C, w_op2, w_asB, w_op3, w_and, w_or, w_not, w_test, w_bAnd, w_bOr, w_bNot, w_if, w_lif, w_tup, w_lst, w_alloc, w_vL, w_call, w_aNil, w_aCons, w_lCall, w_append, w_nil, w_lnil, w_seq, w_next, w_ret, w_set, w_expr, w_sif, w_sub, w_unp, w_fn1, w_fn2, w_fn3, w_fn4, w_fn5, w_join, w_vSrc, w_aSrc, w_lSrc, w_catLL, w_catOL, w_repL, w_sortV, w_asI, w_slE0, w_slE1, w_sl, q_srcT, q_srcS, q_srcR, q_zipT, q_slT, w_lc, w_forS, Int.toNat_natCast, v_0, v_S, List.replicate_succ, List.replicate_zero, Nat.reduceSub, List.getElem?_cons_zero, List.getElem?_cons_succ, List.set_cons_zero, List.set_cons_succ, if_true, if_false, Bool.false_eq_true, Bool.not_true, Bool.not_false, q_add, q_addT, q_addS, q_sub, q_eq, q_eqS, q_eqB, q_ne, q_neS, q_neB, q_lt, q_ltS, q_le, q_gt, q_ge, q_in1, q_nin1, q_isN, q_isnN, q_isB, q_isnB, q_isiI0, q_isiI1, q_isiI2, q_isiI3, q_isiI4, q_isiI5, q_isiB0, q_isiB1, q_isiB2, q_isiB3, q_isiB4, q_isiB5, q_isiS0, q_isiS1, q_isiS2, q_isiS3, q_isiS4, q_isiS5, q_isiT0, q_isiT1, q_isiT2, q_isiT3, q_isiT4, q_isiT5, q_isiR0, q_isiR1, q_isiR2, q_isiR3, q_isiR4, q_isiR5, q_isiN0, q_isiN1, q_isiN2, q_isiN3, q_isiN4, q_isiN5, q_lenS, q_lenT, q_lenR, q_min2, q_max2, q_strS, q_tupP, ix_0, ix_1, ix_2, ix_3, gj, gs, p1]
    have fin : ∀ i : Int, 0 ≤ i → i < lim → Drw (n :: ns) t (b + 1) lim h (.int i) h2 := fun i a0 a1 => ⟨_, rfl, a0, a1, T2, fr⟩
    obtain ⟨F, p2⟩ : ∃ F : Int → Int, ∀ a h, powM (.int (a % 4294967291)) (.int 5) h = .ok (.int (F a)) h := ⟨_, fun a h => by
      have a0 : 0 ≤ a % 4294967291 := Int.emod_nonneg _ (by decide)
      have a1 : a % 4294967291 < 4294967291 := Int.emod_lt_of_pos _ (by decide)
      exact q_pow (by omega) (by omega) (by omega)⟩
    have m1 : mulOk 104729 C = true := by simp [mulOk]
    have m2 : ∀ a, mulOk a 69621 = true := fun a => by simp [mulOk]
    have d1 : ∀ a h, modM (.int a) (.int 4294967291) h = .ok (.int (a % 4294967291)) h := fun a h => q_mod (by decide)
    have d2 : ∀ a h, modM (.int a) (.int 4294967279) h = .ok (.int (a % 4294967279)) h := fun a h => q_mod (by decide)
    have d3 : ∀ a h, modM (.int a) (.int 4294967231) h = .ok (.int (a % 4294967231)) h := fun a h => q_mod (by decide)
    have f1 : ∀ a h, fdivM (.int a) (.int 64) h = .ok (.int (a / 64)) h := fun a h => q_fdiv (by decide) (by decide)
    have f2 : ∀ a h, fdivM (.int a) (.int 8) h = .ok (.int (a / 8)) h := fun a h => q_fdiv (by decide) (by decide)
    have f3 : ∀ a h, modM (.int a) (.int lim) h = .ok (.int (a % lim)) h := fun a h => q_mod h0
    have f4 : ∀ a h, fdivM (.int a) (.int lim) h = .ok (.int (a / lim)) h := fun a h => q_fdiv h0 h1
    have E0 : ∀ a : Int, 0 ≤ a % lim := fun a => Int.emod_nonneg _ (by omega)
    have E1 : ∀ a : Int, a % lim < lim := fun a => Int.emod_lt_of_pos _ h0
    by_cases q1 : Z ≤ q
    · by_cases q2 : 0 < cs[j]
      · simp only [q1, q2, decide_true, w_raise, w_try, w_vMS, w_vML, w_fmt, w_js, w_fj0, w_fj1, w_disp2, w_get2, w_idxC, w_split, w_par, w_unpL, w_unpV, w_dnew, w_dnewN, w_subD, w_bind, w_noX, w_ok, w_C, w_op2, w_asB, w_op3, w_and, w_or, w_not, w_test, w_bAnd, w_bOr, w_bNot, w_if, w_lif, w_tup, w_lst, w_alloc, w_vL, w_call, w_aNil, w_aCons, w_lCall, w_append, w_nil, w_lnil, w_seq, w_next, w_ret, w_set, w_expr, w_sif, w_sub, w_unp, w_fn1, w_fn2, w_fn3, w_fn4, w_fn5, w_join, w_vSrc, w_aSrc, w_lSrc, w_catLL, w_catOL, w_repL, w_sortV, w_asI, w_slE0, w_slE1, w_sl, q_srcT, q_srcS, q_srcR, q_zipT, q_slT, w_lc, w_forS, Int.toNat_natCast, v_0, v_S, List.replicate_succ, List.replicate_zero, Nat.reduceSub, List.getElem?_cons_zero, List.getElem?_cons_succ, List.set_cons_zero, List.set_cons_succ, if_true, if_false, Bool.false_eq_true, Bool.not_true, Bool.not_false, q_add, q_addT, q_addS, q_sub, q_eq, q_eqS, q_eqB, q_ne, q_neS, q_neB, q_lt, q_ltS, q_le, q_gt, q_ge, q_in1, q_nin1, q_isN, q_isnN, q_isB, q_isnB, q_isiI0, q_isiI1, q_isiI2, q_isiI3, q_isiI4, q_isiI5, q_isiB0, q_isiB1, q_isiB2, q_isiB3, q_isiB4, q_isiB5, q_isiS0, q_isiS1, q_isiS2, q_isiS3, q_isiS4, q_isiS5, q_isiT0, q_isiT1, q_isiT2, q_isiT3, q_isiT4, q_isiT5, q_isiR0, q_isiR1, q_isiR2, q_isiR3, q_isiR4, q_isiR5, q_isiN0, q_isiN1, q_isiN2, q_isiN3, q_isiN4, q_isiN5, q_lenS, q_lenT, q_lenR, q_min2, q_max2, q_strS, q_tupP, ix_0, ix_1, ix_2, ix_3, f4, set_twn1 t1 jl, f3]
        refine ⟨_, rfl, E0 _, E1 _, ⟨c + 1, cs.set j (cs[j] / lim), ?_, by simpa using el, by omega⟩, fr.trans Fr.set⟩
        rw [List.getElem?_set_self tl2, hc']
        simp
      · simp only [q1, q2, decide_true, decide_false, w_raise, w_try, w_vMS, w_vML, w_fmt, w_js, w_fj0, w_fj1, w_disp2, w_get2, w_idxC, w_split, w_par, w_unpL, w_unpV, w_dnew, w_dnewN, w_subD, w_bind, w_noX, w_ok, w_C, w_op2, w_asB, w_op3, w_and, w_or, w_not, w_test, w_bAnd, w_bOr, w_bNot, w_if, w_lif, w_tup, w_lst, w_alloc, w_vL, w_call, w_aNil, w_aCons, w_lCall, w_append, w_nil, w_lnil, w_seq, w_next, w_ret, w_set, w_expr, w_sif, w_sub, w_unp, w_fn1, w_fn2, w_fn3, w_fn4, w_fn5, w_join, w_vSrc, w_aSrc, w_lSrc, w_catLL, w_catOL, w_repL, w_sortV, w_asI, w_slE0, w_slE1, w_sl, q_srcT, q_srcS, q_srcR, q_zipT, q_slT, w_lc, w_forS, Int.toNat_natCast, v_0, v_S, List.replicate_succ, List.replicate_zero, Nat.reduceSub, List.getElem?_cons_zero, List.getElem?_cons_succ, List.set_cons_zero, List.set_cons_succ, if_true, if_false, Bool.false_eq_true, Bool.not_true, Bool.not_false, q_add, q_addT, q_addS, q_sub, q_eq, q_eqS, q_eqB, q_ne, q_neS, q_neB, q_lt, q_ltS, q_le, q_gt, q_ge, q_in1, q_nin1, q_isN, q_isnN, q_isB, q_isnB, q_isiI0, q_isiI1, q_isiI2, q_isiI3, q_isiI4, q_isiI5, q_isiB0, q_isiB1, q_isiB2, q_isiB3, q_isiB4, q_isiB5, q_isiS0, q_isiS1, q_isiS2, q_isiS3, q_isiS4, q_isiS5, q_isiT0, q_isiT1, q_isiT2, q_isiT3, q_isiT4, q_isiT5, q_isiR0, q_isiR1, q_isiR2, q_isiR3, q_isiR4, q_isiR5, q_isiN0, q_isiN1, q_isiN2, q_isiN3, q_isiN4, q_isiN5, q_lenS, q_lenT, q_lenR, q_min2, q_max2, q_strS, q_tupP, ix_0, ix_1, ix_2, ix_3, gs, G0, q_mul m1, d1, p2, d2, f1, q_mul (m2 _), d3, f2, f3]
        exact fin _ (E0 _) (E1 _)
    · simp only [q1, decide_false, w_raise, w_try, w_vMS, w_vML, w_fmt, w_js, w_fj0, w_fj1, w_disp2, w_get2, w_idxC, w_split, w_par, w_unpL, w_unpV, w_dnew, w_dnewN, w_subD, w_bind, w_noX, w_ok, w_C, w_op2, w_asB, w_op3, w_and, w_or, w_not, w_test, w_bAnd, w_bOr, w_bNot, w_if, w_lif, w_tup, w_lst, w_alloc, w_vL, w_call, w_aNil, w_aCons, w_lCall, w_append, w_nil, w_lnil, w_seq, w_next, w_ret, w_set, w_expr, w_sif, w_sub, w_unp, w_fn1, w_fn2, w_fn3, w_fn4, w_fn5, w_join, w_vSrc, w_aSrc, w_lSrc, w_catLL, w_catOL, w_repL, w_sortV, w_asI, w_slE0, w_slE1, w_sl, q_srcT, q_srcS, q_srcR, q_zipT, q_slT, w_lc, w_forS, Int.toNat_natCast, v_0, v_S, List.replicate_succ, List.replicate_zero, Nat.reduceSub, List.getElem?_cons_zero, List.getElem?_cons_succ, List.set_cons_zero, List.set_cons_succ, if_true, if_false, Bool.false_eq_true, Bool.not_true, Bool.not_false, q_add, q_addT, q_addS, q_sub, q_eq, q_eqS, q_eqB, q_ne, q_neS, q_neB, q_lt, q_ltS, q_le, q_gt, q_ge, q_in1, q_nin1, q_isN, q_isnN, q_isB, q_isnB, q_isiI0, q_isiI1, q_isiI2, q_isiI3, q_isiI4, q_isiI5, q_isiB0, q_isiB1, q_isiB2, q_isiB3, q_isiB4, q_isiB5, q_isiS0, q_isiS1, q_isiS2, q_isiS3, q_isiS4, q_isiS5, q_isiT0, q_isiT1, q_isiT2, q_isiT3, q_isiT4, q_isiT5, q_isiR0, q_isiR1, q_isiR2, q_isiR3, q_isiR4, q_isiR5, q_isiN0, q_isiN1, q_isiN2, q_isiN3, q_isiN4, q_isiN5, q_lenS, q_lenT, q_lenR, q_min2, q_max2, q_strS, q_tupP, ix_0, ix_1, ix_2, ix_3, gs, G0, q_mul m1, d1, p2, d2, f1, q_mul (m2 _), d3, f2, f3]
      exact fin _ (E0 _) (E1 _)
theorem s_town {k : Nat} {ns : List Int} {h : MH} (hn : ns.length ≤ 63) : run (k + 1) I__law_town [.rol (ns.map .int)] h = .ok (.obj h.length) (h ++ [MO.lst (.int 0 :: ns.map .int)]) := Ok.eq (by
  rw [e__law_town]
  unfold m__law_town
  have l : listP [.rol (ns.map .int)] h = .ok (ns.map .int) h := rfl
  simp only [w_raise, w_try, w_vMS, w_vML, w_fmt, w_js, w_fj0, w_fj1, w_disp2, w_get2, w_idxC, w_split, w_par, w_unpL, w_unpV, w_dnew, w_dnewN, w_subD, w_bind, w_noX, w_ok, w_C, w_op2, w_asB, w_op3, w_and, w_or, w_not, w_test, w_bAnd, w_bOr, w_bNot, w_if, w_lif, w_tup, w_lst, w_alloc, w_vL, w_call, w_aNil, w_aCons, w_lCall, w_append, w_nil, w_lnil, w_seq, w_next, w_ret, w_set, w_expr, w_sif, w_sub, w_unp, w_fn1, w_fn2, w_fn3, w_fn4, w_fn5, w_join, w_vSrc, w_aSrc, w_lSrc, w_catLL, w_catOL, w_repL, w_sortV, w_asI, w_slE0, w_slE1, w_sl, q_srcT, q_srcS, q_srcR, q_zipT, q_slT, w_lc, w_forS, Int.toNat_natCast, v_0, v_S, List.replicate_succ, List.replicate_zero, Nat.reduceSub, List.getElem?_cons_zero, List.getElem?_cons_succ, List.set_cons_zero, List.set_cons_succ, if_true, if_false, Bool.false_eq_true, Bool.not_true, Bool.not_false, q_add, q_addT, q_addS, q_sub, q_eq, q_eqS, q_eqB, q_ne, q_neS, q_neB, q_lt, q_ltS, q_le, q_gt, q_ge, q_in1, q_nin1, q_isN, q_isnN, q_isB, q_isnB, q_isiI0, q_isiI1, q_isiI2, q_isiI3, q_isiI4, q_isiI5, q_isiB0, q_isiB1, q_isiB2, q_isiB3, q_isiB4, q_isiB5, q_isiS0, q_isiS1, q_isiS2, q_isiS3, q_isiS4, q_isiS5, q_isiT0, q_isiT1, q_isiT2, q_isiT3, q_isiT4, q_isiT5, q_isiR0, q_isiR1, q_isiR2, q_isiR3, q_isiR4, q_isiR5, q_isiN0, q_isiN1, q_isiN2, q_isiN3, q_isiN4, q_isiN5, q_lenS, q_lenT, q_lenR, q_min2, q_max2, q_strS, q_tupP, ix_0, ix_1, ix_2, ix_3, List.length_cons, List.length_nil, lim_0, lim_1, lim_2, lim_3, lim_4, lim_5, lim_6, lim_7, lim_8, lim_9, lim_10, lim_11, lim_12, lim_13, lim_14, lim_15, lim_16, lim_17, lim_18, lim_19, lim_20, lim_21, lim_22, lim_23, Nat.reduceAdd, Nat.reduceLeDiff, l]
  rw [if_pos (by simp only [List.length_map, LIM]; omega), w_ok]
  exact ⟨rfl, rfl⟩)
theorem twn_new {ns : List Int} {h : MH} : Twn ns h.length 0 (h ++ [MO.lst (.int 0 :: ns.map .int)]) := ⟨0, ns, by simp, rfl, Nat.le_refl _⟩
end FT
end
section
set_option maxRecDepth 100000
namespace FT
open PySem L2
set_option autoImplicit false
/-! ### what is drawn -/
def Gv (ns : List Int) (t b : Nat) (h : MH) (P : D → Prop) (v : D) (h' : MH) : Prop := P v ∧ Twn ns t b h' ∧ Fr t h h'
section
variable {k : Nat} {ns : List Int} {t b : Nat} {h : MH}
theorem s_pickT {ds : List D} (T : Twn ns t b h) (hb : b < 2 ^ 59) (h0 : ds ≠ []) (h1 : ds.length < 1000000) : OkX noE (run (k + 2) I__law_pick [.rol (ns.map .int), .obj t, .tup ds] h) (Gv ns t (b + 1) h (· ∈ ds)) := by
  rw [e__law_pick]
  unfold m__law_pick
  simp only [w_raise, w_try, w_vMS, w_vML, w_fmt, w_js, w_fj0, w_fj1, w_disp2, w_get2, w_idxC, w_split, w_par, w_unpL, w_unpV, w_dnew, w_dnewN, w_subD, w_bind, w_noX, w_ok, w_C, w_op2, w_asB, w_op3, w_and, w_or, w_not, w_test, w_bAnd, w_bOr, w_bNot, w_if, w_lif, w_tup, w_lst, w_alloc, w_vL, w_call, w_aNil, w_aCons, w_lCall, w_append, w_nil, w_lnil, w_seq, w_next, w_ret, w_set, w_expr, w_sif, w_sub, w_unp, w_fn1, w_fn2, w_fn3, w_fn4, w_fn5, w_join, w_vSrc, w_aSrc, w_lSrc, w_catLL, w_catOL, w_repL, w_sortV, w_asI, w_slE0, w_slE1, w_sl, q_srcT, q_srcS, q_srcR, q_zipT, q_slT, w_lc, w_forS, Int.toNat_natCast, v_0, v_S, List.replicate_succ, List.replicate_zero, Nat.reduceSub, List.getElem?_cons_zero, List.getElem?_cons_succ, List.set_cons_zero, List.set_cons_succ, if_true, if_false, Bool.false_eq_true, Bool.not_true, Bool.not_false, q_add, q_addT, q_addS, q_sub, q_eq, q_eqS, q_eqB, q_ne, q_neS, q_neB, q_lt, q_ltS, q_le, q_gt, q_ge, q_in1, q_nin1, q_isN, q_isnN, q_isB, q_isnB, q_isiI0, q_isiI1, q_isiI2, q_isiI3, q_isiI4, q_isiI5, q_isiB0, q_isiB1, q_isiB2, q_isiB3, q_isiB4, q_isiB5, q_isiS0, q_isiS1, q_isiS2, q_isiS3, q_isiS4, q_isiS5, q_isiT0, q_isiT1, q_isiT2, q_isiT3, q_isiT4, q_isiT5, q_isiR0, q_isiR1, q_isiR2, q_isiR3, q_isiR4, q_isiR5, q_isiN0, q_isiN1, q_isiN2, q_isiN3, q_isiN4, q_isiN5, q_lenS, q_lenT, q_lenR, q_min2, q_max2, q_strS, q_tupP, ix_0, ix_1, ix_2, ix_3]
  have p0 : 0 < ds.length := List.length_pos_iff.mpr h0
  refine (s_draw T (by omega) (by omega) (by omega)).imp fun v h' p => ?_
  obtain ⟨i, rfl, i0, i1, T', F⟩ := p
  obtain ⟨d, hd, _, e⟩ := ix_tup (h := h') i0 i1
  rw [e, w_ok]
  exact ⟨hd, T', F⟩
theorem s_pickL {ds : List D} {n : Nat} (T : Twn ns t b h) (hb : b < 2 ^ 59) (hn : h[n]? = some (.lst ds)) (nt : n ≠ t) (h0 : ds ≠ []) (h1 : ds.length < 1000000) : OkX noE (run (k + 2) I__law_pick [.rol (ns.map .int), .obj t, .obj n] h) (Gv ns t (b + 1) h (· ∈ ds)) := by
  rw [e__law_pick]
  unfold m__law_pick
  have p0 : 0 < ds.length := List.length_pos_iff.mpr h0
  have l : lenV [.obj n] h = .ok (.int ds.length) h := by simp [lenV, itemsM, hn]
  simp only [w_raise, w_try, w_vMS, w_vML, w_fmt, w_js, w_fj0, w_fj1, w_disp2, w_get2, w_idxC, w_split, w_par, w_unpL, w_unpV, w_dnew, w_dnewN, w_subD, w_bind, w_noX, w_ok, w_C, w_op2, w_asB, w_op3, w_and, w_or, w_not, w_test, w_bAnd, w_bOr, w_bNot, w_if, w_lif, w_tup, w_lst, w_alloc, w_vL, w_call, w_aNil, w_aCons, w_lCall, w_append, w_nil, w_lnil, w_seq, w_next, w_ret, w_set, w_expr, w_sif, w_sub, w_unp, w_fn1, w_fn2, w_fn3, w_fn4, w_fn5, w_join, w_vSrc, w_aSrc, w_lSrc, w_catLL, w_catOL, w_repL, w_sortV, w_asI, w_slE0, w_slE1, w_sl, q_srcT, q_srcS, q_srcR, q_zipT, q_slT, w_lc, w_forS, Int.toNat_natCast, v_0, v_S, List.replicate_succ, List.replicate_zero, Nat.reduceSub, List.getElem?_cons_zero, List.getElem?_cons_succ, List.set_cons_zero, List.set_cons_succ, if_true, if_false, Bool.false_eq_true, Bool.not_true, Bool.not_false, q_add, q_addT, q_addS, q_sub, q_eq, q_eqS, q_eqB, q_ne, q_neS, q_neB, q_lt, q_ltS, q_le, q_gt, q_ge, q_in1, q_nin1, q_isN, q_isnN, q_isB, q_isnB, q_isiI0, q_isiI1, q_isiI2, q_isiI3, q_isiI4, q_isiI5, q_isiB0, q_isiB1, q_isiB2, q_isiB3, q_isiB4, q_isiB5, q_isiS0, q_isiS1, q_isiS2, q_isiS3, q_isiS4, q_isiS5, q_isiT0, q_isiT1, q_isiT2, q_isiT3, q_isiT4, q_isiT5, q_isiR0, q_isiR1, q_isiR2, q_isiR3, q_isiR4, q_isiR5, q_isiN0, q_isiN1, q_isiN2, q_isiN3, q_isiN4, q_isiN5, q_lenS, q_lenT, q_lenR, q_min2, q_max2, q_strS, q_tupP, ix_0, ix_1, ix_2, ix_3, l]
  refine (s_draw T (by omega) (by omega) (by omega)).imp fun v h' p => ?_
  obtain ⟨i, rfl, i0, i1, T', F⟩ := p
  obtain ⟨d, hd, _, e⟩ := ix_obj (F.get hn nt) i0 i1
  rw [e, w_ok]
  exact ⟨hd, T', F⟩
def Signs (cs : Sg) (m : Nat) (v : D) : Prop := ∃ s : Sg, v = .str s ∧ s.length = m ∧ ∀ c ∈ s, c ∈ cs
theorem s_signs {cs : Sg} {m : Nat} (T : Twn ns t b h) (hb : b < 2 ^ 58) (h0 : cs ≠ []) (h1 : cs.length < 1000000) (hm : m ≤ 1000) : OkX noE (run (k + 3) I__law_signs [.rol (ns.map .int), .obj t, .str cs, .int m] h) (Gv ns t (b + m) h (Signs cs m)) := by
  rw [e__law_signs]
  unfold m__law_signs
  simp only [w_raise, w_try, w_vMS, w_vML, w_fmt, w_js, w_fj0, w_fj1, w_disp2, w_get2, w_idxC, w_split, w_par, w_unpL, w_unpV, w_dnew, w_dnewN, w_subD, w_bind, w_noX, w_ok, w_C, w_op2, w_asB, w_op3, w_and, w_or, w_not, w_test, w_bAnd, w_bOr, w_bNot, w_if, w_lif, w_tup, w_lst, w_alloc, w_vL, w_call, w_aNil, w_aCons, w_lCall, w_append, w_nil, w_lnil, w_seq, w_next, w_ret, w_set, w_expr, w_sif, w_sub, w_unp, w_fn1, w_fn2, w_fn3, w_fn4, w_fn5, w_join, w_vSrc, w_aSrc, w_lSrc, w_catLL, w_catOL, w_repL, w_sortV, w_asI, w_slE0, w_slE1, w_sl, q_srcT, q_srcS, q_srcR, q_zipT, q_slT, w_lc, w_forS, Int.toNat_natCast, v_0, v_S, List.replicate_succ, List.replicate_zero, Nat.reduceSub, List.getElem?_cons_zero, List.getElem?_cons_succ, List.set_cons_zero, List.set_cons_succ, if_true, if_false, Bool.false_eq_true, Bool.not_true, Bool.not_false, q_add, q_addT, q_addS, q_sub, q_eq, q_eqS, q_eqB, q_ne, q_neS, q_neB, q_lt, q_ltS, q_le, q_gt, q_ge, q_in1, q_nin1, q_isN, q_isnN, q_isB, q_isnB, q_isiI0, q_isiI1, q_isiI2, q_isiI3, q_isiI4, q_isiI5, q_isiB0, q_isiB1, q_isiB2, q_isiB3, q_isiB4, q_isiB5, q_isiS0, q_isiS1, q_isiS2, q_isiS3, q_isiS4, q_isiS5, q_isiT0, q_isiT1, q_isiT2, q_isiT3, q_isiT4, q_isiT5, q_isiR0, q_isiR1, q_isiR2, q_isiR3, q_isiR4, q_isiR5, q_isiN0, q_isiN1, q_isiN2, q_isiN3, q_isiN4, q_isiN5, q_lenS, q_lenT, q_lenR, q_min2, q_max2, q_strS, q_tupP, ix_0, ix_1, ix_2, ix_3, q_rng1 (show (-1000 : Int) ≤ (m : Int) by omega) (show (m : Int) ≤ 1000000 by omega)]
  rw [w_lcI (by rw [upTo_len]; simp only [LIM]; omega)]
  refine lc_rng (fun j acc h' => Twn ns t (b + j) h' ∧ Fr t h h' ∧ ∃ s : List Sg, acc = s.map .str ∧ s.length = j ∧ ∀ x ∈ s, ∃ c ∈ cs, x = [c]) ⟨T, Fr.refl, [], rfl, rfl, fun x hx => by simp at hx⟩ ?_ ?_
  · rintro j acc h' hj ⟨T', F, s, rfl, e1, e2⟩
    have ls : listP [.str cs] h' = .ok (cs.map fun c => .str [c]) h' := if_pos (by simp only [LIM]; omega)
    simp only [wipeE, w_raise, w_try, w_vMS, w_vML, w_fmt, w_js, w_fj0, w_fj1, w_disp2, w_get2, w_idxC, w_split, w_par, w_unpL, w_unpV, w_dnew, w_dnewN, w_subD, w_bind, w_noX, w_ok, w_C, w_op2, w_asB, w_op3, w_and, w_or, w_not, w_test, w_bAnd, w_bOr, w_bNot, w_if, w_lif, w_tup, w_lst, w_alloc, w_vL, w_call, w_aNil, w_aCons, w_lCall, w_append, w_nil, w_lnil, w_seq, w_next, w_ret, w_set, w_expr, w_sif, w_sub, w_unp, w_fn1, w_fn2, w_fn3, w_fn4, w_fn5, w_join, w_vSrc, w_aSrc, w_lSrc, w_catLL, w_catOL, w_repL, w_sortV, w_asI, w_slE0, w_slE1, w_sl, q_srcT, q_srcS, q_srcR, q_zipT, q_slT, w_lc, w_forS, Int.toNat_natCast, v_0, v_S, List.replicate_succ, List.replicate_zero, Nat.reduceSub, List.getElem?_cons_zero, List.getElem?_cons_succ, List.set_cons_zero, List.set_cons_succ, if_true, if_false, Bool.false_eq_true, Bool.not_true, Bool.not_false, q_add, q_addT, q_addS, q_sub, q_eq, q_eqS, q_eqB, q_ne, q_neS, q_neB, q_lt, q_ltS, q_le, q_gt, q_ge, q_in1, q_nin1, q_isN, q_isnN, q_isB, q_isnB, q_isiI0, q_isiI1, q_isiI2, q_isiI3, q_isiI4, q_isiI5, q_isiB0, q_isiB1, q_isiB2, q_isiB3, q_isiB4, q_isiB5, q_isiS0, q_isiS1, q_isiS2, q_isiS3, q_isiS4, q_isiS5, q_isiT0, q_isiT1, q_isiT2, q_isiT3, q_isiT4, q_isiT5, q_isiR0, q_isiR1, q_isiR2, q_isiR3, q_isiR4, q_isiR5, q_isiN0, q_isiN1, q_isiN2, q_isiN3, q_isiN4, q_isiN5, q_lenS, q_lenT, q_lenR, q_min2, q_max2, q_strS, q_tupP, ix_0, ix_1, ix_2, ix_3, ls]
    have tl := T'.lt
    refine (s_pickL (ds := cs.map fun c => .str [c]) T'.app (by omega) getElem?_app (by omega) (by simpa using h0) (by simpa using h1)).imp fun v h2 p => ?_
    obtain ⟨p1, p2, p3⟩ := p
    obtain ⟨c, hc, rfl⟩ := List.mem_map.mp p1
    refine ⟨by rw [show b + (j + 1) = b + j + 1 by omega]; exact p2, F.trans (Fr.app.trans p3), s ++ [[c]], by simp, by simp [e1], fun x hx => ?_⟩
    rcases List.mem_append.mp hx with hx | hx
    · exact e2 x hx
    · simp at hx
      exact ⟨c, hc, hx⟩
  · rintro acc h' ⟨T', F, s, rfl, e1, e2⟩
    have hl : ∀ l : List Sg, (∀ x ∈ l, ∃ c ∈ cs, x = [c]) → (l.map List.length).sum = l.length ∧ ∀ c ∈ l.flatten, c ∈ cs := by
      intro l
      induction l with
      | nil => intro _; exact ⟨rfl, fun c hc => by simp at hc⟩
      | cons x l ih =>
        intro hx
        obtain ⟨c, hc, rfl⟩ := hx x (List.mem_cons_self ..)
        have := ih fun y hy => hx y (List.mem_cons_of_mem _ hy)
        refine ⟨by simp [this.1]; omega, fun d hd => ?_⟩
        simp at hd
        rcases hd with rfl | ⟨y, hy, hd⟩
        · exact hc
        · exact this.2 d (by simp; exact ⟨y, hy, hd⟩)
    have := hl s e2
    rw [join_strs (by rw [this.1]; simp only [LIM]; omega), w_ok]
    exact ⟨⟨_, rfl, by rw [flat_len, this.1, e1], this.2⟩, T', F⟩
theorem insU_len (x : Sg) : ∀ l : List Sg, (insU x l).length ≤ l.length + 1 ∧ 1 ≤ (insU x l).length
  | [] => by simp [insU]
  | y :: r => by
    have := insU_len x r
    unfold insU
    split
    · simp
    · split <;> simp; omega
theorem sortU_len : ∀ l : List Sg, (sortU l).length ≤ l.length ∧ (l ≠ [] → 1 ≤ (sortU l).length)
  | [] => by simp [sortU]
  | x :: r => by
    have a := sortU_len r
    have b := insU_len x (sortU r)
    simp only [sortU, List.length_cons]
    exact ⟨by omega, fun _ => b.2⟩
theorem sign_ok : ∀ c ∈ [45, 48, 97], c ∈ cSigns := by decide
def IsSF (v : D) : Prop := ∃ f : SF, v = f.d ∧ f.Ok
theorem s_simple {m : Nat} (T : Twn ns t b h) (hb : b < 2 ^ 57) (h0 : 1 ≤ m) (h1 : m ≤ 4) : OkX noE (run (k + 4) I__law_simple [.rol (ns.map .int), .obj t, .int m] h) (Gv ns t (b + 100) h IsSF) := by
  rw [e__law_simple]
  unfold m__law_simple
  simp only [w_raise, w_try, w_vMS, w_vML, w_fmt, w_js, w_fj0, w_fj1, w_disp2, w_get2, w_idxC, w_split, w_par, w_unpL, w_unpV, w_dnew, w_dnewN, w_subD, w_bind, w_noX, w_ok, w_C, w_op2, w_asB, w_op3, w_and, w_or, w_not, w_test, w_bAnd, w_bOr, w_bNot, w_if, w_lif, w_tup, w_lst, w_alloc, w_vL, w_call, w_aNil, w_aCons, w_lCall, w_append, w_nil, w_lnil, w_seq, w_next, w_ret, w_set, w_expr, w_sif, w_sub, w_unp, w_fn1, w_fn2, w_fn3, w_fn4, w_fn5, w_join, w_vSrc, w_aSrc, w_lSrc, w_catLL, w_catOL, w_repL, w_sortV, w_asI, w_slE0, w_slE1, w_sl, q_srcT, q_srcS, q_srcR, q_zipT, q_slT, w_lc, w_forS, Int.toNat_natCast, v_0, v_S, List.replicate_succ, List.replicate_zero, Nat.reduceSub, List.getElem?_cons_zero, List.getElem?_cons_succ, List.set_cons_zero, List.set_cons_succ, if_true, if_false, Bool.false_eq_true, Bool.not_true, Bool.not_false, q_add, q_addT, q_addS, q_sub, q_eq, q_eqS, q_eqB, q_ne, q_neS, q_neB, q_lt, q_ltS, q_le, q_gt, q_ge, q_in1, q_nin1, q_isN, q_isnN, q_isB, q_isnB, q_isiI0, q_isiI1, q_isiI2, q_isiI3, q_isiI4, q_isiI5, q_isiB0, q_isiB1, q_isiB2, q_isiB3, q_isiB4, q_isiB5, q_isiS0, q_isiS1, q_isiS2, q_isiS3, q_isiS4, q_isiS5, q_isiT0, q_isiT1, q_isiT2, q_isiT3, q_isiT4, q_isiT5, q_isiR0, q_isiR1, q_isiR2, q_isiR3, q_isiR4, q_isiR5, q_isiN0, q_isiN1, q_isiN2, q_isiN3, q_isiN4, q_isiN5, q_lenS, q_lenT, q_lenR, q_min2, q_max2, q_strS, q_tupP, ix_0, ix_1, ix_2, ix_3]
  refine (s_draw T (by omega) (by omega) (by omega)).imp fun v h1 p => ?_
  obtain ⟨way, rfl, w0, w1, T1, F1⟩ := p
  simp only [w_raise, w_try, w_vMS, w_vML, w_fmt, w_js, w_fj0, w_fj1, w_disp2, w_get2, w_idxC, w_split, w_par, w_unpL, w_unpV, w_dnew, w_dnewN, w_subD, w_bind, w_noX, w_ok, w_C, w_op2, w_asB, w_op3, w_and, w_or, w_not, w_test, w_bAnd, w_bOr, w_bNot, w_if, w_lif, w_tup, w_lst, w_alloc, w_vL, w_call, w_aNil, w_aCons, w_lCall, w_append, w_nil, w_lnil, w_seq, w_next, w_ret, w_set, w_expr, w_sif, w_sub, w_unp, w_fn1, w_fn2, w_fn3, w_fn4, w_fn5, w_join, w_vSrc, w_aSrc, w_lSrc, w_catLL, w_catOL, w_repL, w_sortV, w_asI, w_slE0, w_slE1, w_sl, q_srcT, q_srcS, q_srcR, q_zipT, q_slT, w_lc, w_forS, Int.toNat_natCast, v_0, v_S, List.replicate_succ, List.replicate_zero, Nat.reduceSub, List.getElem?_cons_zero, List.getElem?_cons_succ, List.set_cons_zero, List.set_cons_succ, if_true, if_false, Bool.false_eq_true, Bool.not_true, Bool.not_false, q_add, q_addT, q_addS, q_sub, q_eq, q_eqS, q_eqB, q_ne, q_neS, q_neB, q_lt, q_ltS, q_le, q_gt, q_ge, q_in1, q_nin1, q_isN, q_isnN, q_isB, q_isnB, q_isiI0, q_isiI1, q_isiI2, q_isiI3, q_isiI4, q_isiI5, q_isiB0, q_isiB1, q_isiB2, q_isiB3, q_isiB4, q_isiB5, q_isiS0, q_isiS1, q_isiS2, q_isiS3, q_isiS4, q_isiS5, q_isiT0, q_isiT1, q_isiT2, q_isiT3, q_isiT4, q_isiT5, q_isiR0, q_isiR1, q_isiR2, q_isiR3, q_isiR4, q_isiR5, q_isiN0, q_isiN1, q_isiN2, q_isiN3, q_isiN4, q_isiN5, q_lenS, q_lenT, q_lenR, q_min2, q_max2, q_strS, q_tupP, ix_0, ix_1, ix_2, ix_3]
  by_cases c0 : way = 0
  · simp only [c0, decide_true, w_raise, w_try, w_vMS, w_vML, w_fmt, w_js, w_fj0, w_fj1, w_disp2, w_get2, w_idxC, w_split, w_par, w_unpL, w_unpV, w_dnew, w_dnewN, w_subD, w_bind, w_noX, w_ok, w_C, w_op2, w_asB, w_op3, w_and, w_or, w_not, w_test, w_bAnd, w_bOr, w_bNot, w_if, w_lif, w_tup, w_lst, w_alloc, w_vL, w_call, w_aNil, w_aCons, w_lCall, w_append, w_nil, w_lnil, w_seq, w_next, w_ret, w_set, w_expr, w_sif, w_sub, w_unp, w_fn1, w_fn2, w_fn3, w_fn4, w_fn5, w_join, w_vSrc, w_aSrc, w_lSrc, w_catLL, w_catOL, w_repL, w_sortV, w_asI, w_slE0, w_slE1, w_sl, q_srcT, q_srcS, q_srcR, q_zipT, q_slT, w_lc, w_forS, Int.toNat_natCast, v_0, v_S, List.replicate_succ, List.replicate_zero, Nat.reduceSub, List.getElem?_cons_zero, List.getElem?_cons_succ, List.set_cons_zero, List.set_cons_succ, if_true, if_false, Bool.false_eq_true, Bool.not_true, Bool.not_false, q_add, q_addT, q_addS, q_sub, q_eq, q_eqS, q_eqB, q_ne, q_neS, q_neB, q_lt, q_ltS, q_le, q_gt, q_ge, q_in1, q_nin1, q_isN, q_isnN, q_isB, q_isnB, q_isiI0, q_isiI1, q_isiI2, q_isiI3, q_isiI4, q_isiI5, q_isiB0, q_isiB1, q_isiB2, q_isiB3, q_isiB4, q_isiB5, q_isiS0, q_isiS1, q_isiS2, q_isiS3, q_isiS4, q_isiS5, q_isiT0, q_isiT1, q_isiT2, q_isiT3, q_isiT4, q_isiT5, q_isiR0, q_isiR1, q_isiR2, q_isiR3, q_isiR4, q_isiR5, q_isiN0, q_isiN1, q_isiN2, q_isiN3, q_isiN4, q_isiN5, q_lenS, q_lenT, q_lenR, q_min2, q_max2, q_strS, q_tupP, ix_0, ix_1, ix_2, ix_3]
    have hm : 0 < (if (m : Int) < 2 then (m : Int) else 2) ∧ (if (m : Int) < 2 then (m : Int) else 2) ≤ 2 := by split <;> omega
    refine (s_draw T1 (by omega) hm.1 (by omega)).imp fun v h2 p => ?_
    obtain ⟨i, rfl, i0, i1, T2, F2⟩ := p
    simp only [w_raise, w_try, w_vMS, w_vML, w_fmt, w_js, w_fj0, w_fj1, w_disp2, w_get2, w_idxC, w_split, w_par, w_unpL, w_unpV, w_dnew, w_dnewN, w_subD, w_bind, w_noX, w_ok, w_C, w_op2, w_asB, w_op3, w_and, w_or, w_not, w_test, w_bAnd, w_bOr, w_bNot, w_if, w_lif, w_tup, w_lst, w_alloc, w_vL, w_call, w_aNil, w_aCons, w_lCall, w_append, w_nil, w_lnil, w_seq, w_next, w_ret, w_set, w_expr, w_sif, w_sub, w_unp, w_fn1, w_fn2, w_fn3, w_fn4, w_fn5, w_join, w_vSrc, w_aSrc, w_lSrc, w_catLL, w_catOL, w_repL, w_sortV, w_asI, w_slE0, w_slE1, w_sl, q_srcT, q_srcS, q_srcR, q_zipT, q_slT, w_lc, w_forS, Int.toNat_natCast, v_0, v_S, List.replicate_succ, List.replicate_zero, Nat.reduceSub, List.getElem?_cons_zero, List.getElem?_cons_succ, List.set_cons_zero, List.set_cons_succ, if_true, if_false, Bool.false_eq_true, Bool.not_true, Bool.not_false, q_add, q_addT, q_addS, q_sub, q_eq, q_eqS, q_eqB, q_ne, q_neS, q_neB, q_lt, q_ltS, q_le, q_gt, q_ge, q_in1, q_nin1, q_isN, q_isnN, q_isB, q_isnB, q_isiI0, q_isiI1, q_isiI2, q_isiI3, q_isiI4, q_isiI5, q_isiB0, q_isiB1, q_isiB2, q_isiB3, q_isiB4, q_isiB5, q_isiS0, q_isiS1, q_isiS2, q_isiS3, q_isiS4, q_isiS5, q_isiT0, q_isiT1, q_isiT2, q_isiT3, q_isiT4, q_isiT5, q_isiR0, q_isiR1, q_isiR2, q_isiR3, q_isiR4, q_isiR5, q_isiN0, q_isiN1, q_isiN2, q_isiN3, q_isiN4, q_isiN5, q_lenS, q_lenT, q_lenR, q_min2, q_max2, q_strS, q_tupP, ix_0, ix_1, ix_2, ix_3]
    obtain ⟨j, hj⟩ : ∃ j : Nat, (1 + i) = (j : Int) := ⟨(1 + i).toNat, by omega⟩
    rw [hj]
    have a1 : b + 1 + 1 < 2 ^ 58 := by omega
    have a2 : j ≤ 1000 := by omega
    have a3 : ([45, 48, 97] : Sg) ≠ [] := by simp
    have a4 : ([45, 48, 97] : Sg).length < 1000000 := by simp
    have sg := s_signs (k := k) (cs := [45, 48, 97]) (m := j) T2 a1 a3 a4 a2
    refine sg.imp fun v h3 p => ?_
    obtain ⟨⟨s, rfl, s1, s2⟩, T3, F3⟩ := p
    simp only [w_raise, w_try, w_vMS, w_vML, w_fmt, w_js, w_fj0, w_fj1, w_disp2, w_get2, w_idxC, w_split, w_par, w_unpL, w_unpV, w_dnew, w_dnewN, w_subD, w_bind, w_noX, w_ok, w_C, w_op2, w_asB, w_op3, w_and, w_or, w_not, w_test, w_bAnd, w_bOr, w_bNot, w_if, w_lif, w_tup, w_lst, w_alloc, w_vL, w_call, w_aNil, w_aCons, w_lCall, w_append, w_nil, w_lnil, w_seq, w_next, w_ret, w_set, w_expr, w_sif, w_sub, w_unp, w_fn1, w_fn2, w_fn3, w_fn4, w_fn5, w_join, w_vSrc, w_aSrc, w_lSrc, w_catLL, w_catOL, w_repL, w_sortV, w_asI, w_slE0, w_slE1, w_sl, q_srcT, q_srcS, q_srcR, q_zipT, q_slT, w_lc, w_forS, Int.toNat_natCast, v_0, v_S, List.replicate_succ, List.replicate_zero, Nat.reduceSub, List.getElem?_cons_zero, List.getElem?_cons_succ, List.set_cons_zero, List.set_cons_succ, if_true, if_false, Bool.false_eq_true, Bool.not_true, Bool.not_false, q_add, q_addT, q_addS, q_sub, q_eq, q_eqS, q_eqB, q_ne, q_neS, q_neB, q_lt, q_ltS, q_le, q_gt, q_ge, q_in1, q_nin1, q_isN, q_isnN, q_isB, q_isnB, q_isiI0, q_isiI1, q_isiI2, q_isiI3, q_isiI4, q_isiI5, q_isiB0, q_isiB1, q_isiB2, q_isiB3, q_isiB4, q_isiB5, q_isiS0, q_isiS1, q_isiS2, q_isiS3, q_isiS4, q_isiS5, q_isiT0, q_isiT1, q_isiT2, q_isiT3, q_isiT4, q_isiT5, q_isiR0, q_isiR1, q_isiR2, q_isiR3, q_isiR4, q_isiR5, q_isiN0, q_isiN1, q_isiN2, q_isiN3, q_isiN4, q_isiN5, q_lenS, q_lenT, q_lenR, q_min2, q_max2, q_strS, q_tupP, ix_0, ix_1, ix_2, ix_3, List.length_cons, List.length_nil, lim_0, lim_1, lim_2, lim_3, lim_4, lim_5, lim_6, lim_7, lim_8, lim_9, lim_10, lim_11, lim_12, lim_13, lim_14, lim_15, lim_16, lim_17, lim_18, lim_19, lim_20, lim_21, lim_22, lim_23, Nat.reduceAdd, Nat.reduceLeDiff]
    refine ⟨⟨.word s, rfl, ?_, ?_, ?_⟩, T3.mono (by omega), F1.trans (F2.trans F3)⟩
    · omega
    · omega
    · intro c hc
      exact sign_ok c (s2 c hc)
  simp only [c0, decide_false, w_raise, w_try, w_vMS, w_vML, w_fmt, w_js, w_fj0, w_fj1, w_disp2, w_get2, w_idxC, w_split, w_par, w_unpL, w_unpV, w_dnew, w_dnewN, w_subD, w_bind, w_noX, w_ok, w_C, w_op2, w_asB, w_op3, w_and, w_or, w_not, w_test, w_bAnd, w_bOr, w_bNot, w_if, w_lif, w_tup, w_lst, w_alloc, w_vL, w_call, w_aNil, w_aCons, w_lCall, w_append, w_nil, w_lnil, w_seq, w_next, w_ret, w_set, w_expr, w_sif, w_sub, w_unp, w_fn1, w_fn2, w_fn3, w_fn4, w_fn5, w_join, w_vSrc, w_aSrc, w_lSrc, w_catLL, w_catOL, w_repL, w_sortV, w_asI, w_slE0, w_slE1, w_sl, q_srcT, q_srcS, q_srcR, q_zipT, q_slT, w_lc, w_forS, Int.toNat_natCast, v_0, v_S, List.replicate_succ, List.replicate_zero, Nat.reduceSub, List.getElem?_cons_zero, List.getElem?_cons_succ, List.set_cons_zero, List.set_cons_succ, if_true, if_false, Bool.false_eq_true, Bool.not_true, Bool.not_false, q_add, q_addT, q_addS, q_sub, q_eq, q_eqS, q_eqB, q_ne, q_neS, q_neB, q_lt, q_ltS, q_le, q_gt, q_ge, q_in1, q_nin1, q_isN, q_isnN, q_isB, q_isnB, q_isiI0, q_isiI1, q_isiI2, q_isiI3, q_isiI4, q_isiI5, q_isiB0, q_isiB1, q_isiB2, q_isiB3, q_isiB4, q_isiB5, q_isiS0, q_isiS1, q_isiS2, q_isiS3, q_isiS4, q_isiS5, q_isiT0, q_isiT1, q_isiT2, q_isiT3, q_isiT4, q_isiT5, q_isiR0, q_isiR1, q_isiR2, q_isiR3, q_isiR4, q_isiR5, q_isiN0, q_isiN1, q_isiN2, q_isiN3, q_isiN4, q_isiN5, q_lenS, q_lenT, q_lenR, q_min2, q_max2, q_strS, q_tupP, ix_0, ix_1, ix_2, ix_3]
  by_cases c1 : way < 3
  · simp only [c1, decide_true, w_raise, w_try, w_vMS, w_vML, w_fmt, w_js, w_fj0, w_fj1, w_disp2, w_get2, w_idxC, w_split, w_par, w_unpL, w_unpV, w_dnew, w_dnewN, w_subD, w_bind, w_noX, w_ok, w_C, w_op2, w_asB, w_op3, w_and, w_or, w_not, w_test, w_bAnd, w_bOr, w_bNot, w_if, w_lif, w_tup, w_lst, w_alloc, w_vL, w_call, w_aNil, w_aCons, w_lCall, w_append, w_nil, w_lnil, w_seq, w_next, w_ret, w_set, w_expr, w_sif, w_sub, w_unp, w_fn1, w_fn2, w_fn3, w_fn4, w_fn5, w_join, w_vSrc, w_aSrc, w_lSrc, w_catLL, w_catOL, w_repL, w_sortV, w_asI, w_slE0, w_slE1, w_sl, q_srcT, q_srcS, q_srcR, q_zipT, q_slT, w_lc, w_forS, Int.toNat_natCast, v_0, v_S, List.replicate_succ, List.replicate_zero, Nat.reduceSub, List.getElem?_cons_zero, List.getElem?_cons_succ, List.set_cons_zero, List.set_cons_succ, if_true, if_false, Bool.false_eq_true, Bool.not_true, Bool.not_false, q_add, q_addT, q_addS, q_sub, q_eq, q_eqS, q_eqB, q_ne, q_neS, q_neB, q_lt, q_ltS, q_le, q_gt, q_ge, q_in1, q_nin1, q_isN, q_isnN, q_isB, q_isnB, q_isiI0, q_isiI1, q_isiI2, q_isiI3, q_isiI4, q_isiI5, q_isiB0, q_isiB1, q_isiB2, q_isiB3, q_isiB4, q_isiB5, q_isiS0, q_isiS1, q_isiS2, q_isiS3, q_isiS4, q_isiS5, q_isiT0, q_isiT1, q_isiT2, q_isiT3, q_isiT4, q_isiT5, q_isiR0, q_isiR1, q_isiR2, q_isiR3, q_isiR4, q_isiR5, q_isiN0, q_isiN1, q_isiN2, q_isiN3, q_isiN4, q_isiN5, q_lenS, q_lenT, q_lenR, q_min2, q_max2, q_strS, q_tupP, ix_0, ix_1, ix_2, ix_3]
    refine (s_draw T1 (by omega) (by omega) (by omega)).imp fun v h2 p => ?_
    obtain ⟨i, rfl, i0, i1, T2, F2⟩ := p
    have hw : ∃ d : D, ixM (.tup [.str kDigits, .str kLetters]) (.int (way - 1)) h2 = .ok d h2 ∧ (d = .str kDigits ∨ d = .str kLetters) := by
      obtain ⟨d, hd, _, e⟩ := ix_tup (ds := [.str kDigits, .str kLetters]) (i := way - 1) (h := h2) (by omega) (by simp; omega)
      exact ⟨d, e, by simpa using hd⟩
    obtain ⟨d, hw, hd⟩ := hw
    simp only [w_raise, w_try, w_vMS, w_vML, w_fmt, w_js, w_fj0, w_fj1, w_disp2, w_get2, w_idxC, w_split, w_par, w_unpL, w_unpV, w_dnew, w_dnewN, w_subD, w_bind, w_noX, w_ok, w_C, w_op2, w_asB, w_op3, w_and, w_or, w_not, w_test, w_bAnd, w_bOr, w_bNot, w_if, w_lif, w_tup, w_lst, w_alloc, w_vL, w_call, w_aNil, w_aCons, w_lCall, w_append, w_nil, w_lnil, w_seq, w_next, w_ret, w_set, w_expr, w_sif, w_sub, w_unp, w_fn1, w_fn2, w_fn3, w_fn4, w_fn5, w_join, w_vSrc, w_aSrc, w_lSrc, w_catLL, w_catOL, w_repL, w_sortV, w_asI, w_slE0, w_slE1, w_sl, q_srcT, q_srcS, q_srcR, q_zipT, q_slT, w_lc, w_forS, Int.toNat_natCast, v_0, v_S, List.replicate_succ, List.replicate_zero, Nat.reduceSub, List.getElem?_cons_zero, List.getElem?_cons_succ, List.set_cons_zero, List.set_cons_succ, if_true, if_false, Bool.false_eq_true, Bool.not_true, Bool.not_false, q_add, q_addT, q_addS, q_sub, q_eq, q_eqS, q_eqB, q_ne, q_neS, q_neB, q_lt, q_ltS, q_le, q_gt, q_ge, q_in1, q_nin1, q_isN, q_isnN, q_isB, q_isnB, q_isiI0, q_isiI1, q_isiI2, q_isiI3, q_isiI4, q_isiI5, q_isiB0, q_isiB1, q_isiB2, q_isiB3, q_isiB4, q_isiB5, q_isiS0, q_isiS1, q_isiS2, q_isiS3, q_isiS4, q_isiS5, q_isiT0, q_isiT1, q_isiT2, q_isiT3, q_isiT4, q_isiT5, q_isiR0, q_isiR1, q_isiR2, q_isiR3, q_isiR4, q_isiR5, q_isiN0, q_isiN1, q_isiN2, q_isiN3, q_isiN4, q_isiN5, q_lenS, q_lenT, q_lenR, q_min2, q_max2, q_strS, q_tupP, ix_0, ix_1, ix_2, ix_3, List.length_cons, List.length_nil, lim_0, lim_1, lim_2, lim_3, lim_4, lim_5, lim_6, lim_7, lim_8, lim_9, lim_10, lim_11, lim_12, lim_13, lim_14, lim_15, lim_16, lim_17, lim_18, lim_19, lim_20, lim_21, lim_22, lim_23, Nat.reduceAdd, Nat.reduceLeDiff, hw]
    refine (s_draw T2 (by omega) (by omega) (by omega)).imp fun v h3 p => ?_
    obtain ⟨i', rfl, j0, j1, T3, F3⟩ := p
    simp only [w_raise, w_try, w_vMS, w_vML, w_fmt, w_js, w_fj0, w_fj1, w_disp2, w_get2, w_idxC, w_split, w_par, w_unpL, w_unpV, w_dnew, w_dnewN, w_subD, w_bind, w_noX, w_ok, w_C, w_op2, w_asB, w_op3, w_and, w_or, w_not, w_test, w_bAnd, w_bOr, w_bNot, w_if, w_lif, w_tup, w_lst, w_alloc, w_vL, w_call, w_aNil, w_aCons, w_lCall, w_append, w_nil, w_lnil, w_seq, w_next, w_ret, w_set, w_expr, w_sif, w_sub, w_unp, w_fn1, w_fn2, w_fn3, w_fn4, w_fn5, w_join, w_vSrc, w_aSrc, w_lSrc, w_catLL, w_catOL, w_repL, w_sortV, w_asI, w_slE0, w_slE1, w_sl, q_srcT, q_srcS, q_srcR, q_zipT, q_slT, w_lc, w_forS, Int.toNat_natCast, v_0, v_S, List.replicate_succ, List.replicate_zero, Nat.reduceSub, List.getElem?_cons_zero, List.getElem?_cons_succ, List.set_cons_zero, List.set_cons_succ, if_true, if_false, Bool.false_eq_true, Bool.not_true, Bool.not_false, q_add, q_addT, q_addS, q_sub, q_eq, q_eqS, q_eqB, q_ne, q_neS, q_neB, q_lt, q_ltS, q_le, q_gt, q_ge, q_in1, q_nin1, q_isN, q_isnN, q_isB, q_isnB, q_isiI0, q_isiI1, q_isiI2, q_isiI3, q_isiI4, q_isiI5, q_isiB0, q_isiB1, q_isiB2, q_isiB3, q_isiB4, q_isiB5, q_isiS0, q_isiS1, q_isiS2, q_isiS3, q_isiS4, q_isiS5, q_isiT0, q_isiT1, q_isiT2, q_isiT3, q_isiT4, q_isiT5, q_isiR0, q_isiR1, q_isiR2, q_isiR3, q_isiR4, q_isiR5, q_isiN0, q_isiN1, q_isiN2, q_isiN3, q_isiN4, q_isiN5, q_lenS, q_lenT, q_lenR, q_min2, q_max2, q_strS, q_tupP, ix_0, ix_1, ix_2, ix_3, List.length_cons, List.length_nil, lim_0, lim_1, lim_2, lim_3, lim_4, lim_5, lim_6, lim_7, lim_8, lim_9, lim_10, lim_11, lim_12, lim_13, lim_14, lim_15, lim_16, lim_17, lim_18, lim_19, lim_20, lim_21, lim_22, lim_23, Nat.reduceAdd, Nat.reduceLeDiff]
    obtain ⟨lo, rfl⟩ : ∃ j : Nat, i = (j : Int) := ⟨i.toNat, by omega⟩
    obtain ⟨hi, ehi⟩ : ∃ j : Nat, (lo + i' : Int) = (j : Int) := ⟨(lo + i').toNat, by omega⟩
    rw [ehi]
    refine ⟨?_, T3.mono (by omega), F1.trans (F2.trans F3)⟩
    rcases hd with rfl | rfl
    · exact ⟨.digits lo hi, rfl, by omega, by omega⟩
    · exact ⟨.letters lo hi, rfl, by omega, by omega⟩
  simp only [c1, decide_false, w_raise, w_try, w_vMS, w_vML, w_fmt, w_js, w_fj0, w_fj1, w_disp2, w_get2, w_idxC, w_split, w_par, w_unpL, w_unpV, w_dnew, w_dnewN, w_subD, w_bind, w_noX, w_ok, w_C, w_op2, w_asB, w_op3, w_and, w_or, w_not, w_test, w_bAnd, w_bOr, w_bNot, w_if, w_lif, w_tup, w_lst, w_alloc, w_vL, w_call, w_aNil, w_aCons, w_lCall, w_append, w_nil, w_lnil, w_seq, w_next, w_ret, w_set, w_expr, w_sif, w_sub, w_unp, w_fn1, w_fn2, w_fn3, w_fn4, w_fn5, w_join, w_vSrc, w_aSrc, w_lSrc, w_catLL, w_catOL, w_repL, w_sortV, w_asI, w_slE0, w_slE1, w_sl, q_srcT, q_srcS, q_srcR, q_zipT, q_slT, w_lc, w_forS, Int.toNat_natCast, v_0, v_S, List.replicate_succ, List.replicate_zero, Nat.reduceSub, List.getElem?_cons_zero, List.getElem?_cons_succ, List.set_cons_zero, List.set_cons_succ, if_true, if_false, Bool.false_eq_true, Bool.not_true, Bool.not_false, q_add, q_addT, q_addS, q_sub, q_eq, q_eqS, q_eqB, q_ne, q_neS, q_neB, q_lt, q_ltS, q_le, q_gt, q_ge, q_in1, q_nin1, q_isN, q_isnN, q_isB, q_isnB, q_isiI0, q_isiI1, q_isiI2, q_isiI3, q_isiI4, q_isiI5, q_isiB0, q_isiB1, q_isiB2, q_isiB3, q_isiB4, q_isiB5, q_isiS0, q_isiS1, q_isiS2, q_isiS3, q_isiS4, q_isiS5, q_isiT0, q_isiT1, q_isiT2, q_isiT3, q_isiT4, q_isiT5, q_isiR0, q_isiR1, q_isiR2, q_isiR3, q_isiR4, q_isiR5, q_isiN0, q_isiN1, q_isiN2, q_isiN3, q_isiN4, q_isiN5, q_lenS, q_lenT, q_lenR, q_min2, q_max2, q_strS, q_tupP, ix_0, ix_1, ix_2, ix_3]
  by_cases c2 : way = 3
  · simp only [c2, decide_true, w_raise, w_try, w_vMS, w_vML, w_fmt, w_js, w_fj0, w_fj1, w_disp2, w_get2, w_idxC, w_split, w_par, w_unpL, w_unpV, w_dnew, w_dnewN, w_subD, w_bind, w_noX, w_ok, w_C, w_op2, w_asB, w_op3, w_and, w_or, w_not, w_test, w_bAnd, w_bOr, w_bNot, w_if, w_lif, w_tup, w_lst, w_alloc, w_vL, w_call, w_aNil, w_aCons, w_lCall, w_append, w_nil, w_lnil, w_seq, w_next, w_ret, w_set, w_expr, w_sif, w_sub, w_unp, w_fn1, w_fn2, w_fn3, w_fn4, w_fn5, w_join, w_vSrc, w_aSrc, w_lSrc, w_catLL, w_catOL, w_repL, w_sortV, w_asI, w_slE0, w_slE1, w_sl, q_srcT, q_srcS, q_srcR, q_zipT, q_slT, w_lc, w_forS, Int.toNat_natCast, v_0, v_S, List.replicate_succ, List.replicate_zero, Nat.reduceSub, List.getElem?_cons_zero, List.getElem?_cons_succ, List.set_cons_zero, List.set_cons_succ, if_true, if_false, Bool.false_eq_true, Bool.not_true, Bool.not_false, q_add, q_addT, q_addS, q_sub, q_eq, q_eqS, q_eqB, q_ne, q_neS, q_neB, q_lt, q_ltS, q_le, q_gt, q_ge, q_in1, q_nin1, q_isN, q_isnN, q_isB, q_isnB, q_isiI0, q_isiI1, q_isiI2, q_isiI3, q_isiI4, q_isiI5, q_isiB0, q_isiB1, q_isiB2, q_isiB3, q_isiB4, q_isiB5, q_isiS0, q_isiS1, q_isiS2, q_isiS3, q_isiS4, q_isiS5, q_isiT0, q_isiT1, q_isiT2, q_isiT3, q_isiT4, q_isiT5, q_isiR0, q_isiR1, q_isiR2, q_isiR3, q_isiR4, q_isiR5, q_isiN0, q_isiN1, q_isiN2, q_isiN3, q_isiN4, q_isiN5, q_lenS, q_lenT, q_lenR, q_min2, q_max2, q_strS, q_tupP, ix_0, ix_1, ix_2, ix_3]
    refine (s_draw T1 (by omega) (by omega) (by omega)).imp fun v h2 p => ?_
    obtain ⟨i, rfl, i0, i1, T2, F2⟩ := p
    simp only [w_raise, w_try, w_vMS, w_vML, w_fmt, w_js, w_fj0, w_fj1, w_disp2, w_get2, w_idxC, w_split, w_par, w_unpL, w_unpV, w_dnew, w_dnewN, w_subD, w_bind, w_noX, w_ok, w_C, w_op2, w_asB, w_op3, w_and, w_or, w_not, w_test, w_bAnd, w_bOr, w_bNot, w_if, w_lif, w_tup, w_lst, w_alloc, w_vL, w_call, w_aNil, w_aCons, w_lCall, w_append, w_nil, w_lnil, w_seq, w_next, w_ret, w_set, w_expr, w_sif, w_sub, w_unp, w_fn1, w_fn2, w_fn3, w_fn4, w_fn5, w_join, w_vSrc, w_aSrc, w_lSrc, w_catLL, w_catOL, w_repL, w_sortV, w_asI, w_slE0, w_slE1, w_sl, q_srcT, q_srcS, q_srcR, q_zipT, q_slT, w_lc, w_forS, Int.toNat_natCast, v_0, v_S, List.replicate_succ, List.replicate_zero, Nat.reduceSub, List.getElem?_cons_zero, List.getElem?_cons_succ, List.set_cons_zero, List.set_cons_succ, if_true, if_false, Bool.false_eq_true, Bool.not_true, Bool.not_false, q_add, q_addT, q_addS, q_sub, q_eq, q_eqS, q_eqB, q_ne, q_neS, q_neB, q_lt, q_ltS, q_le, q_gt, q_ge, q_in1, q_nin1, q_isN, q_isnN, q_isB, q_isnB, q_isiI0, q_isiI1, q_isiI2, q_isiI3, q_isiI4, q_isiI5, q_isiB0, q_isiB1, q_isiB2, q_isiB3, q_isiB4, q_isiB5, q_isiS0, q_isiS1, q_isiS2, q_isiS3, q_isiS4, q_isiS5, q_isiT0, q_isiT1, q_isiT2, q_isiT3, q_isiT4, q_isiT5, q_isiR0, q_isiR1, q_isiR2, q_isiR3, q_isiR4, q_isiR5, q_isiN0, q_isiN1, q_isiN2, q_isiN3, q_isiN4, q_isiN5, q_lenS, q_lenT, q_lenR, q_min2, q_max2, q_strS, q_tupP, ix_0, ix_1, ix_2, ix_3, List.length_cons, List.length_nil, lim_0, lim_1, lim_2, lim_3, lim_4, lim_5, lim_6, lim_7, lim_8, lim_9, lim_10, lim_11, lim_12, lim_13, lim_14, lim_15, lim_16, lim_17, lim_18, lim_19, lim_20, lim_21, lim_22, lim_23, Nat.reduceAdd, Nat.reduceLeDiff]
    obtain ⟨n, en⟩ : ∃ j : Nat, (1 + i : Int) = (j : Int) := ⟨(1 + i).toNat, by omega⟩
    rw [en]
    exact ⟨⟨.number n, rfl, by omega, by omega⟩, T2.mono (by omega), F1.trans F2⟩
  simp only [c2, decide_false, w_raise, w_try, w_vMS, w_vML, w_fmt, w_js, w_fj0, w_fj1, w_disp2, w_get2, w_idxC, w_split, w_par, w_unpL, w_unpV, w_dnew, w_dnewN, w_subD, w_bind, w_noX, w_ok, w_C, w_op2, w_asB, w_op3, w_and, w_or, w_not, w_test, w_bAnd, w_bOr, w_bNot, w_if, w_lif, w_tup, w_lst, w_alloc, w_vL, w_call, w_aNil, w_aCons, w_lCall, w_append, w_nil, w_lnil, w_seq, w_next, w_ret, w_set, w_expr, w_sif, w_sub, w_unp, w_fn1, w_fn2, w_fn3, w_fn4, w_fn5, w_join, w_vSrc, w_aSrc, w_lSrc, w_catLL, w_catOL, w_repL, w_sortV, w_asI, w_slE0, w_slE1, w_sl, q_srcT, q_srcS, q_srcR, q_zipT, q_slT, w_lc, w_forS, Int.toNat_natCast, v_0, v_S, List.replicate_succ, List.replicate_zero, Nat.reduceSub, List.getElem?_cons_zero, List.getElem?_cons_succ, List.set_cons_zero, List.set_cons_succ, if_true, if_false, Bool.false_eq_true, Bool.not_true, Bool.not_false, q_add, q_addT, q_addS, q_sub, q_eq, q_eqS, q_eqB, q_ne, q_neS, q_neB, q_lt, q_ltS, q_le, q_gt, q_ge, q_in1, q_nin1, q_isN, q_isnN, q_isB, q_isnB, q_isiI0, q_isiI1, q_isiI2, q_isiI3, q_isiI4, q_isiI5, q_isiB0, q_isiB1, q_isiB2, q_isiB3, q_isiB4, q_isiB5, q_isiS0, q_isiS1, q_isiS2, q_isiS3, q_isiS4, q_isiS5, q_isiT0, q_isiT1, q_isiT2, q_isiT3, q_isiT4, q_isiT5, q_isiR0, q_isiR1, q_isiR2, q_isiR3, q_isiR4, q_isiR5, q_isiN0, q_isiN1, q_isiN2, q_isiN3, q_isiN4, q_isiN5, q_lenS, q_lenT, q_lenR, q_min2, q_max2, q_strS, q_tupP, ix_0, ix_1, ix_2, ix_3, List.length_nil, Nat.zero_le]
  have tl1 := T1.lt
  refine (s_draw T1.app (by omega) (by omega) (by omega)).imp fun v h2 p => ?_
  obtain ⟨i, rfl, i0, i1, T2, F2⟩ := p
  have g2 : h2[h1.length]? = some (.lst []) := F2.get getElem?_app (by omega)
  simp only [w_raise, w_try, w_vMS, w_vML, w_fmt, w_js, w_fj0, w_fj1, w_disp2, w_get2, w_idxC, w_split, w_par, w_unpL, w_unpV, w_dnew, w_dnewN, w_subD, w_bind, w_noX, w_ok, w_C, w_op2, w_asB, w_op3, w_and, w_or, w_not, w_test, w_bAnd, w_bOr, w_bNot, w_if, w_lif, w_tup, w_lst, w_alloc, w_vL, w_call, w_aNil, w_aCons, w_lCall, w_append, w_nil, w_lnil, w_seq, w_next, w_ret, w_set, w_expr, w_sif, w_sub, w_unp, w_fn1, w_fn2, w_fn3, w_fn4, w_fn5, w_join, w_vSrc, w_aSrc, w_lSrc, w_catLL, w_catOL, w_repL, w_sortV, w_asI, w_slE0, w_slE1, w_sl, q_srcT, q_srcS, q_srcR, q_zipT, q_slT, w_lc, w_forS, Int.toNat_natCast, v_0, v_S, List.replicate_succ, List.replicate_zero, Nat.reduceSub, List.getElem?_cons_zero, List.getElem?_cons_succ, List.set_cons_zero, List.set_cons_succ, if_true, if_false, Bool.false_eq_true, Bool.not_true, Bool.not_false, q_add, q_addT, q_addS, q_sub, q_eq, q_eqS, q_eqB, q_ne, q_neS, q_neB, q_lt, q_ltS, q_le, q_gt, q_ge, q_in1, q_nin1, q_isN, q_isnN, q_isB, q_isnB, q_isiI0, q_isiI1, q_isiI2, q_isiI3, q_isiI4, q_isiI5, q_isiB0, q_isiB1, q_isiB2, q_isiB3, q_isiB4, q_isiB5, q_isiS0, q_isiS1, q_isiS2, q_isiS3, q_isiS4, q_isiS5, q_isiT0, q_isiT1, q_isiT2, q_isiT3, q_isiT4, q_isiT5, q_isiR0, q_isiR1, q_isiR2, q_isiR3, q_isiR4, q_isiR5, q_isiN0, q_isiN1, q_isiN2, q_isiN3, q_isiN4, q_isiN5, q_lenS, q_lenT, q_lenR, q_min2, q_max2, q_strS, q_tupP, ix_0, ix_1, ix_2, ix_3, q_rng1 (show (-1000 : Int) ≤ 1 + i by omega) (show 1 + i ≤ 1000000 by omega)]
  obtain ⟨n, en⟩ : ∃ j : Nat, (1 + i : Int) = (j : Int) := ⟨(1 + i).toNat, by omega⟩
  rw [en, Int.toNat_natCast]
  have n1 : 1 ≤ n ∧ n ≤ 3 := by omega
  refine for_rng (fun j e h' => Twn ns t (b + 2 + 10 * j) h' ∧ Fr t h1 h' ∧ ∃ (x6 x7 : Option D) (ts : List Sg), e = [some (.rol (ns.map .int)), some (.obj t), some (.int m), some (.int way), none, some (.obj h1.length), x6, x7] ∧ h'[h1.length]? = some (.lst (ts.map .str)) ∧ ts.length = j ∧ ∀ s ∈ ts, TxOk s) ⟨by simpa using T2, Fr.app.trans F2, _, _, [], rfl, g2, rfl, fun s hs => by simp at hs⟩ ?_ ?_
  · rintro j e h3 hj ⟨T3, F3, x6, x7, ts, rfl, g3, e1, e2⟩
    simp only [w_raise, w_try, w_vMS, w_vML, w_fmt, w_js, w_fj0, w_fj1, w_disp2, w_get2, w_idxC, w_split, w_par, w_unpL, w_unpV, w_dnew, w_dnewN, w_subD, w_bind, w_noX, w_ok, w_C, w_op2, w_asB, w_op3, w_and, w_or, w_not, w_test, w_bAnd, w_bOr, w_bNot, w_if, w_lif, w_tup, w_lst, w_alloc, w_vL, w_call, w_aNil, w_aCons, w_lCall, w_append, w_nil, w_lnil, w_seq, w_next, w_ret, w_set, w_expr, w_sif, w_sub, w_unp, w_fn1, w_fn2, w_fn3, w_fn4, w_fn5, w_join, w_vSrc, w_aSrc, w_lSrc, w_catLL, w_catOL, w_repL, w_sortV, w_asI, w_slE0, w_slE1, w_sl, q_srcT, q_srcS, q_srcR, q_zipT, q_slT, w_lc, w_forS, Int.toNat_natCast, v_0, v_S, List.replicate_succ, List.replicate_zero, Nat.reduceSub, List.getElem?_cons_zero, List.getElem?_cons_succ, List.set_cons_zero, List.set_cons_succ, if_true, if_false, Bool.false_eq_true, Bool.not_true, Bool.not_false, q_add, q_addT, q_addS, q_sub, q_eq, q_eqS, q_eqB, q_ne, q_neS, q_neB, q_lt, q_ltS, q_le, q_gt, q_ge, q_in1, q_nin1, q_isN, q_isnN, q_isB, q_isnB, q_isiI0, q_isiI1, q_isiI2, q_isiI3, q_isiI4, q_isiI5, q_isiB0, q_isiB1, q_isiB2, q_isiB3, q_isiB4, q_isiB5, q_isiS0, q_isiS1, q_isiS2, q_isiS3, q_isiS4, q_isiS5, q_isiT0, q_isiT1, q_isiT2, q_isiT3, q_isiT4, q_isiT5, q_isiR0, q_isiR1, q_isiR2, q_isiR3, q_isiR4, q_isiR5, q_isiN0, q_isiN1, q_isiN2, q_isiN3, q_isiN4, q_isiN5, q_lenS, q_lenT, q_lenR, q_min2, q_max2, q_strS, q_tupP, ix_0, ix_1, ix_2, ix_3, List.length_cons, List.length_nil, lim_0, lim_1, lim_2, lim_3, lim_4, lim_5, lim_6, lim_7, lim_8, lim_9, lim_10, lim_11, lim_12, lim_13, lim_14, lim_15, lim_16, lim_17, lim_18, lim_19, lim_20, lim_21, lim_22, lim_23, Nat.reduceAdd, Nat.reduceLeDiff]
    have tl3 := T3.lt
    refine (s_pickL (ds := [.str [97, 98], .str [48, 49], .str [45, 46], .str [97, 48]]) T3.app (by omega) getElem?_app (by omega) (by simp) (by simp)).imp fun v h4 p => ?_
    obtain ⟨p1, T4, F4⟩ := p
    have g4 : h4[h1.length]? = some (.lst (ts.map .str)) := F4.get (get_app g3) (by omega)
    obtain ⟨cs, rfl, cs0, cs1, cs2⟩ : ∃ cs : Sg, v = .str cs ∧ cs ≠ [] ∧ cs.length < 1000000 ∧ ∀ c ∈ cs, c ∈ cSigns := by
      simp at p1
      rcases p1 with rfl | rfl | rfl | rfl <;> exact ⟨_, rfl, by simp, by simp, by decide⟩
    have l4 : lstOf (.obj h1.length) h4 = some (ts.map .str) := by simp [lstOf, g4]
    simp only [w_raise, w_try, w_vMS, w_vML, w_fmt, w_js, w_fj0, w_fj1, w_disp2, w_get2, w_idxC, w_split, w_par, w_unpL, w_unpV, w_dnew, w_dnewN, w_subD, w_bind, w_noX, w_ok, w_C, w_op2, w_asB, w_op3, w_and, w_or, w_not, w_test, w_bAnd, w_bOr, w_bNot, w_if, w_lif, w_tup, w_lst, w_alloc, w_vL, w_call, w_aNil, w_aCons, w_lCall, w_append, w_nil, w_lnil, w_seq, w_next, w_ret, w_set, w_expr, w_sif, w_sub, w_unp, w_fn1, w_fn2, w_fn3, w_fn4, w_fn5, w_join, w_vSrc, w_aSrc, w_lSrc, w_catLL, w_catOL, w_repL, w_sortV, w_asI, w_slE0, w_slE1, w_sl, q_srcT, q_srcS, q_srcR, q_zipT, q_slT, w_lc, w_forS, Int.toNat_natCast, v_0, v_S, List.replicate_succ, List.replicate_zero, Nat.reduceSub, List.getElem?_cons_zero, List.getElem?_cons_succ, List.set_cons_zero, List.set_cons_succ, if_true, if_false, Bool.false_eq_true, Bool.not_true, Bool.not_false, q_add, q_addT, q_addS, q_sub, q_eq, q_eqS, q_eqB, q_ne, q_neS, q_neB, q_lt, q_ltS, q_le, q_gt, q_ge, q_in1, q_nin1, q_isN, q_isnN, q_isB, q_isnB, q_isiI0, q_isiI1, q_isiI2, q_isiI3, q_isiI4, q_isiI5, q_isiB0, q_isiB1, q_isiB2, q_isiB3, q_isiB4, q_isiB5, q_isiS0, q_isiS1, q_isiS2, q_isiS3, q_isiS4, q_isiS5, q_isiT0, q_isiT1, q_isiT2, q_isiT3, q_isiT4, q_isiT5, q_isiR0, q_isiR1, q_isiR2, q_isiR3, q_isiR4, q_isiR5, q_isiN0, q_isiN1, q_isiN2, q_isiN3, q_isiN4, q_isiN5, q_lenS, q_lenT, q_lenR, q_min2, q_max2, q_strS, q_tupP, ix_0, ix_1, ix_2, ix_3, w_isLst, l4]
    refine (s_draw T4 (by omega) (by omega) (by omega)).imp fun v h5 p => ?_
    obtain ⟨q, rfl, q0, q1, T5, F5⟩ := p
    simp only [w_raise, w_try, w_vMS, w_vML, w_fmt, w_js, w_fj0, w_fj1, w_disp2, w_get2, w_idxC, w_split, w_par, w_unpL, w_unpV, w_dnew, w_dnewN, w_subD, w_bind, w_noX, w_ok, w_C, w_op2, w_asB, w_op3, w_and, w_or, w_not, w_test, w_bAnd, w_bOr, w_bNot, w_if, w_lif, w_tup, w_lst, w_alloc, w_vL, w_call, w_aNil, w_aCons, w_lCall, w_append, w_nil, w_lnil, w_seq, w_next, w_ret, w_set, w_expr, w_sif, w_sub, w_unp, w_fn1, w_fn2, w_fn3, w_fn4, w_fn5, w_join, w_vSrc, w_aSrc, w_lSrc, w_catLL, w_catOL, w_repL, w_sortV, w_asI, w_slE0, w_slE1, w_sl, q_srcT, q_srcS, q_srcR, q_zipT, q_slT, w_lc, w_forS, Int.toNat_natCast, v_0, v_S, List.replicate_succ, List.replicate_zero, Nat.reduceSub, List.getElem?_cons_zero, List.getElem?_cons_succ, List.set_cons_zero, List.set_cons_succ, if_true, if_false, Bool.false_eq_true, Bool.not_true, Bool.not_false, q_add, q_addT, q_addS, q_sub, q_eq, q_eqS, q_eqB, q_ne, q_neS, q_neB, q_lt, q_ltS, q_le, q_gt, q_ge, q_in1, q_nin1, q_isN, q_isnN, q_isB, q_isnB, q_isiI0, q_isiI1, q_isiI2, q_isiI3, q_isiI4, q_isiI5, q_isiB0, q_isiB1, q_isiB2, q_isiB3, q_isiB4, q_isiB5, q_isiS0, q_isiS1, q_isiS2, q_isiS3, q_isiS4, q_isiS5, q_isiT0, q_isiT1, q_isiT2, q_isiT3, q_isiT4, q_isiT5, q_isiR0, q_isiR1, q_isiR2, q_isiR3, q_isiR4, q_isiR5, q_isiN0, q_isiN1, q_isiN2, q_isiN3, q_isiN4, q_isiN5, q_lenS, q_lenT, q_lenR, q_min2, q_max2, q_strS, q_tupP, ix_0, ix_1, ix_2, ix_3]
    obtain ⟨z, ez⟩ : ∃ j : Nat, (1 + q : Int) = (j : Int) := ⟨(1 + q).toNat, by omega⟩
    rw [ez]
    have sg := s_signs (k := k) (cs := cs) (m := z) T5 (by omega) cs0 cs1 (by omega)
    refine sg.imp fun v h6 p => ?_
    obtain ⟨⟨s, rfl, s1, s2⟩, T6, F6⟩ := p
    have g6 : h6[h1.length]? = some (.lst (ts.map .str)) := (F5.trans F6).get g4 (by omega)
    have pu : pushM (.obj h1.length) (.str s) h6 = .ok .non (h6.set h1.length (.lst (ts.map .str ++ [.str s]))) := by
      have : (ts.map D.str).length < LIM := by simp only [List.length_map, LIM]; omega
      simp only [pushM, g6]
      exact if_pos this
    have l6 : h1.length < h6.length := get_lt g6
    rw [pu, w_ok]
    refine ⟨(T6.set_ne (by omega)).mono (by omega), (F3.trans (Fr.app.trans (F4.trans (F5.trans F6)))).set_new (Nat.le_refl _), _, _, ts ++ [s], rfl, ?_, by simp [e1], fun x hx => ?_⟩
    · rw [List.getElem?_set_self l6]
      simp
    · rcases List.mem_append.mp hx with hx | hx
      · exact e2 x hx
      · simp at hx
        subst hx
        exact ⟨by omega, by omega, fun c hc => cs2 c (s2 c hc)⟩
  · rintro e h3 ⟨T3, F3, x6, x7, ts, rfl, g3, e1, e2⟩
    have l3 : lstOf (.obj h1.length) h3 = some (ts.map .str) := by simp [lstOf, g3]
    have so : sortSet (ts.map .str) h3 = .ok ((sortU ts).map .str) h3 := by
      have := strsOf_map (fun x : Sg => x) ts
      simp only [List.map_id_fun', id_eq] at this
      unfold sortSet
      rw [show (ts.map D.str) = ts.map (fun x => D.str x) from rfl, this]
      exact if_pos (by omega)
    simp only [w_raise, w_try, w_vMS, w_vML, w_fmt, w_js, w_fj0, w_fj1, w_disp2, w_get2, w_idxC, w_split, w_par, w_unpL, w_unpV, w_dnew, w_dnewN, w_subD, w_bind, w_noX, w_ok, w_C, w_op2, w_asB, w_op3, w_and, w_or, w_not, w_test, w_bAnd, w_bOr, w_bNot, w_if, w_lif, w_tup, w_lst, w_alloc, w_vL, w_call, w_aNil, w_aCons, w_lCall, w_append, w_nil, w_lnil, w_seq, w_next, w_ret, w_set, w_expr, w_sif, w_sub, w_unp, w_fn1, w_fn2, w_fn3, w_fn4, w_fn5, w_join, w_vSrc, w_aSrc, w_lSrc, w_catLL, w_catOL, w_repL, w_sortV, w_asI, w_slE0, w_slE1, w_sl, q_srcT, q_srcS, q_srcR, q_zipT, q_slT, w_lc, w_forS, Int.toNat_natCast, v_0, v_S, List.replicate_succ, List.replicate_zero, Nat.reduceSub, List.getElem?_cons_zero, List.getElem?_cons_succ, List.set_cons_zero, List.set_cons_succ, if_true, if_false, Bool.false_eq_true, Bool.not_true, Bool.not_false, q_add, q_addT, q_addS, q_sub, q_eq, q_eqS, q_eqB, q_ne, q_neS, q_neB, q_lt, q_ltS, q_le, q_gt, q_ge, q_in1, q_nin1, q_isN, q_isnN, q_isB, q_isnB, q_isiI0, q_isiI1, q_isiI2, q_isiI3, q_isiI4, q_isiI5, q_isiB0, q_isiB1, q_isiB2, q_isiB3, q_isiB4, q_isiB5, q_isiS0, q_isiS1, q_isiS2, q_isiS3, q_isiS4, q_isiS5, q_isiT0, q_isiT1, q_isiT2, q_isiT3, q_isiT4, q_isiT5, q_isiR0, q_isiR1, q_isiR2, q_isiR3, q_isiR4, q_isiR5, q_isiN0, q_isiN1, q_isiN2, q_isiN3, q_isiN4, q_isiN5, q_lenS, q_lenT, q_lenR, q_min2, q_max2, q_strS, q_tupP, ix_0, ix_1, ix_2, ix_3, l3, so]
    rw [if_pos (by simp [LIM]), w_ok]
    have sl := sortU_len ts
    refine ⟨⟨.choice (sortU ts), rfl, sl.2 (by intro e; rw [e] at e1; simp at e1; omega), by omega, fun s hs => e2 s ((mem_sortU s ts).mp hs), sortU_lt ts⟩, T3.mono (by omega), F1.trans F3⟩
end
end FT
end
section
set_option maxRecDepth 100000
namespace FT
open PySem L2
set_option autoImplicit false
section
variable {k : Nat} {ns : List Int} {t b : Nat} {h : MH}
def IsFF (v : D) : Prop := ∃ f : FF, v = f.d ∧ f.Ok
theorem s_field {m : Nat} (T : Twn ns t b h) (hb : b < 2 ^ 56) (h0 : 1 ≤ m) (h1 : m ≤ 4) : OkX noE (run (k + 5) I__law_field [.rol (ns.map .int), .obj t, .int m] h) (Gv ns t (b + 110) h IsFF) := by
  rw [e__law_field]
  unfold m__law_field
  simp only [w_raise, w_try, w_vMS, w_vML, w_fmt, w_js, w_fj0, w_fj1, w_disp2, w_get2, w_idxC, w_split, w_par, w_unpL, w_unpV, w_dnew, w_dnewN, w_subD, w_bind, w_noX, w_ok, w_C, w_op2, w_asB, w_op3, w_and, w_or, w_not, w_test, w_bAnd, w_bOr, w_bNot, w_if, w_lif, w_tup, w_lst, w_alloc, w_vL, w_call, w_aNil, w_aCons, w_lCall, w_append, w_nil, w_lnil, w_seq, w_next, w_ret, w_set, w_expr, w_sif, w_sub, w_unp, w_fn1, w_fn2, w_fn3, w_fn4, w_fn5, w_join, w_vSrc, w_aSrc, w_lSrc, w_catLL, w_catOL, w_repL, w_sortV, w_asI, w_slE0, w_slE1, w_sl, q_srcT, q_srcS, q_srcR, q_zipT, q_slT, w_lc, w_forS, Int.toNat_natCast, v_0, v_S, List.replicate_succ, List.replicate_zero, Nat.reduceSub, List.getElem?_cons_zero, List.getElem?_cons_succ, List.set_cons_zero, List.set_cons_succ, if_true, if_false, Bool.false_eq_true, Bool.not_true, Bool.not_false, q_add, q_addT, q_addS, q_sub, q_eq, q_eqS, q_eqB, q_ne, q_neS, q_neB, q_lt, q_ltS, q_le, q_gt, q_ge, q_in1, q_nin1, q_isN, q_isnN, q_isB, q_isnB, q_isiI0, q_isiI1, q_isiI2, q_isiI3, q_isiI4, q_isiI5, q_isiB0, q_isiB1, q_isiB2, q_isiB3, q_isiB4, q_isiB5, q_isiS0, q_isiS1, q_isiS2, q_isiS3, q_isiS4, q_isiS5, q_isiT0, q_isiT1, q_isiT2, q_isiT3, q_isiT4, q_isiT5, q_isiR0, q_isiR1, q_isiR2, q_isiR3, q_isiR4, q_isiR5, q_isiN0, q_isiN1, q_isiN2, q_isiN3, q_isiN4, q_isiN5, q_lenS, q_lenT, q_lenR, q_min2, q_max2, q_strS, q_tupP, ix_0, ix_1, ix_2, ix_3]
  refine (s_simple T (by omega) h0 h1).imp fun v h1 p => ?_
  obtain ⟨⟨f, rfl, fo⟩, T1, F1⟩ := p
  refine (s_draw T1 (by omega) (by omega) (by omega)).imp fun v h2 p => ?_
  obtain ⟨i, rfl, i0, i1, T2, F2⟩ := p
  simp only [w_raise, w_try, w_vMS, w_vML, w_fmt, w_js, w_fj0, w_fj1, w_disp2, w_get2, w_idxC, w_split, w_par, w_unpL, w_unpV, w_dnew, w_dnewN, w_subD, w_bind, w_noX, w_ok, w_C, w_op2, w_asB, w_op3, w_and, w_or, w_not, w_test, w_bAnd, w_bOr, w_bNot, w_if, w_lif, w_tup, w_lst, w_alloc, w_vL, w_call, w_aNil, w_aCons, w_lCall, w_append, w_nil, w_lnil, w_seq, w_next, w_ret, w_set, w_expr, w_sif, w_sub, w_unp, w_fn1, w_fn2, w_fn3, w_fn4, w_fn5, w_join, w_vSrc, w_aSrc, w_lSrc, w_catLL, w_catOL, w_repL, w_sortV, w_asI, w_slE0, w_slE1, w_sl, q_srcT, q_srcS, q_srcR, q_zipT, q_slT, w_lc, w_forS, Int.toNat_natCast, v_0, v_S, List.replicate_succ, List.replicate_zero, Nat.reduceSub, List.getElem?_cons_zero, List.getElem?_cons_succ, List.set_cons_zero, List.set_cons_succ, if_true, if_false, Bool.false_eq_true, Bool.not_true, Bool.not_false, q_add, q_addT, q_addS, q_sub, q_eq, q_eqS, q_eqB, q_ne, q_neS, q_neB, q_lt, q_ltS, q_le, q_gt, q_ge, q_in1, q_nin1, q_isN, q_isnN, q_isB, q_isnB, q_isiI0, q_isiI1, q_isiI2, q_isiI3, q_isiI4, q_isiI5, q_isiB0, q_isiB1, q_isiB2, q_isiB3, q_isiB4, q_isiB5, q_isiS0, q_isiS1, q_isiS2, q_isiS3, q_isiS4, q_isiS5, q_isiT0, q_isiT1, q_isiT2, q_isiT3, q_isiT4, q_isiT5, q_isiR0, q_isiR1, q_isiR2, q_isiR3, q_isiR4, q_isiR5, q_isiN0, q_isiN1, q_isiN2, q_isiN3, q_isiN4, q_isiN5, q_lenS, q_lenT, q_lenR, q_min2, q_max2, q_strS, q_tupP, ix_0, ix_1, ix_2, ix_3]
  by_cases c : 0 < i
  · simp only [c, decide_true, w_raise, w_try, w_vMS, w_vML, w_fmt, w_js, w_fj0, w_fj1, w_disp2, w_get2, w_idxC, w_split, w_par, w_unpL, w_unpV, w_dnew, w_dnewN, w_subD, w_bind, w_noX, w_ok, w_C, w_op2, w_asB, w_op3, w_and, w_or, w_not, w_test, w_bAnd, w_bOr, w_bNot, w_if, w_lif, w_tup, w_lst, w_alloc, w_vL, w_call, w_aNil, w_aCons, w_lCall, w_append, w_nil, w_lnil, w_seq, w_next, w_ret, w_set, w_expr, w_sif, w_sub, w_unp, w_fn1, w_fn2, w_fn3, w_fn4, w_fn5, w_join, w_vSrc, w_aSrc, w_lSrc, w_catLL, w_catOL, w_repL, w_sortV, w_asI, w_slE0, w_slE1, w_sl, q_srcT, q_srcS, q_srcR, q_zipT, q_slT, w_lc, w_forS, Int.toNat_natCast, v_0, v_S, List.replicate_succ, List.replicate_zero, Nat.reduceSub, List.getElem?_cons_zero, List.getElem?_cons_succ, List.set_cons_zero, List.set_cons_succ, if_true, if_false, Bool.false_eq_true, Bool.not_true, Bool.not_false, q_add, q_addT, q_addS, q_sub, q_eq, q_eqS, q_eqB, q_ne, q_neS, q_neB, q_lt, q_ltS, q_le, q_gt, q_ge, q_in1, q_nin1, q_isN, q_isnN, q_isB, q_isnB, q_isiI0, q_isiI1, q_isiI2, q_isiI3, q_isiI4, q_isiI5, q_isiB0, q_isiB1, q_isiB2, q_isiB3, q_isiB4, q_isiB5, q_isiS0, q_isiS1, q_isiS2, q_isiS3, q_isiS4, q_isiS5, q_isiT0, q_isiT1, q_isiT2, q_isiT3, q_isiT4, q_isiT5, q_isiR0, q_isiR1, q_isiR2, q_isiR3, q_isiR4, q_isiR5, q_isiN0, q_isiN1, q_isiN2, q_isiN3, q_isiN4, q_isiN5, q_lenS, q_lenT, q_lenR, q_min2, q_max2, q_strS, q_tupP, ix_0, ix_1, ix_2, ix_3]
    exact ⟨⟨.one f, rfl, fo⟩, T2.mono (by omega), F1.trans F2⟩
  simp only [c, decide_false, w_raise, w_try, w_vMS, w_vML, w_fmt, w_js, w_fj0, w_fj1, w_disp2, w_get2, w_idxC, w_split, w_par, w_unpL, w_unpV, w_dnew, w_dnewN, w_subD, w_bind, w_noX, w_ok, w_C, w_op2, w_asB, w_op3, w_and, w_or, w_not, w_test, w_bAnd, w_bOr, w_bNot, w_if, w_lif, w_tup, w_lst, w_alloc, w_vL, w_call, w_aNil, w_aCons, w_lCall, w_append, w_nil, w_lnil, w_seq, w_next, w_ret, w_set, w_expr, w_sif, w_sub, w_unp, w_fn1, w_fn2, w_fn3, w_fn4, w_fn5, w_join, w_vSrc, w_aSrc, w_lSrc, w_catLL, w_catOL, w_repL, w_sortV, w_asI, w_slE0, w_slE1, w_sl, q_srcT, q_srcS, q_srcR, q_zipT, q_slT, w_lc, w_forS, Int.toNat_natCast, v_0, v_S, List.replicate_succ, List.replicate_zero, Nat.reduceSub, List.getElem?_cons_zero, List.getElem?_cons_succ, List.set_cons_zero, List.set_cons_succ, if_true, if_false, Bool.false_eq_true, Bool.not_true, Bool.not_false, q_add, q_addT, q_addS, q_sub, q_eq, q_eqS, q_eqB, q_ne, q_neS, q_neB, q_lt, q_ltS, q_le, q_gt, q_ge, q_in1, q_nin1, q_isN, q_isnN, q_isB, q_isnB, q_isiI0, q_isiI1, q_isiI2, q_isiI3, q_isiI4, q_isiI5, q_isiB0, q_isiB1, q_isiB2, q_isiB3, q_isiB4, q_isiB5, q_isiS0, q_isiS1, q_isiS2, q_isiS3, q_isiS4, q_isiS5, q_isiT0, q_isiT1, q_isiT2, q_isiT3, q_isiT4, q_isiT5, q_isiR0, q_isiR1, q_isiR2, q_isiR3, q_isiR4, q_isiR5, q_isiN0, q_isiN1, q_isiN2, q_isiN3, q_isiN4, q_isiN5, q_lenS, q_lenT, q_lenR, q_min2, q_max2, q_strS, q_tupP, ix_0, ix_1, ix_2, ix_3]
  refine (s_draw T2 (by omega) (by omega) (by omega)).imp fun v h3 p => ?_
  obtain ⟨j, rfl, j0, j1, T3, F3⟩ := p
  simp only [w_raise, w_try, w_vMS, w_vML, w_fmt, w_js, w_fj0, w_fj1, w_disp2, w_get2, w_idxC, w_split, w_par, w_unpL, w_unpV, w_dnew, w_dnewN, w_subD, w_bind, w_noX, w_ok, w_C, w_op2, w_asB, w_op3, w_and, w_or, w_not, w_test, w_bAnd, w_bOr, w_bNot, w_if, w_lif, w_tup, w_lst, w_alloc, w_vL, w_call, w_aNil, w_aCons, w_lCall, w_append, w_nil, w_lnil, w_seq, w_next, w_ret, w_set, w_expr, w_sif, w_sub, w_unp, w_fn1, w_fn2, w_fn3, w_fn4, w_fn5, w_join, w_vSrc, w_aSrc, w_lSrc, w_catLL, w_catOL, w_repL, w_sortV, w_asI, w_slE0, w_slE1, w_sl, q_srcT, q_srcS, q_srcR, q_zipT, q_slT, w_lc, w_forS, Int.toNat_natCast, v_0, v_S, List.replicate_succ, List.replicate_zero, Nat.reduceSub, List.getElem?_cons_zero, List.getElem?_cons_succ, List.set_cons_zero, List.set_cons_succ, if_true, if_false, Bool.false_eq_true, Bool.not_true, Bool.not_false, q_add, q_addT, q_addS, q_sub, q_eq, q_eqS, q_eqB, q_ne, q_neS, q_neB, q_lt, q_ltS, q_le, q_gt, q_ge, q_in1, q_nin1, q_isN, q_isnN, q_isB, q_isnB, q_isiI0, q_isiI1, q_isiI2, q_isiI3, q_isiI4, q_isiI5, q_isiB0, q_isiB1, q_isiB2, q_isiB3, q_isiB4, q_isiB5, q_isiS0, q_isiS1, q_isiS2, q_isiS3, q_isiS4, q_isiS5, q_isiT0, q_isiT1, q_isiT2, q_isiT3, q_isiT4, q_isiT5, q_isiR0, q_isiR1, q_isiR2, q_isiR3, q_isiR4, q_isiR5, q_isiN0, q_isiN1, q_isiN2, q_isiN3, q_isiN4, q_isiN5, q_lenS, q_lenT, q_lenR, q_min2, q_max2, q_strS, q_tupP, ix_0, ix_1, ix_2, ix_3, List.length_cons, List.length_nil, lim_0, lim_1, lim_2, lim_3, lim_4, lim_5, lim_6, lim_7, lim_8, lim_9, lim_10, lim_11, lim_12, lim_13, lim_14, lim_15, lim_16, lim_17, lim_18, lim_19, lim_20, lim_21, lim_22, lim_23, Nat.reduceAdd, Nat.reduceLeDiff]
  refine (s_draw T3 (by omega) (by omega) (by omega)).imp fun v h4 p => ?_
  obtain ⟨l, rfl, l0, l1, T4, F4⟩ := p
  simp only [w_raise, w_try, w_vMS, w_vML, w_fmt, w_js, w_fj0, w_fj1, w_disp2, w_get2, w_idxC, w_split, w_par, w_unpL, w_unpV, w_dnew, w_dnewN, w_subD, w_bind, w_noX, w_ok, w_C, w_op2, w_asB, w_op3, w_and, w_or, w_not, w_test, w_bAnd, w_bOr, w_bNot, w_if, w_lif, w_tup, w_lst, w_alloc, w_vL, w_call, w_aNil, w_aCons, w_lCall, w_append, w_nil, w_lnil, w_seq, w_next, w_ret, w_set, w_expr, w_sif, w_sub, w_unp, w_fn1, w_fn2, w_fn3, w_fn4, w_fn5, w_join, w_vSrc, w_aSrc, w_lSrc, w_catLL, w_catOL, w_repL, w_sortV, w_asI, w_slE0, w_slE1, w_sl, q_srcT, q_srcS, q_srcR, q_zipT, q_slT, w_lc, w_forS, Int.toNat_natCast, v_0, v_S, List.replicate_succ, List.replicate_zero, Nat.reduceSub, List.getElem?_cons_zero, List.getElem?_cons_succ, List.set_cons_zero, List.set_cons_succ, if_true, if_false, Bool.false_eq_true, Bool.not_true, Bool.not_false, q_add, q_addT, q_addS, q_sub, q_eq, q_eqS, q_eqB, q_ne, q_neS, q_neB, q_lt, q_ltS, q_le, q_gt, q_ge, q_in1, q_nin1, q_isN, q_isnN, q_isB, q_isnB, q_isiI0, q_isiI1, q_isiI2, q_isiI3, q_isiI4, q_isiI5, q_isiB0, q_isiB1, q_isiB2, q_isiB3, q_isiB4, q_isiB5, q_isiS0, q_isiS1, q_isiS2, q_isiS3, q_isiS4, q_isiS5, q_isiT0, q_isiT1, q_isiT2, q_isiT3, q_isiT4, q_isiT5, q_isiR0, q_isiR1, q_isiR2, q_isiR3, q_isiR4, q_isiR5, q_isiN0, q_isiN1, q_isiN2, q_isiN3, q_isiN4, q_isiN5, q_lenS, q_lenT, q_lenR, q_min2, q_max2, q_strS, q_tupP, ix_0, ix_1, ix_2, ix_3, List.length_cons, List.length_nil, lim_0, lim_1, lim_2, lim_3, lim_4, lim_5, lim_6, lim_7, lim_8, lim_9, lim_10, lim_11, lim_12, lim_13, lim_14, lim_15, lim_16, lim_17, lim_18, lim_19, lim_20, lim_21, lim_22, lim_23, Nat.reduceAdd, Nat.reduceLeDiff]
  obtain ⟨lo, rfl⟩ : ∃ z : Nat, j = (z : Int) := ⟨j.toNat, by omega⟩
  obtain ⟨hi, ehi⟩ : ∃ z : Nat, (if 1 < (lo : Int) + l then (lo : Int) + l else 1) = (z : Int) := ⟨(if 1 < (lo : Int) + l then (lo : Int) + l else 1).toNat, by split <;> omega⟩
  rw [ehi]
  exact ⟨⟨.rep f lo hi, rfl, fo, by split at ehi <;> omega, by split at ehi <;> omega, by split at ehi <;> omega⟩, T4.mono (by omega), F1.trans (F2.trans (F3.trans F4))⟩
def IsForm (n : Nat) (v : D) : Prop := ∃ fs : List FF, v = .tup (fs.map FF.d) ∧ (∀ f ∈ fs, f.Ok) ∧ 1 ≤ fs.length ∧ fs.length ≤ n
theorem s_form {m n : Nat} (T : Twn ns t b h) (hb : b < 2 ^ 55) (h0 : 1 ≤ m) (h1 : m ≤ 4) (n0 : 1 ≤ n) (n1 : n ≤ 6) : OkX noE (run (k + 6) I__law_form [.rol (ns.map .int), .obj t, .int n, .int m] h) (Gv ns t (b + 1000) h (IsForm n)) := by
  rw [e__law_form]
  unfold m__law_form
  simp only [w_raise, w_try, w_vMS, w_vML, w_fmt, w_js, w_fj0, w_fj1, w_disp2, w_get2, w_idxC, w_split, w_par, w_unpL, w_unpV, w_dnew, w_dnewN, w_subD, w_bind, w_noX, w_ok, w_C, w_op2, w_asB, w_op3, w_and, w_or, w_not, w_test, w_bAnd, w_bOr, w_bNot, w_if, w_lif, w_tup, w_lst, w_alloc, w_vL, w_call, w_aNil, w_aCons, w_lCall, w_append, w_nil, w_lnil, w_seq, w_next, w_ret, w_set, w_expr, w_sif, w_sub, w_unp, w_fn1, w_fn2, w_fn3, w_fn4, w_fn5, w_join, w_vSrc, w_aSrc, w_lSrc, w_catLL, w_catOL, w_repL, w_sortV, w_asI, w_slE0, w_slE1, w_sl, q_srcT, q_srcS, q_srcR, q_zipT, q_slT, w_lc, w_forS, Int.toNat_natCast, v_0, v_S, List.replicate_succ, List.replicate_zero, Nat.reduceSub, List.getElem?_cons_zero, List.getElem?_cons_succ, List.set_cons_zero, List.set_cons_succ, if_true, if_false, Bool.false_eq_true, Bool.not_true, Bool.not_false, q_add, q_addT, q_addS, q_sub, q_eq, q_eqS, q_eqB, q_ne, q_neS, q_neB, q_lt, q_ltS, q_le, q_gt, q_ge, q_in1, q_nin1, q_isN, q_isnN, q_isB, q_isnB, q_isiI0, q_isiI1, q_isiI2, q_isiI3, q_isiI4, q_isiI5, q_isiB0, q_isiB1, q_isiB2, q_isiB3, q_isiB4, q_isiB5, q_isiS0, q_isiS1, q_isiS2, q_isiS3, q_isiS4, q_isiS5, q_isiT0, q_isiT1, q_isiT2, q_isiT3, q_isiT4, q_isiT5, q_isiR0, q_isiR1, q_isiR2, q_isiR3, q_isiR4, q_isiR5, q_isiN0, q_isiN1, q_isiN2, q_isiN3, q_isiN4, q_isiN5, q_lenS, q_lenT, q_lenR, q_min2, q_max2, q_strS, q_tupP, ix_0, ix_1, ix_2, ix_3]
  refine (s_draw T (by omega) (by omega) (by omega)).imp fun v h2 p => ?_
  obtain ⟨i, rfl, i0, i1, T2, F2⟩ := p
  obtain ⟨c, ec⟩ : ∃ z : Nat, 1 + i = (z : Int) := ⟨(1 + i).toNat, by omega⟩
  simp only [w_raise, w_try, w_vMS, w_vML, w_fmt, w_js, w_fj0, w_fj1, w_disp2, w_get2, w_idxC, w_split, w_par, w_unpL, w_unpV, w_dnew, w_dnewN, w_subD, w_bind, w_noX, w_ok, w_C, w_op2, w_asB, w_op3, w_and, w_or, w_not, w_test, w_bAnd, w_bOr, w_bNot, w_if, w_lif, w_tup, w_lst, w_alloc, w_vL, w_call, w_aNil, w_aCons, w_lCall, w_append, w_nil, w_lnil, w_seq, w_next, w_ret, w_set, w_expr, w_sif, w_sub, w_unp, w_fn1, w_fn2, w_fn3, w_fn4, w_fn5, w_join, w_vSrc, w_aSrc, w_lSrc, w_catLL, w_catOL, w_repL, w_sortV, w_asI, w_slE0, w_slE1, w_sl, q_srcT, q_srcS, q_srcR, q_zipT, q_slT, w_lc, w_forS, Int.toNat_natCast, v_0, v_S, List.replicate_succ, List.replicate_zero, Nat.reduceSub, List.getElem?_cons_zero, List.getElem?_cons_succ, List.set_cons_zero, List.set_cons_succ, if_true, if_false, Bool.false_eq_true, Bool.not_true, Bool.not_false, q_add, q_addT, q_addS, q_sub, q_eq, q_eqS, q_eqB, q_ne, q_neS, q_neB, q_lt, q_ltS, q_le, q_gt, q_ge, q_in1, q_nin1, q_isN, q_isnN, q_isB, q_isnB, q_isiI0, q_isiI1, q_isiI2, q_isiI3, q_isiI4, q_isiI5, q_isiB0, q_isiB1, q_isiB2, q_isiB3, q_isiB4, q_isiB5, q_isiS0, q_isiS1, q_isiS2, q_isiS3, q_isiS4, q_isiS5, q_isiT0, q_isiT1, q_isiT2, q_isiT3, q_isiT4, q_isiT5, q_isiR0, q_isiR1, q_isiR2, q_isiR3, q_isiR4, q_isiR5, q_isiN0, q_isiN1, q_isiN2, q_isiN3, q_isiN4, q_isiN5, q_lenS, q_lenT, q_lenR, q_min2, q_max2, q_strS, q_tupP, ix_0, ix_1, ix_2, ix_3, ec, q_rng1 (show (-1000 : Int) ≤ (c : Int) by omega) (show (c : Int) ≤ 1000000 by omega)]
  rw [w_lcI (by rw [upTo_len]; simp only [LIM]; omega)]
  refine lc_rng (fun j acc h' => Twn ns t (b + 1 + 110 * j) h' ∧ Fr t h h' ∧ ∃ fs : List FF, acc = fs.map FF.d ∧ (∀ f ∈ fs, f.Ok) ∧ fs.length = j) ⟨by simpa using T2, F2, [], rfl, fun f hf => by simp at hf, rfl⟩ ?_ ?_
  · rintro j acc h' hj ⟨T', F, fs, rfl, e1, e2⟩
    simp only [wipeE, w_raise, w_try, w_vMS, w_vML, w_fmt, w_js, w_fj0, w_fj1, w_disp2, w_get2, w_idxC, w_split, w_par, w_unpL, w_unpV, w_dnew, w_dnewN, w_subD, w_bind, w_noX, w_ok, w_C, w_op2, w_asB, w_op3, w_and, w_or, w_not, w_test, w_bAnd, w_bOr, w_bNot, w_if, w_lif, w_tup, w_lst, w_alloc, w_vL, w_call, w_aNil, w_aCons, w_lCall, w_append, w_nil, w_lnil, w_seq, w_next, w_ret, w_set, w_expr, w_sif, w_sub, w_unp, w_fn1, w_fn2, w_fn3, w_fn4, w_fn5, w_join, w_vSrc, w_aSrc, w_lSrc, w_catLL, w_catOL, w_repL, w_sortV, w_asI, w_slE0, w_slE1, w_sl, q_srcT, q_srcS, q_srcR, q_zipT, q_slT, w_lc, w_forS, Int.toNat_natCast, v_0, v_S, List.replicate_succ, List.replicate_zero, Nat.reduceSub, List.getElem?_cons_zero, List.getElem?_cons_succ, List.set_cons_zero, List.set_cons_succ, if_true, if_false, Bool.false_eq_true, Bool.not_true, Bool.not_false, q_add, q_addT, q_addS, q_sub, q_eq, q_eqS, q_eqB, q_ne, q_neS, q_neB, q_lt, q_ltS, q_le, q_gt, q_ge, q_in1, q_nin1, q_isN, q_isnN, q_isB, q_isnB, q_isiI0, q_isiI1, q_isiI2, q_isiI3, q_isiI4, q_isiI5, q_isiB0, q_isiB1, q_isiB2, q_isiB3, q_isiB4, q_isiB5, q_isiS0, q_isiS1, q_isiS2, q_isiS3, q_isiS4, q_isiS5, q_isiT0, q_isiT1, q_isiT2, q_isiT3, q_isiT4, q_isiT5, q_isiR0, q_isiR1, q_isiR2, q_isiR3, q_isiR4, q_isiR5, q_isiN0, q_isiN1, q_isiN2, q_isiN3, q_isiN4, q_isiN5, q_lenS, q_lenT, q_lenR, q_min2, q_max2, q_strS, q_tupP, ix_0, ix_1, ix_2, ix_3]
    refine (s_field T' (by omega) h0 h1).imp fun v h3 p => ?_
    obtain ⟨⟨f, rfl, fo⟩, T3, F3⟩ := p
    refine ⟨T3.mono (by omega), F.trans F3, fs ++ [f], by simp, fun g hg => ?_, by simp [e2]⟩
    rcases List.mem_append.mp hg with hg | hg
    · exact e1 g hg
    · simp at hg; subst hg; exact fo
  · rintro acc h' ⟨T', F, fs, rfl, e1, e2⟩
    exact ⟨⟨fs, rfl, e1, by omega, by omega⟩, T'.mono (by omega), F⟩
end
end FT
end
section
set_option maxRecDepth 100000
namespace FT
open PySem L2
set_option autoImplicit false
/-! ### what the program's tests come to -/
def isStr : D → Bool
  | .str _ => true
  | _ => false
def isTup : D → Bool
  | .tup _ => true
  | _ => false
def isInt : D → Bool
  | .int _ => true
  | .bl _ => true
  | _ => false
def isBl : D → Bool
  | .bl _ => true
  | _ => false
section
variable {k : Nat} {h : MH} {d : D}
theorem isi_bas {c : Nat} (hb : Bas h d) (hc : c < 6) : ∃ t, tyOf d h = some t ∧ isiP [d, .ty c] h = .ok (.bl (subTy t c)) h := by
  obtain ⟨⟨t, e, ht⟩, _⟩ := hb
  exact ⟨t, e, by simp [isiP, e, ht, hc]⟩
theorem ty_obj {n t : Nat} (e : tyOf (.obj n) h = some t) : t = 4 := by
  simp only [tyOf] at e
  split at e
  · exact (Option.some.inj e).symm
  · cases e
theorem isi_str (hb : Bas h d) : isiP [d, .ty 2] h = .ok (.bl (isStr d)) h := by
  obtain ⟨t, e, e2⟩ := isi_bas (c := 2) hb (by decide)
  rw [e2]
  cases d <;> first | (cases e; rfl) | (cases e; done) | (rw [ty_obj e]; rfl)
theorem isi_tup (hb : Bas h d) : isiP [d, .ty 3] h = .ok (.bl (isTup d)) h := by
  obtain ⟨t, e, e2⟩ := isi_bas (c := 3) hb (by decide)
  rw [e2]
  cases d <;> first | (cases e; rfl) | (cases e; done) | (rw [ty_obj e]; rfl)
theorem isi_int (hb : Bas h d) : isiP [d, .ty 0] h = .ok (.bl (isInt d)) h := by
  obtain ⟨t, e, e2⟩ := isi_bas (c := 0) hb (by decide)
  rw [e2]
  cases d <;> first | (cases e; rfl) | (cases e; done) | (rw [ty_obj e]; rfl)
theorem isi_bl (hb : Bas h d) : isiP [d, .ty 1] h = .ok (.bl (isBl d)) h := by
  obtain ⟨t, e, e2⟩ := isi_bas (c := 1) hb (by decide)
  rw [e2]
  cases d <;> first | (cases e; rfl) | (cases e; done) | (rw [ty_obj e]; rfl)
def betw (d : D) (lo hi : Int) : Bool := match d with
  | .int i => decide (lo ≤ i) && decide (i ≤ hi)
  | _ => false
theorem s_between {lo hi : Int} (hb : Bas h d) : run (k + 1) I_is_between [d, .int lo, .int hi] h = .ok (.bl (betw d lo hi)) h := Ok.eq (by
  rw [e_is_between]
  unfold m_is_between
  simp only [w_raise, w_try, w_vMS, w_vML, w_fmt, w_js, w_fj0, w_fj1, w_disp2, w_get2, w_idxC, w_split, w_par, w_unpL, w_unpV, w_dnew, w_dnewN, w_subD, w_bind, w_noX, w_ok, w_C, w_op2, w_asB, w_op3, w_and, w_or, w_not, w_test, w_bAnd, w_bOr, w_bNot, w_if, w_lif, w_tup, w_lst, w_alloc, w_vL, w_call, w_aNil, w_aCons, w_lCall, w_append, w_nil, w_lnil, w_seq, w_next, w_ret, w_set, w_expr, w_sif, w_sub, w_unp, w_fn1, w_fn2, w_fn3, w_fn4, w_fn5, w_join, w_vSrc, w_aSrc, w_lSrc, w_catLL, w_catOL, w_repL, w_sortV, w_asI, w_slE0, w_slE1, w_sl, q_srcT, q_srcS, q_srcR, q_zipT, q_slT, w_lc, w_forS, Int.toNat_natCast, v_0, v_S, List.replicate_succ, List.replicate_zero, Nat.reduceSub, List.getElem?_cons_zero, List.getElem?_cons_succ, List.set_cons_zero, List.set_cons_succ, if_true, if_false, Bool.false_eq_true, Bool.not_true, Bool.not_false, q_add, q_addT, q_addS, q_sub, q_eq, q_eqS, q_eqB, q_ne, q_neS, q_neB, q_lt, q_ltS, q_le, q_gt, q_ge, q_in1, q_nin1, q_isN, q_isnN, q_isB, q_isnB, q_isiI0, q_isiI1, q_isiI2, q_isiI3, q_isiI4, q_isiI5, q_isiB0, q_isiB1, q_isiB2, q_isiB3, q_isiB4, q_isiB5, q_isiS0, q_isiS1, q_isiS2, q_isiS3, q_isiS4, q_isiS5, q_isiT0, q_isiT1, q_isiT2, q_isiT3, q_isiT4, q_isiT5, q_isiR0, q_isiR1, q_isiR2, q_isiR3, q_isiR4, q_isiR5, q_isiN0, q_isiN1, q_isiN2, q_isiN3, q_isiN4, q_isiN5, q_lenS, q_lenT, q_lenR, q_min2, q_max2, q_strS, q_tupP, ix_0, ix_1, ix_2, ix_3, isi_int hb]
  cases d <;> simp only [isInt, isi_bl hb, isBl, w_raise, w_try, w_vMS, w_vML, w_fmt, w_js, w_fj0, w_fj1, w_disp2, w_get2, w_idxC, w_split, w_par, w_unpL, w_unpV, w_dnew, w_dnewN, w_subD, w_bind, w_noX, w_ok, w_C, w_op2, w_asB, w_op3, w_and, w_or, w_not, w_test, w_bAnd, w_bOr, w_bNot, w_if, w_lif, w_tup, w_lst, w_alloc, w_vL, w_call, w_aNil, w_aCons, w_lCall, w_append, w_nil, w_lnil, w_seq, w_next, w_ret, w_set, w_expr, w_sif, w_sub, w_unp, w_fn1, w_fn2, w_fn3, w_fn4, w_fn5, w_join, w_vSrc, w_aSrc, w_lSrc, w_catLL, w_catOL, w_repL, w_sortV, w_asI, w_slE0, w_slE1, w_sl, q_srcT, q_srcS, q_srcR, q_zipT, q_slT, w_lc, w_forS, Int.toNat_natCast, v_0, v_S, List.replicate_succ, List.replicate_zero, Nat.reduceSub, List.getElem?_cons_zero, List.getElem?_cons_succ, List.set_cons_zero, List.set_cons_succ, if_true, if_false, Bool.false_eq_true, Bool.not_true, Bool.not_false, q_add, q_addT, q_addS, q_sub, q_eq, q_eqS, q_eqB, q_ne, q_neS, q_neB, q_lt, q_ltS, q_le, q_gt, q_ge, q_in1, q_nin1, q_isN, q_isnN, q_isB, q_isnB, q_isiI0, q_isiI1, q_isiI2, q_isiI3, q_isiI4, q_isiI5, q_isiB0, q_isiB1, q_isiB2, q_isiB3, q_isiB4, q_isiB5, q_isiS0, q_isiS1, q_isiS2, q_isiS3, q_isiS4, q_isiS5, q_isiT0, q_isiT1, q_isiT2, q_isiT3, q_isiT4, q_isiT5, q_isiR0, q_isiR1, q_isiR2, q_isiR3, q_isiR4, q_isiR5, q_isiN0, q_isiN1, q_isiN2, q_isiN3, q_isiN4, q_isiN5, q_lenS, q_lenT, q_lenR, q_min2, q_max2, q_strS, q_tupP, ix_0, ix_1, ix_2, ix_3, betw, and_self]
  rename_i i
  by_cases c : lo ≤ i <;> simp only [c, decide_true, decide_false, w_raise, w_try, w_vMS, w_vML, w_fmt, w_js, w_fj0, w_fj1, w_disp2, w_get2, w_idxC, w_split, w_par, w_unpL, w_unpV, w_dnew, w_dnewN, w_subD, w_bind, w_noX, w_ok, w_C, w_op2, w_asB, w_op3, w_and, w_or, w_not, w_test, w_bAnd, w_bOr, w_bNot, w_if, w_lif, w_tup, w_lst, w_alloc, w_vL, w_call, w_aNil, w_aCons, w_lCall, w_append, w_nil, w_lnil, w_seq, w_next, w_ret, w_set, w_expr, w_sif, w_sub, w_unp, w_fn1, w_fn2, w_fn3, w_fn4, w_fn5, w_join, w_vSrc, w_aSrc, w_lSrc, w_catLL, w_catOL, w_repL, w_sortV, w_asI, w_slE0, w_slE1, w_sl, q_srcT, q_srcS, q_srcR, q_zipT, q_slT, w_lc, w_forS, Int.toNat_natCast, v_0, v_S, List.replicate_succ, List.replicate_zero, Nat.reduceSub, List.getElem?_cons_zero, List.getElem?_cons_succ, List.set_cons_zero, List.set_cons_succ, if_true, if_false, Bool.false_eq_true, Bool.not_true, Bool.not_false, q_add, q_addT, q_addS, q_sub, q_eq, q_eqS, q_eqB, q_ne, q_neS, q_neB, q_lt, q_ltS, q_le, q_gt, q_ge, q_in1, q_nin1, q_isN, q_isnN, q_isB, q_isnB, q_isiI0, q_isiI1, q_isiI2, q_isiI3, q_isiI4, q_isiI5, q_isiB0, q_isiB1, q_isiB2, q_isiB3, q_isiB4, q_isiB5, q_isiS0, q_isiS1, q_isiS2, q_isiS3, q_isiS4, q_isiS5, q_isiT0, q_isiT1, q_isiT2, q_isiT3, q_isiT4, q_isiT5, q_isiR0, q_isiR1, q_isiR2, q_isiR3, q_isiR4, q_isiR5, q_isiN0, q_isiN1, q_isiN2, q_isiN3, q_isiN4, q_isiN5, q_lenS, q_lenT, q_lenR, q_min2, q_max2, q_strS, q_tupP, ix_0, ix_1, ix_2, ix_3, Bool.true_and, Bool.false_and, and_self])
theorem bas_int {i : Int} : Bas h (.int i) := ⟨⟨0, rfl, by decide⟩, fun s e => (by cases e), fun s e => (by cases e)⟩
theorem bas_str {s : Sg} (hl : s.length ≤ 1000000) (hc : ∀ c ∈ s, c < 1114112) : Bas h (.str s) := ⟨⟨2, rfl, by decide⟩, fun t e => (by cases e; exact ⟨hl, hc⟩), fun s e => (by cases e)⟩
theorem bas_tup {ds : List D} (hl : ds.length < 1000000) : Bas h (.tup ds) := ⟨⟨3, rfl, by decide⟩, fun t e => (by cases e), fun t e => (by cases e; exact hl)⟩
theorem all_signs {s cs : Sg} : (s.all fun c => decide (c ∈ cs)) = only' s cs := rfl
theorem s_text {s : Sg} (hs : TxOk s) : run (k + 1) I_is_text [.str s, .int 1, .int 4] h = .ok (.bl true) h := Ok.eq (by
  obtain ⟨h1, h2, h3⟩ := hs
  rw [e_is_text]
  unfold m_is_text
  have l : s.length ≤ LIM := by simp only [LIM]; omega
  simp only [w_raise, w_try, w_vMS, w_vML, w_fmt, w_js, w_fj0, w_fj1, w_disp2, w_get2, w_idxC, w_split, w_par, w_unpL, w_unpV, w_dnew, w_dnewN, w_subD, w_bind, w_noX, w_ok, w_C, w_op2, w_asB, w_op3, w_and, w_or, w_not, w_test, w_bAnd, w_bOr, w_bNot, w_if, w_lif, w_tup, w_lst, w_alloc, w_vL, w_call, w_aNil, w_aCons, w_lCall, w_append, w_nil, w_lnil, w_seq, w_next, w_ret, w_set, w_expr, w_sif, w_sub, w_unp, w_fn1, w_fn2, w_fn3, w_fn4, w_fn5, w_join, w_vSrc, w_aSrc, w_lSrc, w_catLL, w_catOL, w_repL, w_sortV, w_asI, w_slE0, w_slE1, w_sl, q_srcT, q_srcS, q_srcR, q_zipT, q_slT, w_lc, w_forS, Int.toNat_natCast, v_0, v_S, List.replicate_succ, List.replicate_zero, Nat.reduceSub, List.getElem?_cons_zero, List.getElem?_cons_succ, List.set_cons_zero, List.set_cons_succ, if_true, if_false, Bool.false_eq_true, Bool.not_true, Bool.not_false, q_add, q_addT, q_addS, q_sub, q_eq, q_eqS, q_eqB, q_ne, q_neS, q_neB, q_lt, q_ltS, q_le, q_gt, q_ge, q_in1, q_nin1, q_isN, q_isnN, q_isB, q_isnB, q_isiI0, q_isiI1, q_isiI2, q_isiI3, q_isiI4, q_isiI5, q_isiB0, q_isiB1, q_isiB2, q_isiB3, q_isiB4, q_isiB5, q_isiS0, q_isiS1, q_isiS2, q_isiS3, q_isiS4, q_isiS5, q_isiT0, q_isiT1, q_isiT2, q_isiT3, q_isiT4, q_isiT5, q_isiR0, q_isiR1, q_isiR2, q_isiR3, q_isiR4, q_isiR5, q_isiN0, q_isiN1, q_isiN2, q_isiN3, q_isiN4, q_isiN5, q_lenS, q_lenT, q_lenR, q_min2, q_max2, q_strS, q_tupP, ix_0, ix_1, ix_2, ix_3, q_lenS l]
  have c1 : (1 : Int) ≤ (s.length : Int) := by omega
  have c2 : (s.length : Int) ≤ 4 := by omega
  simp only [c1, c2, decide_true, w_raise, w_try, w_vMS, w_vML, w_fmt, w_js, w_fj0, w_fj1, w_disp2, w_get2, w_idxC, w_split, w_par, w_unpL, w_unpV, w_dnew, w_dnewN, w_subD, w_bind, w_noX, w_ok, w_C, w_op2, w_asB, w_op3, w_and, w_or, w_not, w_test, w_bAnd, w_bOr, w_bNot, w_if, w_lif, w_tup, w_lst, w_alloc, w_vL, w_call, w_aNil, w_aCons, w_lCall, w_append, w_nil, w_lnil, w_seq, w_next, w_ret, w_set, w_expr, w_sif, w_sub, w_unp, w_fn1, w_fn2, w_fn3, w_fn4, w_fn5, w_join, w_vSrc, w_aSrc, w_lSrc, w_catLL, w_catOL, w_repL, w_sortV, w_asI, w_slE0, w_slE1, w_sl, q_srcT, q_srcS, q_srcR, q_zipT, q_slT, w_lc, w_forS, Int.toNat_natCast, v_0, v_S, List.replicate_succ, List.replicate_zero, Nat.reduceSub, List.getElem?_cons_zero, List.getElem?_cons_succ, List.set_cons_zero, List.set_cons_succ, if_true, if_false, Bool.false_eq_true, Bool.not_true, Bool.not_false, q_add, q_addT, q_addS, q_sub, q_eq, q_eqS, q_eqB, q_ne, q_neS, q_neB, q_lt, q_ltS, q_le, q_gt, q_ge, q_in1, q_nin1, q_isN, q_isnN, q_isB, q_isnB, q_isiI0, q_isiI1, q_isiI2, q_isiI3, q_isiI4, q_isiI5, q_isiB0, q_isiB1, q_isiB2, q_isiB3, q_isiB4, q_isiB5, q_isiS0, q_isiS1, q_isiS2, q_isiS3, q_isiS4, q_isiS5, q_isiT0, q_isiT1, q_isiT2, q_isiT3, q_isiT4, q_isiT5, q_isiR0, q_isiR1, q_isiR2, q_isiR3, q_isiR4, q_isiR5, q_isiN0, q_isiN1, q_isiN2, q_isiN3, q_isiN4, q_isiN5, q_lenS, q_lenT, q_lenR, q_min2, q_max2, q_strS, q_tupP, ix_0, ix_1, ix_2, ix_3]
  rw [w_lcI (by simp only [List.length_map, LIM]; omega)]
  simp only [wipeE, w_raise, w_try, w_vMS, w_vML, w_fmt, w_js, w_fj0, w_fj1, w_disp2, w_get2, w_idxC, w_split, w_par, w_unpL, w_unpV, w_dnew, w_dnewN, w_subD, w_bind, w_noX, w_ok, w_C, w_op2, w_asB, w_op3, w_and, w_or, w_not, w_test, w_bAnd, w_bOr, w_bNot, w_if, w_lif, w_tup, w_lst, w_alloc, w_vL, w_call, w_aNil, w_aCons, w_lCall, w_append, w_nil, w_lnil, w_seq, w_next, w_ret, w_set, w_expr, w_sif, w_sub, w_unp, w_fn1, w_fn2, w_fn3, w_fn4, w_fn5, w_join, w_vSrc, w_aSrc, w_lSrc, w_catLL, w_catOL, w_repL, w_sortV, w_asI, w_slE0, w_slE1, w_sl, q_srcT, q_srcS, q_srcR, q_zipT, q_slT, w_lc, w_forS, Int.toNat_natCast, v_0, v_S, List.replicate_succ, List.replicate_zero, Nat.reduceSub, List.getElem?_cons_zero, List.getElem?_cons_succ, List.set_cons_zero, List.set_cons_succ, if_true, if_false, Bool.false_eq_true, Bool.not_true, Bool.not_false, q_add, q_addT, q_addS, q_sub, q_eq, q_eqS, q_eqB, q_ne, q_neS, q_neB, q_lt, q_ltS, q_le, q_gt, q_ge, q_in1, q_nin1, q_isN, q_isnN, q_isB, q_isnB, q_isiI0, q_isiI1, q_isiI2, q_isiI3, q_isiI4, q_isiI5, q_isiB0, q_isiB1, q_isiB2, q_isiB3, q_isiB4, q_isiB5, q_isiS0, q_isiS1, q_isiS2, q_isiS3, q_isiS4, q_isiS5, q_isiT0, q_isiT1, q_isiT2, q_isiT3, q_isiT4, q_isiT5, q_isiR0, q_isiR1, q_isiR2, q_isiR3, q_isiR4, q_isiR5, q_isiN0, q_isiN1, q_isiN2, q_isiN3, q_isiN4, q_isiN5, q_lenS, q_lenT, q_lenR, q_min2, q_max2, q_strS, q_tupP, ix_0, ix_1, ix_2, ix_3]
  rw [lcL_map (fun c => .bl (decide (c ∈ cSigns))) fun c hc => Ok.eq (by simp only [w_raise, w_try, w_vMS, w_vML, w_fmt, w_js, w_fj0, w_fj1, w_disp2, w_get2, w_idxC, w_split, w_par, w_unpL, w_unpV, w_dnew, w_dnewN, w_subD, w_bind, w_noX, w_ok, w_C, w_op2, w_asB, w_op3, w_and, w_or, w_not, w_test, w_bAnd, w_bOr, w_bNot, w_if, w_lif, w_tup, w_lst, w_alloc, w_vL, w_call, w_aNil, w_aCons, w_lCall, w_append, w_nil, w_lnil, w_seq, w_next, w_ret, w_set, w_expr, w_sif, w_sub, w_unp, w_fn1, w_fn2, w_fn3, w_fn4, w_fn5, w_join, w_vSrc, w_aSrc, w_lSrc, w_catLL, w_catOL, w_repL, w_sortV, w_asI, w_slE0, w_slE1, w_sl, q_srcT, q_srcS, q_srcR, q_zipT, q_slT, w_lc, w_forS, Int.toNat_natCast, v_0, v_S, List.replicate_succ, List.replicate_zero, Nat.reduceSub, List.getElem?_cons_zero, List.getElem?_cons_succ, List.set_cons_zero, List.set_cons_succ, if_true, if_false, Bool.false_eq_true, Bool.not_true, Bool.not_false, q_add, q_addT, q_addS, q_sub, q_eq, q_eqS, q_eqB, q_ne, q_neS, q_neB, q_lt, q_ltS, q_le, q_gt, q_ge, q_in1, q_nin1, q_isN, q_isnN, q_isB, q_isnB, q_isiI0, q_isiI1, q_isiI2, q_isiI3, q_isiI4, q_isiI5, q_isiB0, q_isiB1, q_isiB2, q_isiB3, q_isiB4, q_isiB5, q_isiS0, q_isiS1, q_isiS2, q_isiS3, q_isiS4, q_isiS5, q_isiT0, q_isiT1, q_isiT2, q_isiT3, q_isiT4, q_isiT5, q_isiR0, q_isiR1, q_isiR2, q_isiR3, q_isiR4, q_isiR5, q_isiN0, q_isiN1, q_isiN2, q_isiN3, q_isiN4, q_isiN5, q_lenS, q_lenT, q_lenR, q_min2, q_max2, q_strS, q_tupP, ix_0, ix_1, ix_2, ix_3, and_self]), w_ok, all_map, w_ok]
  refine ⟨?_, rfl⟩
  rw [List.all_eq_true.mpr fun c hc => decide_eq_true (h3 c hc)])
theorem s_span {lo hi : Nat} {least most : Int} (h1 : lo ≤ hi) (h2 : least ≤ hi) (h3 : (hi : Int) ≤ most) : run (k + 2) I_is_span [.int lo, .int hi, .int least, .int most] h = .ok (.bl true) h := Ok.eq (by
  rw [e_is_span]
  unfold m_is_span
  simp only [w_raise, w_try, w_vMS, w_vML, w_fmt, w_js, w_fj0, w_fj1, w_disp2, w_get2, w_idxC, w_split, w_par, w_unpL, w_unpV, w_dnew, w_dnewN, w_subD, w_bind, w_noX, w_ok, w_C, w_op2, w_asB, w_op3, w_and, w_or, w_not, w_test, w_bAnd, w_bOr, w_bNot, w_if, w_lif, w_tup, w_lst, w_alloc, w_vL, w_call, w_aNil, w_aCons, w_lCall, w_append, w_nil, w_lnil, w_seq, w_next, w_ret, w_set, w_expr, w_sif, w_sub, w_unp, w_fn1, w_fn2, w_fn3, w_fn4, w_fn5, w_join, w_vSrc, w_aSrc, w_lSrc, w_catLL, w_catOL, w_repL, w_sortV, w_asI, w_slE0, w_slE1, w_sl, q_srcT, q_srcS, q_srcR, q_zipT, q_slT, w_lc, w_forS, Int.toNat_natCast, v_0, v_S, List.replicate_succ, List.replicate_zero, Nat.reduceSub, List.getElem?_cons_zero, List.getElem?_cons_succ, List.set_cons_zero, List.set_cons_succ, if_true, if_false, Bool.false_eq_true, Bool.not_true, Bool.not_false, q_add, q_addT, q_addS, q_sub, q_eq, q_eqS, q_eqB, q_ne, q_neS, q_neB, q_lt, q_ltS, q_le, q_gt, q_ge, q_in1, q_nin1, q_isN, q_isnN, q_isB, q_isnB, q_isiI0, q_isiI1, q_isiI2, q_isiI3, q_isiI4, q_isiI5, q_isiB0, q_isiB1, q_isiB2, q_isiB3, q_isiB4, q_isiB5, q_isiS0, q_isiS1, q_isiS2, q_isiS3, q_isiS4, q_isiS5, q_isiT0, q_isiT1, q_isiT2, q_isiT3, q_isiT4, q_isiT5, q_isiR0, q_isiR1, q_isiR2, q_isiR3, q_isiR4, q_isiR5, q_isiN0, q_isiN1, q_isiN2, q_isiN3, q_isiN4, q_isiN5, q_lenS, q_lenT, q_lenR, q_min2, q_max2, q_strS, q_tupP, ix_0, ix_1, ix_2, ix_3, s_between bas_int, betw]
  have c1 : (0 : Int) ≤ (lo : Int) := by omega
  have c2 : (lo : Int) ≤ most := by omega
  have c3 : (lo : Int) ≤ (hi : Int) := by omega
  simp only [c1, c2, c3, h2, h3, decide_true, Bool.and_self, w_raise, w_try, w_vMS, w_vML, w_fmt, w_js, w_fj0, w_fj1, w_disp2, w_get2, w_idxC, w_split, w_par, w_unpL, w_unpV, w_dnew, w_dnewN, w_subD, w_bind, w_noX, w_ok, w_C, w_op2, w_asB, w_op3, w_and, w_or, w_not, w_test, w_bAnd, w_bOr, w_bNot, w_if, w_lif, w_tup, w_lst, w_alloc, w_vL, w_call, w_aNil, w_aCons, w_lCall, w_append, w_nil, w_lnil, w_seq, w_next, w_ret, w_set, w_expr, w_sif, w_sub, w_unp, w_fn1, w_fn2, w_fn3, w_fn4, w_fn5, w_join, w_vSrc, w_aSrc, w_lSrc, w_catLL, w_catOL, w_repL, w_sortV, w_asI, w_slE0, w_slE1, w_sl, q_srcT, q_srcS, q_srcR, q_zipT, q_slT, w_lc, w_forS, Int.toNat_natCast, v_0, v_S, List.replicate_succ, List.replicate_zero, Nat.reduceSub, List.getElem?_cons_zero, List.getElem?_cons_succ, List.set_cons_zero, List.set_cons_succ, if_true, if_false, Bool.false_eq_true, Bool.not_true, Bool.not_false, q_add, q_addT, q_addS, q_sub, q_eq, q_eqS, q_eqB, q_ne, q_neS, q_neB, q_lt, q_ltS, q_le, q_gt, q_ge, q_in1, q_nin1, q_isN, q_isnN, q_isB, q_isnB, q_isiI0, q_isiI1, q_isiI2, q_isiI3, q_isiI4, q_isiI5, q_isiB0, q_isiB1, q_isiB2, q_isiB3, q_isiB4, q_isiB5, q_isiS0, q_isiS1, q_isiS2, q_isiS3, q_isiS4, q_isiS5, q_isiT0, q_isiT1, q_isiT2, q_isiT3, q_isiT4, q_isiT5, q_isiR0, q_isiR1, q_isiR2, q_isiR3, q_isiR4, q_isiR5, q_isiN0, q_isiN1, q_isiN2, q_isiN3, q_isiN4, q_isiN5, q_lenS, q_lenT, q_lenR, q_min2, q_max2, q_strS, q_tupP, ix_0, ix_1, ix_2, ix_3, s_between bas_int, betw, and_self])
theorem in_true {x : D} {ds : List D} (hx : plN 39 x = true) (hd : ds.all (plN 39) = true) (hm : x ∈ ds) : inM x (.tup ds) h = .ok (.bl true) h := by
  rw [in_tup hx hd, inD_iff.mpr hm]
theorem txok_lt {s : Sg} (hs : TxOk s) : ∀ c ∈ s, c < 1114112 := fun c hc => by
  have h1 := hs.2.2 c hc
  have : ∀ c ∈ cSigns, c < 1114112 := by decide
  exact this c h1
theorem pl_str {s : Sg} {n : Nat} (hs : ∀ c ∈ s, c < 1114112) : plN (n + 1) (.str s) = true := by
  simp only [plN, List.all_eq_true]
  intro c hc
  exact decide_eq_true (hs c hc)
theorem s_simpleP {f : SF} (fo : f.Ok) : run (k + 3) I_is_simple [f.d] h = .ok (.bl true) h := Ok.eq (by
  rw [e_is_simple]
  unfold m_is_simple
  cases f with
  | word s =>
    simp only [SF.d, w_raise, w_try, w_vMS, w_vML, w_fmt, w_js, w_fj0, w_fj1, w_disp2, w_get2, w_idxC, w_split, w_par, w_unpL, w_unpV, w_dnew, w_dnewN, w_subD, w_bind, w_noX, w_ok, w_C, w_op2, w_asB, w_op3, w_and, w_or, w_not, w_test, w_bAnd, w_bOr, w_bNot, w_if, w_lif, w_tup, w_lst, w_alloc, w_vL, w_call, w_aNil, w_aCons, w_lCall, w_append, w_nil, w_lnil, w_seq, w_next, w_ret, w_set, w_expr, w_sif, w_sub, w_unp, w_fn1, w_fn2, w_fn3, w_fn4, w_fn5, w_join, w_vSrc, w_aSrc, w_lSrc, w_catLL, w_catOL, w_repL, w_sortV, w_asI, w_slE0, w_slE1, w_sl, q_srcT, q_srcS, q_srcR, q_zipT, q_slT, w_lc, w_forS, Int.toNat_natCast, v_0, v_S, List.replicate_succ, List.replicate_zero, Nat.reduceSub, List.getElem?_cons_zero, List.getElem?_cons_succ, List.set_cons_zero, List.set_cons_succ, if_true, if_false, Bool.false_eq_true, Bool.not_true, Bool.not_false, q_add, q_addT, q_addS, q_sub, q_eq, q_eqS, q_eqB, q_ne, q_neS, q_neB, q_lt, q_ltS, q_le, q_gt, q_ge, q_in1, q_nin1, q_isN, q_isnN, q_isB, q_isnB, q_isiI0, q_isiI1, q_isiI2, q_isiI3, q_isiI4, q_isiI5, q_isiB0, q_isiB1, q_isiB2, q_isiB3, q_isiB4, q_isiB5, q_isiS0, q_isiS1, q_isiS2, q_isiS3, q_isiS4, q_isiS5, q_isiT0, q_isiT1, q_isiT2, q_isiT3, q_isiT4, q_isiT5, q_isiR0, q_isiR1, q_isiR2, q_isiR3, q_isiR4, q_isiR5, q_isiN0, q_isiN1, q_isiN2, q_isiN3, q_isiN4, q_isiN5, q_lenS, q_lenT, q_lenR, q_min2, q_max2, q_strS, q_tupP, ix_0, ix_1, ix_2, ix_3, List.length_cons, List.length_nil, lim_0, lim_1, lim_2, lim_3, lim_4, lim_5, lim_6, lim_7, lim_8, lim_9, lim_10, lim_11, lim_12, lim_13, lim_14, lim_15, lim_16, lim_17, lim_18, lim_19, lim_20, lim_21, lim_22, lim_23, Nat.reduceAdd, Nat.reduceLeDiff, Int.cast_ofNat_Int, decide_true, decide_false, List.cons.injEq, reduceCtorEq, and_false, false_and, and_true, true_and, Nat.reduceEqDiff, Int.reduceLE, Int.reduceEq, Int.reduceLT, s_text fo, and_self]
  | digits lo hi =>
    obtain ⟨f1, f2⟩ := fo
    simp only [SF.d, w_raise, w_try, w_vMS, w_vML, w_fmt, w_js, w_fj0, w_fj1, w_disp2, w_get2, w_idxC, w_split, w_par, w_unpL, w_unpV, w_dnew, w_dnewN, w_subD, w_bind, w_noX, w_ok, w_C, w_op2, w_asB, w_op3, w_and, w_or, w_not, w_test, w_bAnd, w_bOr, w_bNot, w_if, w_lif, w_tup, w_lst, w_alloc, w_vL, w_call, w_aNil, w_aCons, w_lCall, w_append, w_nil, w_lnil, w_seq, w_next, w_ret, w_set, w_expr, w_sif, w_sub, w_unp, w_fn1, w_fn2, w_fn3, w_fn4, w_fn5, w_join, w_vSrc, w_aSrc, w_lSrc, w_catLL, w_catOL, w_repL, w_sortV, w_asI, w_slE0, w_slE1, w_sl, q_srcT, q_srcS, q_srcR, q_zipT, q_slT, w_lc, w_forS, Int.toNat_natCast, v_0, v_S, List.replicate_succ, List.replicate_zero, Nat.reduceSub, List.getElem?_cons_zero, List.getElem?_cons_succ, List.set_cons_zero, List.set_cons_succ, if_true, if_false, Bool.false_eq_true, Bool.not_true, Bool.not_false, q_add, q_addT, q_addS, q_sub, q_eq, q_eqS, q_eqB, q_ne, q_neS, q_neB, q_lt, q_ltS, q_le, q_gt, q_ge, q_in1, q_nin1, q_isN, q_isnN, q_isB, q_isnB, q_isiI0, q_isiI1, q_isiI2, q_isiI3, q_isiI4, q_isiI5, q_isiB0, q_isiB1, q_isiB2, q_isiB3, q_isiB4, q_isiB5, q_isiS0, q_isiS1, q_isiS2, q_isiS3, q_isiS4, q_isiS5, q_isiT0, q_isiT1, q_isiT2, q_isiT3, q_isiT4, q_isiT5, q_isiR0, q_isiR1, q_isiR2, q_isiR3, q_isiR4, q_isiR5, q_isiN0, q_isiN1, q_isiN2, q_isiN3, q_isiN4, q_isiN5, q_lenS, q_lenT, q_lenR, q_min2, q_max2, q_strS, q_tupP, ix_0, ix_1, ix_2, ix_3, List.length_cons, List.length_nil, lim_0, lim_1, lim_2, lim_3, lim_4, lim_5, lim_6, lim_7, lim_8, lim_9, lim_10, lim_11, lim_12, lim_13, lim_14, lim_15, lim_16, lim_17, lim_18, lim_19, lim_20, lim_21, lim_22, lim_23, Nat.reduceAdd, Nat.reduceLeDiff, Int.cast_ofNat_Int, decide_true, decide_false, List.cons.injEq, reduceCtorEq, and_false, false_and, and_true, true_and, Nat.reduceEqDiff, Int.reduceLE, Int.reduceEq, Int.reduceLT]
    rw [in_true (by decide) (by decide) (by simp), w_ok]
    simp only [w_raise, w_try, w_vMS, w_vML, w_fmt, w_js, w_fj0, w_fj1, w_disp2, w_get2, w_idxC, w_split, w_par, w_unpL, w_unpV, w_dnew, w_dnewN, w_subD, w_bind, w_noX, w_ok, w_C, w_op2, w_asB, w_op3, w_and, w_or, w_not, w_test, w_bAnd, w_bOr, w_bNot, w_if, w_lif, w_tup, w_lst, w_alloc, w_vL, w_call, w_aNil, w_aCons, w_lCall, w_append, w_nil, w_lnil, w_seq, w_next, w_ret, w_set, w_expr, w_sif, w_sub, w_unp, w_fn1, w_fn2, w_fn3, w_fn4, w_fn5, w_join, w_vSrc, w_aSrc, w_lSrc, w_catLL, w_catOL, w_repL, w_sortV, w_asI, w_slE0, w_slE1, w_sl, q_srcT, q_srcS, q_srcR, q_zipT, q_slT, w_lc, w_forS, Int.toNat_natCast, v_0, v_S, List.replicate_succ, List.replicate_zero, Nat.reduceSub, List.getElem?_cons_zero, List.getElem?_cons_succ, List.set_cons_zero, List.set_cons_succ, if_true, if_false, Bool.false_eq_true, Bool.not_true, Bool.not_false, q_add, q_addT, q_addS, q_sub, q_eq, q_eqS, q_eqB, q_ne, q_neS, q_neB, q_lt, q_ltS, q_le, q_gt, q_ge, q_in1, q_nin1, q_isN, q_isnN, q_isB, q_isnB, q_isiI0, q_isiI1, q_isiI2, q_isiI3, q_isiI4, q_isiI5, q_isiB0, q_isiB1, q_isiB2, q_isiB3, q_isiB4, q_isiB5, q_isiS0, q_isiS1, q_isiS2, q_isiS3, q_isiS4, q_isiS5, q_isiT0, q_isiT1, q_isiT2, q_isiT3, q_isiT4, q_isiT5, q_isiR0, q_isiR1, q_isiR2, q_isiR3, q_isiR4, q_isiR5, q_isiN0, q_isiN1, q_isiN2, q_isiN3, q_isiN4, q_isiN5, q_lenS, q_lenT, q_lenR, q_min2, q_max2, q_strS, q_tupP, ix_0, ix_1, ix_2, ix_3, s_span f1 (show (0 : Int) ≤ (hi : Int) by omega) (show (hi : Int) ≤ 4 by omega), and_self]
  | letters lo hi =>
    obtain ⟨f1, f2⟩ := fo
    simp only [SF.d, w_raise, w_try, w_vMS, w_vML, w_fmt, w_js, w_fj0, w_fj1, w_disp2, w_get2, w_idxC, w_split, w_par, w_unpL, w_unpV, w_dnew, w_dnewN, w_subD, w_bind, w_noX, w_ok, w_C, w_op2, w_asB, w_op3, w_and, w_or, w_not, w_test, w_bAnd, w_bOr, w_bNot, w_if, w_lif, w_tup, w_lst, w_alloc, w_vL, w_call, w_aNil, w_aCons, w_lCall, w_append, w_nil, w_lnil, w_seq, w_next, w_ret, w_set, w_expr, w_sif, w_sub, w_unp, w_fn1, w_fn2, w_fn3, w_fn4, w_fn5, w_join, w_vSrc, w_aSrc, w_lSrc, w_catLL, w_catOL, w_repL, w_sortV, w_asI, w_slE0, w_slE1, w_sl, q_srcT, q_srcS, q_srcR, q_zipT, q_slT, w_lc, w_forS, Int.toNat_natCast, v_0, v_S, List.replicate_succ, List.replicate_zero, Nat.reduceSub, List.getElem?_cons_zero, List.getElem?_cons_succ, List.set_cons_zero, List.set_cons_succ, if_true, if_false, Bool.false_eq_true, Bool.not_true, Bool.not_false, q_add, q_addT, q_addS, q_sub, q_eq, q_eqS, q_eqB, q_ne, q_neS, q_neB, q_lt, q_ltS, q_le, q_gt, q_ge, q_in1, q_nin1, q_isN, q_isnN, q_isB, q_isnB, q_isiI0, q_isiI1, q_isiI2, q_isiI3, q_isiI4, q_isiI5, q_isiB0, q_isiB1, q_isiB2, q_isiB3, q_isiB4, q_isiB5, q_isiS0, q_isiS1, q_isiS2, q_isiS3, q_isiS4, q_isiS5, q_isiT0, q_isiT1, q_isiT2, q_isiT3, q_isiT4, q_isiT5, q_isiR0, q_isiR1, q_isiR2, q_isiR3, q_isiR4, q_isiR5, q_isiN0, q_isiN1, q_isiN2, q_isiN3, q_isiN4, q_isiN5, q_lenS, q_lenT, q_lenR, q_min2, q_max2, q_strS, q_tupP, ix_0, ix_1, ix_2, ix_3, List.length_cons, List.length_nil, lim_0, lim_1, lim_2, lim_3, lim_4, lim_5, lim_6, lim_7, lim_8, lim_9, lim_10, lim_11, lim_12, lim_13, lim_14, lim_15, lim_16, lim_17, lim_18, lim_19, lim_20, lim_21, lim_22, lim_23, Nat.reduceAdd, Nat.reduceLeDiff, Int.cast_ofNat_Int, decide_true, decide_false, List.cons.injEq, reduceCtorEq, and_false, false_and, and_true, true_and, Nat.reduceEqDiff, Int.reduceLE, Int.reduceEq, Int.reduceLT]
    rw [in_true (by decide) (by decide) (by simp), w_ok]
    simp only [w_raise, w_try, w_vMS, w_vML, w_fmt, w_js, w_fj0, w_fj1, w_disp2, w_get2, w_idxC, w_split, w_par, w_unpL, w_unpV, w_dnew, w_dnewN, w_subD, w_bind, w_noX, w_ok, w_C, w_op2, w_asB, w_op3, w_and, w_or, w_not, w_test, w_bAnd, w_bOr, w_bNot, w_if, w_lif, w_tup, w_lst, w_alloc, w_vL, w_call, w_aNil, w_aCons, w_lCall, w_append, w_nil, w_lnil, w_seq, w_next, w_ret, w_set, w_expr, w_sif, w_sub, w_unp, w_fn1, w_fn2, w_fn3, w_fn4, w_fn5, w_join, w_vSrc, w_aSrc, w_lSrc, w_catLL, w_catOL, w_repL, w_sortV, w_asI, w_slE0, w_slE1, w_sl, q_srcT, q_srcS, q_srcR, q_zipT, q_slT, w_lc, w_forS, Int.toNat_natCast, v_0, v_S, List.replicate_succ, List.replicate_zero, Nat.reduceSub, List.getElem?_cons_zero, List.getElem?_cons_succ, List.set_cons_zero, List.set_cons_succ, if_true, if_false, Bool.false_eq_true, Bool.not_true, Bool.not_false, q_add, q_addT, q_addS, q_sub, q_eq, q_eqS, q_eqB, q_ne, q_neS, q_neB, q_lt, q_ltS, q_le, q_gt, q_ge, q_in1, q_nin1, q_isN, q_isnN, q_isB, q_isnB, q_isiI0, q_isiI1, q_isiI2, q_isiI3, q_isiI4, q_isiI5, q_isiB0, q_isiB1, q_isiB2, q_isiB3, q_isiB4, q_isiB5, q_isiS0, q_isiS1, q_isiS2, q_isiS3, q_isiS4, q_isiS5, q_isiT0, q_isiT1, q_isiT2, q_isiT3, q_isiT4, q_isiT5, q_isiR0, q_isiR1, q_isiR2, q_isiR3, q_isiR4, q_isiR5, q_isiN0, q_isiN1, q_isiN2, q_isiN3, q_isiN4, q_isiN5, q_lenS, q_lenT, q_lenR, q_min2, q_max2, q_strS, q_tupP, ix_0, ix_1, ix_2, ix_3, s_span f1 (show (0 : Int) ≤ (hi : Int) by omega) (show (hi : Int) ≤ 4 by omega), and_self]
  | number n =>
    obtain ⟨f1, f2⟩ := fo
    have c1 : (1 : Int) ≤ (n : Int) := by omega
    have c2 : (n : Int) ≤ 4 := by omega
    simp only [SF.d, w_raise, w_try, w_vMS, w_vML, w_fmt, w_js, w_fj0, w_fj1, w_disp2, w_get2, w_idxC, w_split, w_par, w_unpL, w_unpV, w_dnew, w_dnewN, w_subD, w_bind, w_noX, w_ok, w_C, w_op2, w_asB, w_op3, w_and, w_or, w_not, w_test, w_bAnd, w_bOr, w_bNot, w_if, w_lif, w_tup, w_lst, w_alloc, w_vL, w_call, w_aNil, w_aCons, w_lCall, w_append, w_nil, w_lnil, w_seq, w_next, w_ret, w_set, w_expr, w_sif, w_sub, w_unp, w_fn1, w_fn2, w_fn3, w_fn4, w_fn5, w_join, w_vSrc, w_aSrc, w_lSrc, w_catLL, w_catOL, w_repL, w_sortV, w_asI, w_slE0, w_slE1, w_sl, q_srcT, q_srcS, q_srcR, q_zipT, q_slT, w_lc, w_forS, Int.toNat_natCast, v_0, v_S, List.replicate_succ, List.replicate_zero, Nat.reduceSub, List.getElem?_cons_zero, List.getElem?_cons_succ, List.set_cons_zero, List.set_cons_succ, if_true, if_false, Bool.false_eq_true, Bool.not_true, Bool.not_false, q_add, q_addT, q_addS, q_sub, q_eq, q_eqS, q_eqB, q_ne, q_neS, q_neB, q_lt, q_ltS, q_le, q_gt, q_ge, q_in1, q_nin1, q_isN, q_isnN, q_isB, q_isnB, q_isiI0, q_isiI1, q_isiI2, q_isiI3, q_isiI4, q_isiI5, q_isiB0, q_isiB1, q_isiB2, q_isiB3, q_isiB4, q_isiB5, q_isiS0, q_isiS1, q_isiS2, q_isiS3, q_isiS4, q_isiS5, q_isiT0, q_isiT1, q_isiT2, q_isiT3, q_isiT4, q_isiT5, q_isiR0, q_isiR1, q_isiR2, q_isiR3, q_isiR4, q_isiR5, q_isiN0, q_isiN1, q_isiN2, q_isiN3, q_isiN4, q_isiN5, q_lenS, q_lenT, q_lenR, q_min2, q_max2, q_strS, q_tupP, ix_0, ix_1, ix_2, ix_3, List.length_cons, List.length_nil, lim_0, lim_1, lim_2, lim_3, lim_4, lim_5, lim_6, lim_7, lim_8, lim_9, lim_10, lim_11, lim_12, lim_13, lim_14, lim_15, lim_16, lim_17, lim_18, lim_19, lim_20, lim_21, lim_22, lim_23, Nat.reduceAdd, Nat.reduceLeDiff, Int.cast_ofNat_Int, decide_true, decide_false, List.cons.injEq, reduceCtorEq, and_false, false_and, and_true, true_and, Nat.reduceEqDiff, Int.reduceLE, Int.reduceEq, Int.reduceLT, s_between bas_int, betw, c1, c2, Bool.and_self, and_self]
  | choice ts =>
    obtain ⟨f1, f2, f3, f4⟩ := fo
    have c1 : (1 : Int) ≤ (ts.length : Int) := by omega
    have c2 : (ts.length : Int) ≤ 4 := by omega
    simp only [SF.d, w_raise, w_try, w_vMS, w_vML, w_fmt, w_js, w_fj0, w_fj1, w_disp2, w_get2, w_idxC, w_split, w_par, w_unpL, w_unpV, w_dnew, w_dnewN, w_subD, w_bind, w_noX, w_ok, w_C, w_op2, w_asB, w_op3, w_and, w_or, w_not, w_test, w_bAnd, w_bOr, w_bNot, w_if, w_lif, w_tup, w_lst, w_alloc, w_vL, w_call, w_aNil, w_aCons, w_lCall, w_append, w_nil, w_lnil, w_seq, w_next, w_ret, w_set, w_expr, w_sif, w_sub, w_unp, w_fn1, w_fn2, w_fn3, w_fn4, w_fn5, w_join, w_vSrc, w_aSrc, w_lSrc, w_catLL, w_catOL, w_repL, w_sortV, w_asI, w_slE0, w_slE1, w_sl, q_srcT, q_srcS, q_srcR, q_zipT, q_slT, w_lc, w_forS, Int.toNat_natCast, v_0, v_S, List.replicate_succ, List.replicate_zero, Nat.reduceSub, List.getElem?_cons_zero, List.getElem?_cons_succ, List.set_cons_zero, List.set_cons_succ, if_true, if_false, Bool.false_eq_true, Bool.not_true, Bool.not_false, q_add, q_addT, q_addS, q_sub, q_eq, q_eqS, q_eqB, q_ne, q_neS, q_neB, q_lt, q_ltS, q_le, q_gt, q_ge, q_in1, q_nin1, q_isN, q_isnN, q_isB, q_isnB, q_isiI0, q_isiI1, q_isiI2, q_isiI3, q_isiI4, q_isiI5, q_isiB0, q_isiB1, q_isiB2, q_isiB3, q_isiB4, q_isiB5, q_isiS0, q_isiS1, q_isiS2, q_isiS3, q_isiS4, q_isiS5, q_isiT0, q_isiT1, q_isiT2, q_isiT3, q_isiT4, q_isiT5, q_isiR0, q_isiR1, q_isiR2, q_isiR3, q_isiR4, q_isiR5, q_isiN0, q_isiN1, q_isiN2, q_isiN3, q_isiN4, q_isiN5, q_lenS, q_lenT, q_lenR, q_min2, q_max2, q_strS, q_tupP, ix_0, ix_1, ix_2, ix_3, List.length_cons, List.length_nil, lim_0, lim_1, lim_2, lim_3, lim_4, lim_5, lim_6, lim_7, lim_8, lim_9, lim_10, lim_11, lim_12, lim_13, lim_14, lim_15, lim_16, lim_17, lim_18, lim_19, lim_20, lim_21, lim_22, lim_23, Nat.reduceAdd, Nat.reduceLeDiff, Int.cast_ofNat_Int, decide_true, decide_false, List.cons.injEq, reduceCtorEq, and_false, false_and, and_true, true_and, Nat.reduceEqDiff, Int.reduceLE, Int.reduceEq, Int.reduceLT, List.length_map, c1, c2]
    rw [w_lcI (by simp only [List.length_map, LIM]; omega)]
    simp only [wipeE, w_raise, w_try, w_vMS, w_vML, w_fmt, w_js, w_fj0, w_fj1, w_disp2, w_get2, w_idxC, w_split, w_par, w_unpL, w_unpV, w_dnew, w_dnewN, w_subD, w_bind, w_noX, w_ok, w_C, w_op2, w_asB, w_op3, w_and, w_or, w_not, w_test, w_bAnd, w_bOr, w_bNot, w_if, w_lif, w_tup, w_lst, w_alloc, w_vL, w_call, w_aNil, w_aCons, w_lCall, w_append, w_nil, w_lnil, w_seq, w_next, w_ret, w_set, w_expr, w_sif, w_sub, w_unp, w_fn1, w_fn2, w_fn3, w_fn4, w_fn5, w_join, w_vSrc, w_aSrc, w_lSrc, w_catLL, w_catOL, w_repL, w_sortV, w_asI, w_slE0, w_slE1, w_sl, q_srcT, q_srcS, q_srcR, q_zipT, q_slT, w_lc, w_forS, Int.toNat_natCast, v_0, v_S, List.replicate_succ, List.replicate_zero, Nat.reduceSub, List.getElem?_cons_zero, List.getElem?_cons_succ, List.set_cons_zero, List.set_cons_succ, if_true, if_false, Bool.false_eq_true, Bool.not_true, Bool.not_false, q_add, q_addT, q_addS, q_sub, q_eq, q_eqS, q_eqB, q_ne, q_neS, q_neB, q_lt, q_ltS, q_le, q_gt, q_ge, q_in1, q_nin1, q_isN, q_isnN, q_isB, q_isnB, q_isiI0, q_isiI1, q_isiI2, q_isiI3, q_isiI4, q_isiI5, q_isiB0, q_isiB1, q_isiB2, q_isiB3, q_isiB4, q_isiB5, q_isiS0, q_isiS1, q_isiS2, q_isiS3, q_isiS4, q_isiS5, q_isiT0, q_isiT1, q_isiT2, q_isiT3, q_isiT4, q_isiT5, q_isiR0, q_isiR1, q_isiR2, q_isiR3, q_isiR4, q_isiR5, q_isiN0, q_isiN1, q_isiN2, q_isiN3, q_isiN4, q_isiN5, q_lenS, q_lenT, q_lenR, q_min2, q_max2, q_strS, q_tupP, ix_0, ix_1, ix_2, ix_3]
    rw [lcL_map (fun s => .bl ((fun _ => true) s)) fun s hs => Ok.eq (by simp only [w_raise, w_try, w_vMS, w_vML, w_fmt, w_js, w_fj0, w_fj1, w_disp2, w_get2, w_idxC, w_split, w_par, w_unpL, w_unpV, w_dnew, w_dnewN, w_subD, w_bind, w_noX, w_ok, w_C, w_op2, w_asB, w_op3, w_and, w_or, w_not, w_test, w_bAnd, w_bOr, w_bNot, w_if, w_lif, w_tup, w_lst, w_alloc, w_vL, w_call, w_aNil, w_aCons, w_lCall, w_append, w_nil, w_lnil, w_seq, w_next, w_ret, w_set, w_expr, w_sif, w_sub, w_unp, w_fn1, w_fn2, w_fn3, w_fn4, w_fn5, w_join, w_vSrc, w_aSrc, w_lSrc, w_catLL, w_catOL, w_repL, w_sortV, w_asI, w_slE0, w_slE1, w_sl, q_srcT, q_srcS, q_srcR, q_zipT, q_slT, w_lc, w_forS, Int.toNat_natCast, v_0, v_S, List.replicate_succ, List.replicate_zero, Nat.reduceSub, List.getElem?_cons_zero, List.getElem?_cons_succ, List.set_cons_zero, List.set_cons_succ, if_true, if_false, Bool.false_eq_true, Bool.not_true, Bool.not_false, q_add, q_addT, q_addS, q_sub, q_eq, q_eqS, q_eqB, q_ne, q_neS, q_neB, q_lt, q_ltS, q_le, q_gt, q_ge, q_in1, q_nin1, q_isN, q_isnN, q_isB, q_isnB, q_isiI0, q_isiI1, q_isiI2, q_isiI3, q_isiI4, q_isiI5, q_isiB0, q_isiB1, q_isiB2, q_isiB3, q_isiB4, q_isiB5, q_isiS0, q_isiS1, q_isiS2, q_isiS3, q_isiS4, q_isiS5, q_isiT0, q_isiT1, q_isiT2, q_isiT3, q_isiT4, q_isiT5, q_isiR0, q_isiR1, q_isiR2, q_isiR3, q_isiR4, q_isiR5, q_isiN0, q_isiN1, q_isiN2, q_isiN3, q_isiN4, q_isiN5, q_lenS, q_lenT, q_lenR, q_min2, q_max2, q_strS, q_tupP, ix_0, ix_1, ix_2, ix_3, s_text (f3 s hs), and_self]), w_ok, all_map, w_ok]
    have e1 : (ts.all fun _ => true) = true := by simp
    simp only [e1, w_raise, w_try, w_vMS, w_vML, w_fmt, w_js, w_fj0, w_fj1, w_disp2, w_get2, w_idxC, w_split, w_par, w_unpL, w_unpV, w_dnew, w_dnewN, w_subD, w_bind, w_noX, w_ok, w_C, w_op2, w_asB, w_op3, w_and, w_or, w_not, w_test, w_bAnd, w_bOr, w_bNot, w_if, w_lif, w_tup, w_lst, w_alloc, w_vL, w_call, w_aNil, w_aCons, w_lCall, w_append, w_nil, w_lnil, w_seq, w_next, w_ret, w_set, w_expr, w_sif, w_sub, w_unp, w_fn1, w_fn2, w_fn3, w_fn4, w_fn5, w_join, w_vSrc, w_aSrc, w_lSrc, w_catLL, w_catOL, w_repL, w_sortV, w_asI, w_slE0, w_slE1, w_sl, q_srcT, q_srcS, q_srcR, q_zipT, q_slT, w_lc, w_forS, Int.toNat_natCast, v_0, v_S, List.replicate_succ, List.replicate_zero, Nat.reduceSub, List.getElem?_cons_zero, List.getElem?_cons_succ, List.set_cons_zero, List.set_cons_succ, if_true, if_false, Bool.false_eq_true, Bool.not_true, Bool.not_false, q_add, q_addT, q_addS, q_sub, q_eq, q_eqS, q_eqB, q_ne, q_neS, q_neB, q_lt, q_ltS, q_le, q_gt, q_ge, q_in1, q_nin1, q_isN, q_isnN, q_isB, q_isnB, q_isiI0, q_isiI1, q_isiI2, q_isiI3, q_isiI4, q_isiI5, q_isiB0, q_isiB1, q_isiB2, q_isiB3, q_isiB4, q_isiB5, q_isiS0, q_isiS1, q_isiS2, q_isiS3, q_isiS4, q_isiS5, q_isiT0, q_isiT1, q_isiT2, q_isiT3, q_isiT4, q_isiT5, q_isiR0, q_isiR1, q_isiR2, q_isiR3, q_isiR4, q_isiR5, q_isiN0, q_isiN1, q_isiN2, q_isiN3, q_isiN4, q_isiN5, q_lenS, q_lenT, q_lenR, q_min2, q_max2, q_strS, q_tupP, ix_0, ix_1, ix_2, ix_3, List.length_map, q_rng1 (show (-1000 : Int) ≤ (ts.length : Int) - 1 by omega) (show (ts.length : Int) - 1 ≤ 1000000 by omega)]
    rw [w_lcI (by rw [upTo_len]; simp only [LIM]; omega)]
    have z : ((ts.length : Int) - 1).toNat = ts.length - 1 := by omega
    rw [z]
    refine lc_rng (fun j acc h' => h' = h ∧ acc = List.replicate j (.bl true)) ⟨rfl, rfl⟩ ?_ ?_
    · rintro j acc h' hj ⟨rfl, rfl⟩
      have a1 : j < ts.length := by omega
      have a2 : j + 1 < ts.length := by omega
      have i1 : ixM (.tup (ts.map .str)) (.int (j : Int)) h' = .ok (.str ts[j]) h' := by
        have := atI_nat (xs := ts.map D.str) (j := j) (v := .str ts[j]) (by simp [a1])
        simp only [ixM, this]
      have i2 : ixM (.tup (ts.map .str)) (.int ((j : Int) + 1)) h' = .ok (.str ts[j + 1]) h' := by
        have := atI_nat (xs := ts.map D.str) (j := j + 1) (v := .str ts[j + 1]) (by simp [a2])
        rw [show ((j : Int) + 1) = ((j + 1 : Nat) : Int) by omega]
        simp only [ixM, this]
      simp only [wipeE, w_raise, w_try, w_vMS, w_vML, w_fmt, w_js, w_fj0, w_fj1, w_disp2, w_get2, w_idxC, w_split, w_par, w_unpL, w_unpV, w_dnew, w_dnewN, w_subD, w_bind, w_noX, w_ok, w_C, w_op2, w_asB, w_op3, w_and, w_or, w_not, w_test, w_bAnd, w_bOr, w_bNot, w_if, w_lif, w_tup, w_lst, w_alloc, w_vL, w_call, w_aNil, w_aCons, w_lCall, w_append, w_nil, w_lnil, w_seq, w_next, w_ret, w_set, w_expr, w_sif, w_sub, w_unp, w_fn1, w_fn2, w_fn3, w_fn4, w_fn5, w_join, w_vSrc, w_aSrc, w_lSrc, w_catLL, w_catOL, w_repL, w_sortV, w_asI, w_slE0, w_slE1, w_sl, q_srcT, q_srcS, q_srcR, q_zipT, q_slT, w_lc, w_forS, Int.toNat_natCast, v_0, v_S, List.replicate_succ, List.replicate_zero, Nat.reduceSub, List.getElem?_cons_zero, List.getElem?_cons_succ, List.set_cons_zero, List.set_cons_succ, if_true, if_false, Bool.false_eq_true, Bool.not_true, Bool.not_false, q_add, q_addT, q_addS, q_sub, q_eq, q_eqS, q_eqB, q_ne, q_neS, q_neB, q_lt, q_ltS, q_le, q_gt, q_ge, q_in1, q_nin1, q_isN, q_isnN, q_isB, q_isnB, q_isiI0, q_isiI1, q_isiI2, q_isiI3, q_isiI4, q_isiI5, q_isiB0, q_isiB1, q_isiB2, q_isiB3, q_isiB4, q_isiB5, q_isiS0, q_isiS1, q_isiS2, q_isiS3, q_isiS4, q_isiS5, q_isiT0, q_isiT1, q_isiT2, q_isiT3, q_isiT4, q_isiT5, q_isiR0, q_isiR1, q_isiR2, q_isiR3, q_isiR4, q_isiR5, q_isiN0, q_isiN1, q_isiN2, q_isiN3, q_isiN4, q_isiN5, q_lenS, q_lenT, q_lenR, q_min2, q_max2, q_strS, q_tupP, ix_0, ix_1, ix_2, ix_3, i1, i2]
      have lt : ts[j] < ts[j + 1] := (List.pairwise_iff_getElem.mp f4) j (j + 1) a1 a2 (by omega)
      refine ⟨trivial, ?_⟩
      rw [decide_eq_true lt, ← List.replicate_succ, List.replicate_succ']
    · rintro acc h' ⟨rfl, rfl⟩
      have : (List.replicate (ts.length - 1) (D.bl true)) = (List.replicate (ts.length - 1) ()).map fun _ => .bl ((fun _ => true) ()) := by simp
      rw [this, all_map, w_ok]
      simp)
theorem s_fieldP {f : FF} (fo : f.Ok) : run (k + 4) I_is_field [f.d] h = .ok (.bl true) h := Ok.eq (by
  rw [e_is_field]
  unfold m_is_field
  cases f with
  | one s =>
    have z := s_simpleP (k := k) (h := h) fo
    cases s <;> simp only [SF.d, FF.d] at z ⊢ <;> simp only [FF.d, SF.d, w_raise, w_try, w_vMS, w_vML, w_fmt, w_js, w_fj0, w_fj1, w_disp2, w_get2, w_idxC, w_split, w_par, w_unpL, w_unpV, w_dnew, w_dnewN, w_subD, w_bind, w_noX, w_ok, w_C, w_op2, w_asB, w_op3, w_and, w_or, w_not, w_test, w_bAnd, w_bOr, w_bNot, w_if, w_lif, w_tup, w_lst, w_alloc, w_vL, w_call, w_aNil, w_aCons, w_lCall, w_append, w_nil, w_lnil, w_seq, w_next, w_ret, w_set, w_expr, w_sif, w_sub, w_unp, w_fn1, w_fn2, w_fn3, w_fn4, w_fn5, w_join, w_vSrc, w_aSrc, w_lSrc, w_catLL, w_catOL, w_repL, w_sortV, w_asI, w_slE0, w_slE1, w_sl, q_srcT, q_srcS, q_srcR, q_zipT, q_slT, w_lc, w_forS, Int.toNat_natCast, v_0, v_S, List.replicate_succ, List.replicate_zero, Nat.reduceSub, List.getElem?_cons_zero, List.getElem?_cons_succ, List.set_cons_zero, List.set_cons_succ, if_true, if_false, Bool.false_eq_true, Bool.not_true, Bool.not_false, q_add, q_addT, q_addS, q_sub, q_eq, q_eqS, q_eqB, q_ne, q_neS, q_neB, q_lt, q_ltS, q_le, q_gt, q_ge, q_in1, q_nin1, q_isN, q_isnN, q_isB, q_isnB, q_isiI0, q_isiI1, q_isiI2, q_isiI3, q_isiI4, q_isiI5, q_isiB0, q_isiB1, q_isiB2, q_isiB3, q_isiB4, q_isiB5, q_isiS0, q_isiS1, q_isiS2, q_isiS3, q_isiS4, q_isiS5, q_isiT0, q_isiT1, q_isiT2, q_isiT3, q_isiT4, q_isiT5, q_isiR0, q_isiR1, q_isiR2, q_isiR3, q_isiR4, q_isiR5, q_isiN0, q_isiN1, q_isiN2, q_isiN3, q_isiN4, q_isiN5, q_lenS, q_lenT, q_lenR, q_min2, q_max2, q_strS, q_tupP, ix_0, ix_1, ix_2, ix_3, List.length_cons, List.length_nil, lim_0, lim_1, lim_2, lim_3, lim_4, lim_5, lim_6, lim_7, lim_8, lim_9, lim_10, lim_11, lim_12, lim_13, lim_14, lim_15, lim_16, lim_17, lim_18, lim_19, lim_20, lim_21, lim_22, lim_23, Nat.reduceAdd, Nat.reduceLeDiff, Int.cast_ofNat_Int, decide_true, decide_false, List.cons.injEq, reduceCtorEq, and_false, false_and, and_true, true_and, Nat.reduceEqDiff, Int.reduceLE, Int.reduceEq, Int.reduceLT, z, and_self]
  | rep s lo hi =>
    obtain ⟨f0, f1, f2, f3⟩ := fo
    simp only [FF.d, w_raise, w_try, w_vMS, w_vML, w_fmt, w_js, w_fj0, w_fj1, w_disp2, w_get2, w_idxC, w_split, w_par, w_unpL, w_unpV, w_dnew, w_dnewN, w_subD, w_bind, w_noX, w_ok, w_C, w_op2, w_asB, w_op3, w_and, w_or, w_not, w_test, w_bAnd, w_bOr, w_bNot, w_if, w_lif, w_tup, w_lst, w_alloc, w_vL, w_call, w_aNil, w_aCons, w_lCall, w_append, w_nil, w_lnil, w_seq, w_next, w_ret, w_set, w_expr, w_sif, w_sub, w_unp, w_fn1, w_fn2, w_fn3, w_fn4, w_fn5, w_join, w_vSrc, w_aSrc, w_lSrc, w_catLL, w_catOL, w_repL, w_sortV, w_asI, w_slE0, w_slE1, w_sl, q_srcT, q_srcS, q_srcR, q_zipT, q_slT, w_lc, w_forS, Int.toNat_natCast, v_0, v_S, List.replicate_succ, List.replicate_zero, Nat.reduceSub, List.getElem?_cons_zero, List.getElem?_cons_succ, List.set_cons_zero, List.set_cons_succ, if_true, if_false, Bool.false_eq_true, Bool.not_true, Bool.not_false, q_add, q_addT, q_addS, q_sub, q_eq, q_eqS, q_eqB, q_ne, q_neS, q_neB, q_lt, q_ltS, q_le, q_gt, q_ge, q_in1, q_nin1, q_isN, q_isnN, q_isB, q_isnB, q_isiI0, q_isiI1, q_isiI2, q_isiI3, q_isiI4, q_isiI5, q_isiB0, q_isiB1, q_isiB2, q_isiB3, q_isiB4, q_isiB5, q_isiS0, q_isiS1, q_isiS2, q_isiS3, q_isiS4, q_isiS5, q_isiT0, q_isiT1, q_isiT2, q_isiT3, q_isiT4, q_isiT5, q_isiR0, q_isiR1, q_isiR2, q_isiR3, q_isiR4, q_isiR5, q_isiN0, q_isiN1, q_isiN2, q_isiN3, q_isiN4, q_isiN5, q_lenS, q_lenT, q_lenR, q_min2, q_max2, q_strS, q_tupP, ix_0, ix_1, ix_2, ix_3, List.length_cons, List.length_nil, lim_0, lim_1, lim_2, lim_3, lim_4, lim_5, lim_6, lim_7, lim_8, lim_9, lim_10, lim_11, lim_12, lim_13, lim_14, lim_15, lim_16, lim_17, lim_18, lim_19, lim_20, lim_21, lim_22, lim_23, Nat.reduceAdd, Nat.reduceLeDiff, Int.cast_ofNat_Int, decide_true, decide_false, List.cons.injEq, reduceCtorEq, and_false, false_and, and_true, true_and, Nat.reduceEqDiff, Int.reduceLE, Int.reduceEq, Int.reduceLT, s_simpleP f0]
    simp only [w_raise, w_try, w_vMS, w_vML, w_fmt, w_js, w_fj0, w_fj1, w_disp2, w_get2, w_idxC, w_split, w_par, w_unpL, w_unpV, w_dnew, w_dnewN, w_subD, w_bind, w_noX, w_ok, w_C, w_op2, w_asB, w_op3, w_and, w_or, w_not, w_test, w_bAnd, w_bOr, w_bNot, w_if, w_lif, w_tup, w_lst, w_alloc, w_vL, w_call, w_aNil, w_aCons, w_lCall, w_append, w_nil, w_lnil, w_seq, w_next, w_ret, w_set, w_expr, w_sif, w_sub, w_unp, w_fn1, w_fn2, w_fn3, w_fn4, w_fn5, w_join, w_vSrc, w_aSrc, w_lSrc, w_catLL, w_catOL, w_repL, w_sortV, w_asI, w_slE0, w_slE1, w_sl, q_srcT, q_srcS, q_srcR, q_zipT, q_slT, w_lc, w_forS, Int.toNat_natCast, v_0, v_S, List.replicate_succ, List.replicate_zero, Nat.reduceSub, List.getElem?_cons_zero, List.getElem?_cons_succ, List.set_cons_zero, List.set_cons_succ, if_true, if_false, Bool.false_eq_true, Bool.not_true, Bool.not_false, q_add, q_addT, q_addS, q_sub, q_eq, q_eqS, q_eqB, q_ne, q_neS, q_neB, q_lt, q_ltS, q_le, q_gt, q_ge, q_in1, q_nin1, q_isN, q_isnN, q_isB, q_isnB, q_isiI0, q_isiI1, q_isiI2, q_isiI3, q_isiI4, q_isiI5, q_isiB0, q_isiB1, q_isiB2, q_isiB3, q_isiB4, q_isiB5, q_isiS0, q_isiS1, q_isiS2, q_isiS3, q_isiS4, q_isiS5, q_isiT0, q_isiT1, q_isiT2, q_isiT3, q_isiT4, q_isiT5, q_isiR0, q_isiR1, q_isiR2, q_isiR3, q_isiR4, q_isiR5, q_isiN0, q_isiN1, q_isiN2, q_isiN3, q_isiN4, q_isiN5, q_lenS, q_lenT, q_lenR, q_min2, q_max2, q_strS, q_tupP, ix_0, ix_1, ix_2, ix_3, s_span f1 (show (1 : Int) ≤ (hi : Int) by omega) (show (hi : Int) ≤ 3 by omega), and_self])
theorem s_format {fs : List FF} (fo : ∀ f ∈ fs, f.Ok) (h1 : 1 ≤ fs.length) (h2 : fs.length ≤ 6) : run (k + 5) I_is_format [.tup (fs.map FF.d)] h = .ok (.bl true) h := Ok.eq (by
  rw [e_is_format]
  unfold m_is_format
  have c1 : (1 : Int) ≤ (fs.length : Int) := by omega
  have c2 : (fs.length : Int) ≤ 6 := by omega
  simp only [w_raise, w_try, w_vMS, w_vML, w_fmt, w_js, w_fj0, w_fj1, w_disp2, w_get2, w_idxC, w_split, w_par, w_unpL, w_unpV, w_dnew, w_dnewN, w_subD, w_bind, w_noX, w_ok, w_C, w_op2, w_asB, w_op3, w_and, w_or, w_not, w_test, w_bAnd, w_bOr, w_bNot, w_if, w_lif, w_tup, w_lst, w_alloc, w_vL, w_call, w_aNil, w_aCons, w_lCall, w_append, w_nil, w_lnil, w_seq, w_next, w_ret, w_set, w_expr, w_sif, w_sub, w_unp, w_fn1, w_fn2, w_fn3, w_fn4, w_fn5, w_join, w_vSrc, w_aSrc, w_lSrc, w_catLL, w_catOL, w_repL, w_sortV, w_asI, w_slE0, w_slE1, w_sl, q_srcT, q_srcS, q_srcR, q_zipT, q_slT, w_lc, w_forS, Int.toNat_natCast, v_0, v_S, List.replicate_succ, List.replicate_zero, Nat.reduceSub, List.getElem?_cons_zero, List.getElem?_cons_succ, List.set_cons_zero, List.set_cons_succ, if_true, if_false, Bool.false_eq_true, Bool.not_true, Bool.not_false, q_add, q_addT, q_addS, q_sub, q_eq, q_eqS, q_eqB, q_ne, q_neS, q_neB, q_lt, q_ltS, q_le, q_gt, q_ge, q_in1, q_nin1, q_isN, q_isnN, q_isB, q_isnB, q_isiI0, q_isiI1, q_isiI2, q_isiI3, q_isiI4, q_isiI5, q_isiB0, q_isiB1, q_isiB2, q_isiB3, q_isiB4, q_isiB5, q_isiS0, q_isiS1, q_isiS2, q_isiS3, q_isiS4, q_isiS5, q_isiT0, q_isiT1, q_isiT2, q_isiT3, q_isiT4, q_isiT5, q_isiR0, q_isiR1, q_isiR2, q_isiR3, q_isiR4, q_isiR5, q_isiN0, q_isiN1, q_isiN2, q_isiN3, q_isiN4, q_isiN5, q_lenS, q_lenT, q_lenR, q_min2, q_max2, q_strS, q_tupP, ix_0, ix_1, ix_2, ix_3, List.length_map, c1, c2, decide_true]
  rw [w_lcI (by simp only [List.length_map, LIM]; omega)]
  simp only [wipeE, w_raise, w_try, w_vMS, w_vML, w_fmt, w_js, w_fj0, w_fj1, w_disp2, w_get2, w_idxC, w_split, w_par, w_unpL, w_unpV, w_dnew, w_dnewN, w_subD, w_bind, w_noX, w_ok, w_C, w_op2, w_asB, w_op3, w_and, w_or, w_not, w_test, w_bAnd, w_bOr, w_bNot, w_if, w_lif, w_tup, w_lst, w_alloc, w_vL, w_call, w_aNil, w_aCons, w_lCall, w_append, w_nil, w_lnil, w_seq, w_next, w_ret, w_set, w_expr, w_sif, w_sub, w_unp, w_fn1, w_fn2, w_fn3, w_fn4, w_fn5, w_join, w_vSrc, w_aSrc, w_lSrc, w_catLL, w_catOL, w_repL, w_sortV, w_asI, w_slE0, w_slE1, w_sl, q_srcT, q_srcS, q_srcR, q_zipT, q_slT, w_lc, w_forS, Int.toNat_natCast, v_0, v_S, List.replicate_succ, List.replicate_zero, Nat.reduceSub, List.getElem?_cons_zero, List.getElem?_cons_succ, List.set_cons_zero, List.set_cons_succ, if_true, if_false, Bool.false_eq_true, Bool.not_true, Bool.not_false, q_add, q_addT, q_addS, q_sub, q_eq, q_eqS, q_eqB, q_ne, q_neS, q_neB, q_lt, q_ltS, q_le, q_gt, q_ge, q_in1, q_nin1, q_isN, q_isnN, q_isB, q_isnB, q_isiI0, q_isiI1, q_isiI2, q_isiI3, q_isiI4, q_isiI5, q_isiB0, q_isiB1, q_isiB2, q_isiB3, q_isiB4, q_isiB5, q_isiS0, q_isiS1, q_isiS2, q_isiS3, q_isiS4, q_isiS5, q_isiT0, q_isiT1, q_isiT2, q_isiT3, q_isiT4, q_isiT5, q_isiR0, q_isiR1, q_isiR2, q_isiR3, q_isiR4, q_isiR5, q_isiN0, q_isiN1, q_isiN2, q_isiN3, q_isiN4, q_isiN5, q_lenS, q_lenT, q_lenR, q_min2, q_max2, q_strS, q_tupP, ix_0, ix_1, ix_2, ix_3]
  rw [lcL_map (fun s => .bl ((fun _ => true) s)) fun f hf => Ok.eq (by simp only [w_raise, w_try, w_vMS, w_vML, w_fmt, w_js, w_fj0, w_fj1, w_disp2, w_get2, w_idxC, w_split, w_par, w_unpL, w_unpV, w_dnew, w_dnewN, w_subD, w_bind, w_noX, w_ok, w_C, w_op2, w_asB, w_op3, w_and, w_or, w_not, w_test, w_bAnd, w_bOr, w_bNot, w_if, w_lif, w_tup, w_lst, w_alloc, w_vL, w_call, w_aNil, w_aCons, w_lCall, w_append, w_nil, w_lnil, w_seq, w_next, w_ret, w_set, w_expr, w_sif, w_sub, w_unp, w_fn1, w_fn2, w_fn3, w_fn4, w_fn5, w_join, w_vSrc, w_aSrc, w_lSrc, w_catLL, w_catOL, w_repL, w_sortV, w_asI, w_slE0, w_slE1, w_sl, q_srcT, q_srcS, q_srcR, q_zipT, q_slT, w_lc, w_forS, Int.toNat_natCast, v_0, v_S, List.replicate_succ, List.replicate_zero, Nat.reduceSub, List.getElem?_cons_zero, List.getElem?_cons_succ, List.set_cons_zero, List.set_cons_succ, if_true, if_false, Bool.false_eq_true, Bool.not_true, Bool.not_false, q_add, q_addT, q_addS, q_sub, q_eq, q_eqS, q_eqB, q_ne, q_neS, q_neB, q_lt, q_ltS, q_le, q_gt, q_ge, q_in1, q_nin1, q_isN, q_isnN, q_isB, q_isnB, q_isiI0, q_isiI1, q_isiI2, q_isiI3, q_isiI4, q_isiI5, q_isiB0, q_isiB1, q_isiB2, q_isiB3, q_isiB4, q_isiB5, q_isiS0, q_isiS1, q_isiS2, q_isiS3, q_isiS4, q_isiS5, q_isiT0, q_isiT1, q_isiT2, q_isiT3, q_isiT4, q_isiT5, q_isiR0, q_isiR1, q_isiR2, q_isiR3, q_isiR4, q_isiR5, q_isiN0, q_isiN1, q_isiN2, q_isiN3, q_isiN4, q_isiN5, q_lenS, q_lenT, q_lenR, q_min2, q_max2, q_strS, q_tupP, ix_0, ix_1, ix_2, ix_3, s_fieldP (fo f hf), and_self]), w_ok, all_map, w_ok]
  simp)
def FormOk (fs : List FF) : Prop := (∀ f ∈ fs, f.Ok) ∧ 1 ≤ fs.length ∧ fs.length ≤ 6
theorem s_check {fs : List FF} (fo : FormOk fs) : run (k + 6) I_check_format [.tup (fs.map FF.d)] h = .ok .non h := Ok.eq (by
  rw [e_check_format]
  unfold m_check_format
  simp only [w_raise, w_try, w_vMS, w_vML, w_fmt, w_js, w_fj0, w_fj1, w_disp2, w_get2, w_idxC, w_split, w_par, w_unpL, w_unpV, w_dnew, w_dnewN, w_subD, w_bind, w_noX, w_ok, w_C, w_op2, w_asB, w_op3, w_and, w_or, w_not, w_test, w_bAnd, w_bOr, w_bNot, w_if, w_lif, w_tup, w_lst, w_alloc, w_vL, w_call, w_aNil, w_aCons, w_lCall, w_append, w_nil, w_lnil, w_seq, w_next, w_ret, w_set, w_expr, w_sif, w_sub, w_unp, w_fn1, w_fn2, w_fn3, w_fn4, w_fn5, w_join, w_vSrc, w_aSrc, w_lSrc, w_catLL, w_catOL, w_repL, w_sortV, w_asI, w_slE0, w_slE1, w_sl, q_srcT, q_srcS, q_srcR, q_zipT, q_slT, w_lc, w_forS, Int.toNat_natCast, v_0, v_S, List.replicate_succ, List.replicate_zero, Nat.reduceSub, List.getElem?_cons_zero, List.getElem?_cons_succ, List.set_cons_zero, List.set_cons_succ, if_true, if_false, Bool.false_eq_true, Bool.not_true, Bool.not_false, q_add, q_addT, q_addS, q_sub, q_eq, q_eqS, q_eqB, q_ne, q_neS, q_neB, q_lt, q_ltS, q_le, q_gt, q_ge, q_in1, q_nin1, q_isN, q_isnN, q_isB, q_isnB, q_isiI0, q_isiI1, q_isiI2, q_isiI3, q_isiI4, q_isiI5, q_isiB0, q_isiB1, q_isiB2, q_isiB3, q_isiB4, q_isiB5, q_isiS0, q_isiS1, q_isiS2, q_isiS3, q_isiS4, q_isiS5, q_isiT0, q_isiT1, q_isiT2, q_isiT3, q_isiT4, q_isiT5, q_isiR0, q_isiR1, q_isiR2, q_isiR3, q_isiR4, q_isiR5, q_isiN0, q_isiN1, q_isiN2, q_isiN3, q_isiN4, q_isiN5, q_lenS, q_lenT, q_lenR, q_min2, q_max2, q_strS, q_tupP, ix_0, ix_1, ix_2, ix_3, s_format fo.1 fo.2.1 fo.2.2, and_self])
end
end FT
end
section
set_option maxRecDepth 100000
namespace FT
open PySem L2
set_option autoImplicit false
/-! ### the program's tests of any value -/
def Dp' (h : MH) : Nat → D → Prop
  | 0, d => Bas h d
  | n + 1, d => Bas h d ∧ ∀ ds, d = .tup ds → ∀ x ∈ ds, Dp' h n x
theorem Dp'.bas {h : MH} : ∀ {n : Nat} {d : D}, Dp' h n d → Bas h d
  | 0, _, a => a
  | n + 1, _, a => a.1
theorem Dp'.it {h : MH} {n : Nat} {ds : List D} (a : Dp' h (n + 1) (.tup ds)) : ∀ x ∈ ds, Dp' h n x := a.2 ds rfl
def textB (d : D) (lo hi : Nat) : Bool := match d with
  | .str s => decide (lo ≤ s.length) && (decide (s.length ≤ hi) && only' s cSigns)
  | _ => false
def leB : D → D → Bool
  | .int i, .int j => decide (i ≤ j)
  | _, _ => false
def spanB (x y : D) (least most : Int) : Bool := betw x 0 most && (betw y least most && leB x y)
def ascB : List D → Bool
  | .str s :: .str t :: r => decide (s < t) && ascB (.str t :: r)
  | _ => true
def choiceB : D → Bool
  | .tup ts => decide (1 ≤ ts.length) && (decide (ts.length ≤ 4) && (ts.all (fun t => textB t 1 4) && ascB ts))
  | _ => false
def simpleB : D → Bool
  | .tup [.str s, x] => if s = kWord then textB x 1 4 else if s = kNumber then betw x 1 4 else decide (s = kChoice) && choiceB x
  | .tup [.str s, x, y] => decide (s = kDigits ∨ s = kLetters) && spanB x y 0 4
  | _ => false
def fieldB : D → Bool
  | .tup [.str s, x, y, z] => decide (s = kRepeat) && (simpleB x && spanB y z 1 3)
  | d => simpleB d
def formatB : D → Bool
  | .tup ds => decide (1 ≤ ds.length) && (decide (ds.length ≤ 6) && ds.all fieldB)
  | _ => false
section
variable {k : Nat} {h : MH} {d : D}
theorem s_textG {lo hi : Nat} (hb : Bas h d) : run (k + 1) I_is_text [d, .int lo, .int hi] h = .ok (.bl (textB d lo hi)) h := Ok.eq (by
  rw [e_is_text]
  unfold m_is_text
  simp only [w_raise, w_try, w_vMS, w_vML, w_fmt, w_js, w_fj0, w_fj1, w_disp2, w_get2, w_idxC, w_split, w_par, w_unpL, w_unpV, w_dnew, w_dnewN, w_subD, w_bind, w_noX, w_ok, w_C, w_op2, w_asB, w_op3, w_and, w_or, w_not, w_test, w_bAnd, w_bOr, w_bNot, w_if, w_lif, w_tup, w_lst, w_alloc, w_vL, w_call, w_aNil, w_aCons, w_lCall, w_append, w_nil, w_lnil, w_seq, w_next, w_ret, w_set, w_expr, w_sif, w_sub, w_unp, w_fn1, w_fn2, w_fn3, w_fn4, w_fn5, w_join, w_vSrc, w_aSrc, w_lSrc, w_catLL, w_catOL, w_repL, w_sortV, w_asI, w_slE0, w_slE1, w_sl, q_srcT, q_srcS, q_srcR, q_zipT, q_slT, w_lc, w_forS, Int.toNat_natCast, v_0, v_S, List.replicate_succ, List.replicate_zero, Nat.reduceSub, List.getElem?_cons_zero, List.getElem?_cons_succ, List.set_cons_zero, List.set_cons_succ, if_true, if_false, Bool.false_eq_true, Bool.not_true, Bool.not_false, q_add, q_addT, q_addS, q_sub, q_eq, q_eqS, q_eqB, q_ne, q_neS, q_neB, q_lt, q_ltS, q_le, q_gt, q_ge, q_in1, q_nin1, q_isN, q_isnN, q_isB, q_isnB, q_isiI0, q_isiI1, q_isiI2, q_isiI3, q_isiI4, q_isiI5, q_isiB0, q_isiB1, q_isiB2, q_isiB3, q_isiB4, q_isiB5, q_isiS0, q_isiS1, q_isiS2, q_isiS3, q_isiS4, q_isiS5, q_isiT0, q_isiT1, q_isiT2, q_isiT3, q_isiT4, q_isiT5, q_isiR0, q_isiR1, q_isiR2, q_isiR3, q_isiR4, q_isiR5, q_isiN0, q_isiN1, q_isiN2, q_isiN3, q_isiN4, q_isiN5, q_lenS, q_lenT, q_lenR, q_min2, q_max2, q_strS, q_tupP, ix_0, ix_1, ix_2, ix_3, isi_str hb]
  cases d <;> simp only [isStr, w_raise, w_try, w_vMS, w_vML, w_fmt, w_js, w_fj0, w_fj1, w_disp2, w_get2, w_idxC, w_split, w_par, w_unpL, w_unpV, w_dnew, w_dnewN, w_subD, w_bind, w_noX, w_ok, w_C, w_op2, w_asB, w_op3, w_and, w_or, w_not, w_test, w_bAnd, w_bOr, w_bNot, w_if, w_lif, w_tup, w_lst, w_alloc, w_vL, w_call, w_aNil, w_aCons, w_lCall, w_append, w_nil, w_lnil, w_seq, w_next, w_ret, w_set, w_expr, w_sif, w_sub, w_unp, w_fn1, w_fn2, w_fn3, w_fn4, w_fn5, w_join, w_vSrc, w_aSrc, w_lSrc, w_catLL, w_catOL, w_repL, w_sortV, w_asI, w_slE0, w_slE1, w_sl, q_srcT, q_srcS, q_srcR, q_zipT, q_slT, w_lc, w_forS, Int.toNat_natCast, v_0, v_S, List.replicate_succ, List.replicate_zero, Nat.reduceSub, List.getElem?_cons_zero, List.getElem?_cons_succ, List.set_cons_zero, List.set_cons_succ, if_true, if_false, Bool.false_eq_true, Bool.not_true, Bool.not_false, q_add, q_addT, q_addS, q_sub, q_eq, q_eqS, q_eqB, q_ne, q_neS, q_neB, q_lt, q_ltS, q_le, q_gt, q_ge, q_in1, q_nin1, q_isN, q_isnN, q_isB, q_isnB, q_isiI0, q_isiI1, q_isiI2, q_isiI3, q_isiI4, q_isiI5, q_isiB0, q_isiB1, q_isiB2, q_isiB3, q_isiB4, q_isiB5, q_isiS0, q_isiS1, q_isiS2, q_isiS3, q_isiS4, q_isiS5, q_isiT0, q_isiT1, q_isiT2, q_isiT3, q_isiT4, q_isiT5, q_isiR0, q_isiR1, q_isiR2, q_isiR3, q_isiR4, q_isiR5, q_isiN0, q_isiN1, q_isiN2, q_isiN3, q_isiN4, q_isiN5, q_lenS, q_lenT, q_lenR, q_min2, q_max2, q_strS, q_tupP, ix_0, ix_1, ix_2, ix_3, textB, and_self]
  rename_i s
  obtain ⟨_, hs, _⟩ := hb
  obtain ⟨hl, hc⟩ := hs s rfl
  have l : s.length ≤ LIM := by simp only [LIM]; omega
  simp only [w_raise, w_try, w_vMS, w_vML, w_fmt, w_js, w_fj0, w_fj1, w_disp2, w_get2, w_idxC, w_split, w_par, w_unpL, w_unpV, w_dnew, w_dnewN, w_subD, w_bind, w_noX, w_ok, w_C, w_op2, w_asB, w_op3, w_and, w_or, w_not, w_test, w_bAnd, w_bOr, w_bNot, w_if, w_lif, w_tup, w_lst, w_alloc, w_vL, w_call, w_aNil, w_aCons, w_lCall, w_append, w_nil, w_lnil, w_seq, w_next, w_ret, w_set, w_expr, w_sif, w_sub, w_unp, w_fn1, w_fn2, w_fn3, w_fn4, w_fn5, w_join, w_vSrc, w_aSrc, w_lSrc, w_catLL, w_catOL, w_repL, w_sortV, w_asI, w_slE0, w_slE1, w_sl, q_srcT, q_srcS, q_srcR, q_zipT, q_slT, w_lc, w_forS, Int.toNat_natCast, v_0, v_S, List.replicate_succ, List.replicate_zero, Nat.reduceSub, List.getElem?_cons_zero, List.getElem?_cons_succ, List.set_cons_zero, List.set_cons_succ, if_true, if_false, Bool.false_eq_true, Bool.not_true, Bool.not_false, q_add, q_addT, q_addS, q_sub, q_eq, q_eqS, q_eqB, q_ne, q_neS, q_neB, q_lt, q_ltS, q_le, q_gt, q_ge, q_in1, q_nin1, q_isN, q_isnN, q_isB, q_isnB, q_isiI0, q_isiI1, q_isiI2, q_isiI3, q_isiI4, q_isiI5, q_isiB0, q_isiB1, q_isiB2, q_isiB3, q_isiB4, q_isiB5, q_isiS0, q_isiS1, q_isiS2, q_isiS3, q_isiS4, q_isiS5, q_isiT0, q_isiT1, q_isiT2, q_isiT3, q_isiT4, q_isiT5, q_isiR0, q_isiR1, q_isiR2, q_isiR3, q_isiR4, q_isiR5, q_isiN0, q_isiN1, q_isiN2, q_isiN3, q_isiN4, q_isiN5, q_lenS, q_lenT, q_lenR, q_min2, q_max2, q_strS, q_tupP, ix_0, ix_1, ix_2, ix_3, q_lenS l]
  by_cases c1 : lo ≤ s.length
  · by_cases c2 : s.length ≤ hi
    · have d1 : (lo : Int) ≤ (s.length : Int) := by omega
      have d2 : (s.length : Int) ≤ (hi : Int) := by omega
      simp only [d1, d2, c1, c2, decide_true, w_raise, w_try, w_vMS, w_vML, w_fmt, w_js, w_fj0, w_fj1, w_disp2, w_get2, w_idxC, w_split, w_par, w_unpL, w_unpV, w_dnew, w_dnewN, w_subD, w_bind, w_noX, w_ok, w_C, w_op2, w_asB, w_op3, w_and, w_or, w_not, w_test, w_bAnd, w_bOr, w_bNot, w_if, w_lif, w_tup, w_lst, w_alloc, w_vL, w_call, w_aNil, w_aCons, w_lCall, w_append, w_nil, w_lnil, w_seq, w_next, w_ret, w_set, w_expr, w_sif, w_sub, w_unp, w_fn1, w_fn2, w_fn3, w_fn4, w_fn5, w_join, w_vSrc, w_aSrc, w_lSrc, w_catLL, w_catOL, w_repL, w_sortV, w_asI, w_slE0, w_slE1, w_sl, q_srcT, q_srcS, q_srcR, q_zipT, q_slT, w_lc, w_forS, Int.toNat_natCast, v_0, v_S, List.replicate_succ, List.replicate_zero, Nat.reduceSub, List.getElem?_cons_zero, List.getElem?_cons_succ, List.set_cons_zero, List.set_cons_succ, if_true, if_false, Bool.false_eq_true, Bool.not_true, Bool.not_false, q_add, q_addT, q_addS, q_sub, q_eq, q_eqS, q_eqB, q_ne, q_neS, q_neB, q_lt, q_ltS, q_le, q_gt, q_ge, q_in1, q_nin1, q_isN, q_isnN, q_isB, q_isnB, q_isiI0, q_isiI1, q_isiI2, q_isiI3, q_isiI4, q_isiI5, q_isiB0, q_isiB1, q_isiB2, q_isiB3, q_isiB4, q_isiB5, q_isiS0, q_isiS1, q_isiS2, q_isiS3, q_isiS4, q_isiS5, q_isiT0, q_isiT1, q_isiT2, q_isiT3, q_isiT4, q_isiT5, q_isiR0, q_isiR1, q_isiR2, q_isiR3, q_isiR4, q_isiR5, q_isiN0, q_isiN1, q_isiN2, q_isiN3, q_isiN4, q_isiN5, q_lenS, q_lenT, q_lenR, q_min2, q_max2, q_strS, q_tupP, ix_0, ix_1, ix_2, ix_3]
      rw [w_lcI (by simp only [List.length_map, LIM]; omega)]
      simp only [wipeE, w_raise, w_try, w_vMS, w_vML, w_fmt, w_js, w_fj0, w_fj1, w_disp2, w_get2, w_idxC, w_split, w_par, w_unpL, w_unpV, w_dnew, w_dnewN, w_subD, w_bind, w_noX, w_ok, w_C, w_op2, w_asB, w_op3, w_and, w_or, w_not, w_test, w_bAnd, w_bOr, w_bNot, w_if, w_lif, w_tup, w_lst, w_alloc, w_vL, w_call, w_aNil, w_aCons, w_lCall, w_append, w_nil, w_lnil, w_seq, w_next, w_ret, w_set, w_expr, w_sif, w_sub, w_unp, w_fn1, w_fn2, w_fn3, w_fn4, w_fn5, w_join, w_vSrc, w_aSrc, w_lSrc, w_catLL, w_catOL, w_repL, w_sortV, w_asI, w_slE0, w_slE1, w_sl, q_srcT, q_srcS, q_srcR, q_zipT, q_slT, w_lc, w_forS, Int.toNat_natCast, v_0, v_S, List.replicate_succ, List.replicate_zero, Nat.reduceSub, List.getElem?_cons_zero, List.getElem?_cons_succ, List.set_cons_zero, List.set_cons_succ, if_true, if_false, Bool.false_eq_true, Bool.not_true, Bool.not_false, q_add, q_addT, q_addS, q_sub, q_eq, q_eqS, q_eqB, q_ne, q_neS, q_neB, q_lt, q_ltS, q_le, q_gt, q_ge, q_in1, q_nin1, q_isN, q_isnN, q_isB, q_isnB, q_isiI0, q_isiI1, q_isiI2, q_isiI3, q_isiI4, q_isiI5, q_isiB0, q_isiB1, q_isiB2, q_isiB3, q_isiB4, q_isiB5, q_isiS0, q_isiS1, q_isiS2, q_isiS3, q_isiS4, q_isiS5, q_isiT0, q_isiT1, q_isiT2, q_isiT3, q_isiT4, q_isiT5, q_isiR0, q_isiR1, q_isiR2, q_isiR3, q_isiR4, q_isiR5, q_isiN0, q_isiN1, q_isiN2, q_isiN3, q_isiN4, q_isiN5, q_lenS, q_lenT, q_lenR, q_min2, q_max2, q_strS, q_tupP, ix_0, ix_1, ix_2, ix_3]
      rw [lcL_map (fun c => .bl (decide (c ∈ cSigns))) fun c hc => Ok.eq (by simp only [w_raise, w_try, w_vMS, w_vML, w_fmt, w_js, w_fj0, w_fj1, w_disp2, w_get2, w_idxC, w_split, w_par, w_unpL, w_unpV, w_dnew, w_dnewN, w_subD, w_bind, w_noX, w_ok, w_C, w_op2, w_asB, w_op3, w_and, w_or, w_not, w_test, w_bAnd, w_bOr, w_bNot, w_if, w_lif, w_tup, w_lst, w_alloc, w_vL, w_call, w_aNil, w_aCons, w_lCall, w_append, w_nil, w_lnil, w_seq, w_next, w_ret, w_set, w_expr, w_sif, w_sub, w_unp, w_fn1, w_fn2, w_fn3, w_fn4, w_fn5, w_join, w_vSrc, w_aSrc, w_lSrc, w_catLL, w_catOL, w_repL, w_sortV, w_asI, w_slE0, w_slE1, w_sl, q_srcT, q_srcS, q_srcR, q_zipT, q_slT, w_lc, w_forS, Int.toNat_natCast, v_0, v_S, List.replicate_succ, List.replicate_zero, Nat.reduceSub, List.getElem?_cons_zero, List.getElem?_cons_succ, List.set_cons_zero, List.set_cons_succ, if_true, if_false, Bool.false_eq_true, Bool.not_true, Bool.not_false, q_add, q_addT, q_addS, q_sub, q_eq, q_eqS, q_eqB, q_ne, q_neS, q_neB, q_lt, q_ltS, q_le, q_gt, q_ge, q_in1, q_nin1, q_isN, q_isnN, q_isB, q_isnB, q_isiI0, q_isiI1, q_isiI2, q_isiI3, q_isiI4, q_isiI5, q_isiB0, q_isiB1, q_isiB2, q_isiB3, q_isiB4, q_isiB5, q_isiS0, q_isiS1, q_isiS2, q_isiS3, q_isiS4, q_isiS5, q_isiT0, q_isiT1, q_isiT2, q_isiT3, q_isiT4, q_isiT5, q_isiR0, q_isiR1, q_isiR2, q_isiR3, q_isiR4, q_isiR5, q_isiN0, q_isiN1, q_isiN2, q_isiN3, q_isiN4, q_isiN5, q_lenS, q_lenT, q_lenR, q_min2, q_max2, q_strS, q_tupP, ix_0, ix_1, ix_2, ix_3, and_self]), w_ok, all_map, w_ok]
      exact ⟨by simp [only'], rfl⟩
    · have d1 : (lo : Int) ≤ (s.length : Int) := by omega
      have d2 : ¬ (s.length : Int) ≤ (hi : Int) := by omega
      simp only [d1, d2, c1, c2, decide_true, decide_false, w_raise, w_try, w_vMS, w_vML, w_fmt, w_js, w_fj0, w_fj1, w_disp2, w_get2, w_idxC, w_split, w_par, w_unpL, w_unpV, w_dnew, w_dnewN, w_subD, w_bind, w_noX, w_ok, w_C, w_op2, w_asB, w_op3, w_and, w_or, w_not, w_test, w_bAnd, w_bOr, w_bNot, w_if, w_lif, w_tup, w_lst, w_alloc, w_vL, w_call, w_aNil, w_aCons, w_lCall, w_append, w_nil, w_lnil, w_seq, w_next, w_ret, w_set, w_expr, w_sif, w_sub, w_unp, w_fn1, w_fn2, w_fn3, w_fn4, w_fn5, w_join, w_vSrc, w_aSrc, w_lSrc, w_catLL, w_catOL, w_repL, w_sortV, w_asI, w_slE0, w_slE1, w_sl, q_srcT, q_srcS, q_srcR, q_zipT, q_slT, w_lc, w_forS, Int.toNat_natCast, v_0, v_S, List.replicate_succ, List.replicate_zero, Nat.reduceSub, List.getElem?_cons_zero, List.getElem?_cons_succ, List.set_cons_zero, List.set_cons_succ, if_true, if_false, Bool.false_eq_true, Bool.not_true, Bool.not_false, q_add, q_addT, q_addS, q_sub, q_eq, q_eqS, q_eqB, q_ne, q_neS, q_neB, q_lt, q_ltS, q_le, q_gt, q_ge, q_in1, q_nin1, q_isN, q_isnN, q_isB, q_isnB, q_isiI0, q_isiI1, q_isiI2, q_isiI3, q_isiI4, q_isiI5, q_isiB0, q_isiB1, q_isiB2, q_isiB3, q_isiB4, q_isiB5, q_isiS0, q_isiS1, q_isiS2, q_isiS3, q_isiS4, q_isiS5, q_isiT0, q_isiT1, q_isiT2, q_isiT3, q_isiT4, q_isiT5, q_isiR0, q_isiR1, q_isiR2, q_isiR3, q_isiR4, q_isiR5, q_isiN0, q_isiN1, q_isiN2, q_isiN3, q_isiN4, q_isiN5, q_lenS, q_lenT, q_lenR, q_min2, q_max2, q_strS, q_tupP, ix_0, ix_1, ix_2, ix_3, Bool.false_and, Bool.and_false, and_self]
  · have d1 : ¬ (lo : Int) ≤ (s.length : Int) := by omega
    simp only [d1, c1, decide_false, w_raise, w_try, w_vMS, w_vML, w_fmt, w_js, w_fj0, w_fj1, w_disp2, w_get2, w_idxC, w_split, w_par, w_unpL, w_unpV, w_dnew, w_dnewN, w_subD, w_bind, w_noX, w_ok, w_C, w_op2, w_asB, w_op3, w_and, w_or, w_not, w_test, w_bAnd, w_bOr, w_bNot, w_if, w_lif, w_tup, w_lst, w_alloc, w_vL, w_call, w_aNil, w_aCons, w_lCall, w_append, w_nil, w_lnil, w_seq, w_next, w_ret, w_set, w_expr, w_sif, w_sub, w_unp, w_fn1, w_fn2, w_fn3, w_fn4, w_fn5, w_join, w_vSrc, w_aSrc, w_lSrc, w_catLL, w_catOL, w_repL, w_sortV, w_asI, w_slE0, w_slE1, w_sl, q_srcT, q_srcS, q_srcR, q_zipT, q_slT, w_lc, w_forS, Int.toNat_natCast, v_0, v_S, List.replicate_succ, List.replicate_zero, Nat.reduceSub, List.getElem?_cons_zero, List.getElem?_cons_succ, List.set_cons_zero, List.set_cons_succ, if_true, if_false, Bool.false_eq_true, Bool.not_true, Bool.not_false, q_add, q_addT, q_addS, q_sub, q_eq, q_eqS, q_eqB, q_ne, q_neS, q_neB, q_lt, q_ltS, q_le, q_gt, q_ge, q_in1, q_nin1, q_isN, q_isnN, q_isB, q_isnB, q_isiI0, q_isiI1, q_isiI2, q_isiI3, q_isiI4, q_isiI5, q_isiB0, q_isiB1, q_isiB2, q_isiB3, q_isiB4, q_isiB5, q_isiS0, q_isiS1, q_isiS2, q_isiS3, q_isiS4, q_isiS5, q_isiT0, q_isiT1, q_isiT2, q_isiT3, q_isiT4, q_isiT5, q_isiR0, q_isiR1, q_isiR2, q_isiR3, q_isiR4, q_isiR5, q_isiN0, q_isiN1, q_isiN2, q_isiN3, q_isiN4, q_isiN5, q_lenS, q_lenT, q_lenR, q_min2, q_max2, q_strS, q_tupP, ix_0, ix_1, ix_2, ix_3, Bool.false_and, and_self])
theorem s_spanG {x y : D} {least most : Int} (hx : Bas h x) (hy : Bas h y) : run (k + 2) I_is_span [x, y, .int least, .int most] h = .ok (.bl (spanB x y least most)) h := Ok.eq (by
  rw [e_is_span]
  unfold m_is_span
  simp only [w_raise, w_try, w_vMS, w_vML, w_fmt, w_js, w_fj0, w_fj1, w_disp2, w_get2, w_idxC, w_split, w_par, w_unpL, w_unpV, w_dnew, w_dnewN, w_subD, w_bind, w_noX, w_ok, w_C, w_op2, w_asB, w_op3, w_and, w_or, w_not, w_test, w_bAnd, w_bOr, w_bNot, w_if, w_lif, w_tup, w_lst, w_alloc, w_vL, w_call, w_aNil, w_aCons, w_lCall, w_append, w_nil, w_lnil, w_seq, w_next, w_ret, w_set, w_expr, w_sif, w_sub, w_unp, w_fn1, w_fn2, w_fn3, w_fn4, w_fn5, w_join, w_vSrc, w_aSrc, w_lSrc, w_catLL, w_catOL, w_repL, w_sortV, w_asI, w_slE0, w_slE1, w_sl, q_srcT, q_srcS, q_srcR, q_zipT, q_slT, w_lc, w_forS, Int.toNat_natCast, v_0, v_S, List.replicate_succ, List.replicate_zero, Nat.reduceSub, List.getElem?_cons_zero, List.getElem?_cons_succ, List.set_cons_zero, List.set_cons_succ, if_true, if_false, Bool.false_eq_true, Bool.not_true, Bool.not_false, q_add, q_addT, q_addS, q_sub, q_eq, q_eqS, q_eqB, q_ne, q_neS, q_neB, q_lt, q_ltS, q_le, q_gt, q_ge, q_in1, q_nin1, q_isN, q_isnN, q_isB, q_isnB, q_isiI0, q_isiI1, q_isiI2, q_isiI3, q_isiI4, q_isiI5, q_isiB0, q_isiB1, q_isiB2, q_isiB3, q_isiB4, q_isiB5, q_isiS0, q_isiS1, q_isiS2, q_isiS3, q_isiS4, q_isiS5, q_isiT0, q_isiT1, q_isiT2, q_isiT3, q_isiT4, q_isiT5, q_isiR0, q_isiR1, q_isiR2, q_isiR3, q_isiR4, q_isiR5, q_isiN0, q_isiN1, q_isiN2, q_isiN3, q_isiN4, q_isiN5, q_lenS, q_lenT, q_lenR, q_min2, q_max2, q_strS, q_tupP, ix_0, ix_1, ix_2, ix_3, s_between hx]
  cases e1 : betw x 0 most with
  | false => simp only [w_raise, w_try, w_vMS, w_vML, w_fmt, w_js, w_fj0, w_fj1, w_disp2, w_get2, w_idxC, w_split, w_par, w_unpL, w_unpV, w_dnew, w_dnewN, w_subD, w_bind, w_noX, w_ok, w_C, w_op2, w_asB, w_op3, w_and, w_or, w_not, w_test, w_bAnd, w_bOr, w_bNot, w_if, w_lif, w_tup, w_lst, w_alloc, w_vL, w_call, w_aNil, w_aCons, w_lCall, w_append, w_nil, w_lnil, w_seq, w_next, w_ret, w_set, w_expr, w_sif, w_sub, w_unp, w_fn1, w_fn2, w_fn3, w_fn4, w_fn5, w_join, w_vSrc, w_aSrc, w_lSrc, w_catLL, w_catOL, w_repL, w_sortV, w_asI, w_slE0, w_slE1, w_sl, q_srcT, q_srcS, q_srcR, q_zipT, q_slT, w_lc, w_forS, Int.toNat_natCast, v_0, v_S, List.replicate_succ, List.replicate_zero, Nat.reduceSub, List.getElem?_cons_zero, List.getElem?_cons_succ, List.set_cons_zero, List.set_cons_succ, if_true, if_false, Bool.false_eq_true, Bool.not_true, Bool.not_false, q_add, q_addT, q_addS, q_sub, q_eq, q_eqS, q_eqB, q_ne, q_neS, q_neB, q_lt, q_ltS, q_le, q_gt, q_ge, q_in1, q_nin1, q_isN, q_isnN, q_isB, q_isnB, q_isiI0, q_isiI1, q_isiI2, q_isiI3, q_isiI4, q_isiI5, q_isiB0, q_isiB1, q_isiB2, q_isiB3, q_isiB4, q_isiB5, q_isiS0, q_isiS1, q_isiS2, q_isiS3, q_isiS4, q_isiS5, q_isiT0, q_isiT1, q_isiT2, q_isiT3, q_isiT4, q_isiT5, q_isiR0, q_isiR1, q_isiR2, q_isiR3, q_isiR4, q_isiR5, q_isiN0, q_isiN1, q_isiN2, q_isiN3, q_isiN4, q_isiN5, q_lenS, q_lenT, q_lenR, q_min2, q_max2, q_strS, q_tupP, ix_0, ix_1, ix_2, ix_3, spanB, e1, Bool.false_and, and_self]
  | true =>
    simp only [w_raise, w_try, w_vMS, w_vML, w_fmt, w_js, w_fj0, w_fj1, w_disp2, w_get2, w_idxC, w_split, w_par, w_unpL, w_unpV, w_dnew, w_dnewN, w_subD, w_bind, w_noX, w_ok, w_C, w_op2, w_asB, w_op3, w_and, w_or, w_not, w_test, w_bAnd, w_bOr, w_bNot, w_if, w_lif, w_tup, w_lst, w_alloc, w_vL, w_call, w_aNil, w_aCons, w_lCall, w_append, w_nil, w_lnil, w_seq, w_next, w_ret, w_set, w_expr, w_sif, w_sub, w_unp, w_fn1, w_fn2, w_fn3, w_fn4, w_fn5, w_join, w_vSrc, w_aSrc, w_lSrc, w_catLL, w_catOL, w_repL, w_sortV, w_asI, w_slE0, w_slE1, w_sl, q_srcT, q_srcS, q_srcR, q_zipT, q_slT, w_lc, w_forS, Int.toNat_natCast, v_0, v_S, List.replicate_succ, List.replicate_zero, Nat.reduceSub, List.getElem?_cons_zero, List.getElem?_cons_succ, List.set_cons_zero, List.set_cons_succ, if_true, if_false, Bool.false_eq_true, Bool.not_true, Bool.not_false, q_add, q_addT, q_addS, q_sub, q_eq, q_eqS, q_eqB, q_ne, q_neS, q_neB, q_lt, q_ltS, q_le, q_gt, q_ge, q_in1, q_nin1, q_isN, q_isnN, q_isB, q_isnB, q_isiI0, q_isiI1, q_isiI2, q_isiI3, q_isiI4, q_isiI5, q_isiB0, q_isiB1, q_isiB2, q_isiB3, q_isiB4, q_isiB5, q_isiS0, q_isiS1, q_isiS2, q_isiS3, q_isiS4, q_isiS5, q_isiT0, q_isiT1, q_isiT2, q_isiT3, q_isiT4, q_isiT5, q_isiR0, q_isiR1, q_isiR2, q_isiR3, q_isiR4, q_isiR5, q_isiN0, q_isiN1, q_isiN2, q_isiN3, q_isiN4, q_isiN5, q_lenS, q_lenT, q_lenR, q_min2, q_max2, q_strS, q_tupP, ix_0, ix_1, ix_2, ix_3, s_between hy]
    cases e2 : betw y least most with
    | false => simp only [w_raise, w_try, w_vMS, w_vML, w_fmt, w_js, w_fj0, w_fj1, w_disp2, w_get2, w_idxC, w_split, w_par, w_unpL, w_unpV, w_dnew, w_dnewN, w_subD, w_bind, w_noX, w_ok, w_C, w_op2, w_asB, w_op3, w_and, w_or, w_not, w_test, w_bAnd, w_bOr, w_bNot, w_if, w_lif, w_tup, w_lst, w_alloc, w_vL, w_call, w_aNil, w_aCons, w_lCall, w_append, w_nil, w_lnil, w_seq, w_next, w_ret, w_set, w_expr, w_sif, w_sub, w_unp, w_fn1, w_fn2, w_fn3, w_fn4, w_fn5, w_join, w_vSrc, w_aSrc, w_lSrc, w_catLL, w_catOL, w_repL, w_sortV, w_asI, w_slE0, w_slE1, w_sl, q_srcT, q_srcS, q_srcR, q_zipT, q_slT, w_lc, w_forS, Int.toNat_natCast, v_0, v_S, List.replicate_succ, List.replicate_zero, Nat.reduceSub, List.getElem?_cons_zero, List.getElem?_cons_succ, List.set_cons_zero, List.set_cons_succ, if_true, if_false, Bool.false_eq_true, Bool.not_true, Bool.not_false, q_add, q_addT, q_addS, q_sub, q_eq, q_eqS, q_eqB, q_ne, q_neS, q_neB, q_lt, q_ltS, q_le, q_gt, q_ge, q_in1, q_nin1, q_isN, q_isnN, q_isB, q_isnB, q_isiI0, q_isiI1, q_isiI2, q_isiI3, q_isiI4, q_isiI5, q_isiB0, q_isiB1, q_isiB2, q_isiB3, q_isiB4, q_isiB5, q_isiS0, q_isiS1, q_isiS2, q_isiS3, q_isiS4, q_isiS5, q_isiT0, q_isiT1, q_isiT2, q_isiT3, q_isiT4, q_isiT5, q_isiR0, q_isiR1, q_isiR2, q_isiR3, q_isiR4, q_isiR5, q_isiN0, q_isiN1, q_isiN2, q_isiN3, q_isiN4, q_isiN5, q_lenS, q_lenT, q_lenR, q_min2, q_max2, q_strS, q_tupP, ix_0, ix_1, ix_2, ix_3, spanB, e1, e2, Bool.false_and, Bool.and_false, and_self]
    | true =>
      cases x <;> simp only [betw] at e1 <;> try (cases e1; done)
      cases y <;> simp only [betw] at e2 <;> try (cases e2; done)
      simp only [w_raise, w_try, w_vMS, w_vML, w_fmt, w_js, w_fj0, w_fj1, w_disp2, w_get2, w_idxC, w_split, w_par, w_unpL, w_unpV, w_dnew, w_dnewN, w_subD, w_bind, w_noX, w_ok, w_C, w_op2, w_asB, w_op3, w_and, w_or, w_not, w_test, w_bAnd, w_bOr, w_bNot, w_if, w_lif, w_tup, w_lst, w_alloc, w_vL, w_call, w_aNil, w_aCons, w_lCall, w_append, w_nil, w_lnil, w_seq, w_next, w_ret, w_set, w_expr, w_sif, w_sub, w_unp, w_fn1, w_fn2, w_fn3, w_fn4, w_fn5, w_join, w_vSrc, w_aSrc, w_lSrc, w_catLL, w_catOL, w_repL, w_sortV, w_asI, w_slE0, w_slE1, w_sl, q_srcT, q_srcS, q_srcR, q_zipT, q_slT, w_lc, w_forS, Int.toNat_natCast, v_0, v_S, List.replicate_succ, List.replicate_zero, Nat.reduceSub, List.getElem?_cons_zero, List.getElem?_cons_succ, List.set_cons_zero, List.set_cons_succ, if_true, if_false, Bool.false_eq_true, Bool.not_true, Bool.not_false, q_add, q_addT, q_addS, q_sub, q_eq, q_eqS, q_eqB, q_ne, q_neS, q_neB, q_lt, q_ltS, q_le, q_gt, q_ge, q_in1, q_nin1, q_isN, q_isnN, q_isB, q_isnB, q_isiI0, q_isiI1, q_isiI2, q_isiI3, q_isiI4, q_isiI5, q_isiB0, q_isiB1, q_isiB2, q_isiB3, q_isiB4, q_isiB5, q_isiS0, q_isiS1, q_isiS2, q_isiS3, q_isiS4, q_isiS5, q_isiT0, q_isiT1, q_isiT2, q_isiT3, q_isiT4, q_isiT5, q_isiR0, q_isiR1, q_isiR2, q_isiR3, q_isiR4, q_isiR5, q_isiN0, q_isiN1, q_isiN2, q_isiN3, q_isiN4, q_isiN5, q_lenS, q_lenT, q_lenR, q_min2, q_max2, q_strS, q_tupP, ix_0, ix_1, ix_2, ix_3, spanB, betw, leB, e1, e2, Bool.true_and, and_self])
theorem in_names {s : Sg} (hs : ∀ c ∈ s, c < 1114112) : inM (.str s) (.tup [.str kDigits, .str kLetters]) h = .ok (.bl (decide (s = kDigits ∨ s = kLetters))) h := by
  rw [in_tup (pl_str hs) (by decide)]
  congr 2
  rw [Bool.eq_iff_iff, inD_iff, decide_eq_true_iff]
  simp
theorem asc_get : ∀ {ts : List D} , ts.all (fun t => textB t 1 4) = true → (ascB ts = true ↔ ∀ j, ∀ s t, ts[j]? = some (.str s) → ts[j + 1]? = some (.str t) → s < t)
  | [], _ => by simp [ascB]
  | [x], h => by
    refine ⟨fun _ j s t h1 h2 => ?_, fun _ => ?_⟩
    · cases j <;> simp at h2
    · cases x <;> rfl
  | x :: y :: r, h => by
    simp only [List.all_cons, Bool.and_eq_true] at h
    obtain ⟨h1, h2, h3⟩ := h
    cases x <;> simp only [textB] at h1 <;> try (cases h1; done)
    cases y <;> simp only [textB] at h2 <;> try (cases h2; done)
    rename_i s t
    have ih := asc_get (ts := .str t :: r) (by simp only [List.all_cons, Bool.and_eq_true]; exact ⟨h2, h3⟩)
    simp only [ascB, Bool.and_eq_true, decide_eq_true_eq]
    rw [ih]
    constructor
    · rintro ⟨a, b⟩ j s' t' e1 e2
      cases j with
      | zero => simp at e1 e2; subst e1 e2; exact a
      | succ j => exact b j s' t' (by simpa using e1) (by simpa using e2)
    · intro a
      exact ⟨a 0 s t rfl rfl, fun j s' t' e1 e2 => a (j + 1) s' t' (by simpa using e1) (by simpa using e2)⟩
theorem s_choiceG {ts : List D} {x2 x3 : Option D} (hx : Dp' h 1 (.tup ts)) (l1 : 1 ≤ ts.length) (l4 : ts.length ≤ 4) {v0 : D} :
    OkSX noE (sSeq (sIf (bNot (vTest (vL allP (lcM (vSrc (vVar 1)) [2] (.nm 2) bTrue (vCall (run (k + 1) I_is_text) (aCons (vVar 2) (aCons (vC (.int 1)) (aCons (vC (.int 4)) aNil))))))))
    (sRet (vC (.bl false)))
    sNext)
    (sRet (vL allP (lcM (aSrc rng1 (aCons (op2 subM (vCall lenV (aCons (vVar 1) aNil)) (vC (.int 1))) aNil)) [3] (.nm 3) bTrue (op2 ltM (op2 ixM (vVar 1) (vVar 3)) (op2 ixM (vVar 1) (op2 addM (vVar 3) (vC (.int 1)))))))) [some v0, some (.tup ts), x2, x3] h) (fun _ h' => D.non = D.bl (choiceB (.tup ts)) ∧ h' = h) (fun v h' => v = .bl (choiceB (.tup ts)) ∧ h' = h) := by
  simp only [w_raise, w_try, w_vMS, w_vML, w_fmt, w_js, w_fj0, w_fj1, w_disp2, w_get2, w_idxC, w_split, w_par, w_unpL, w_unpV, w_dnew, w_dnewN, w_subD, w_bind, w_noX, w_ok, w_C, w_op2, w_asB, w_op3, w_and, w_or, w_not, w_test, w_bAnd, w_bOr, w_bNot, w_if, w_lif, w_tup, w_lst, w_alloc, w_vL, w_call, w_aNil, w_aCons, w_lCall, w_append, w_nil, w_lnil, w_seq, w_next, w_ret, w_set, w_expr, w_sif, w_sub, w_unp, w_fn1, w_fn2, w_fn3, w_fn4, w_fn5, w_join, w_vSrc, w_aSrc, w_lSrc, w_catLL, w_catOL, w_repL, w_sortV, w_asI, w_slE0, w_slE1, w_sl, q_srcT, q_srcS, q_srcR, q_zipT, q_slT, w_lc, w_forS, Int.toNat_natCast, v_0, v_S, List.replicate_succ, List.replicate_zero, Nat.reduceSub, List.getElem?_cons_zero, List.getElem?_cons_succ, List.set_cons_zero, List.set_cons_succ, if_true, if_false, Bool.false_eq_true, Bool.not_true, Bool.not_false, q_add, q_addT, q_addS, q_sub, q_eq, q_eqS, q_eqB, q_ne, q_neS, q_neB, q_lt, q_ltS, q_le, q_gt, q_ge, q_in1, q_nin1, q_isN, q_isnN, q_isB, q_isnB, q_isiI0, q_isiI1, q_isiI2, q_isiI3, q_isiI4, q_isiI5, q_isiB0, q_isiB1, q_isiB2, q_isiB3, q_isiB4, q_isiB5, q_isiS0, q_isiS1, q_isiS2, q_isiS3, q_isiS4, q_isiS5, q_isiT0, q_isiT1, q_isiT2, q_isiT3, q_isiT4, q_isiT5, q_isiR0, q_isiR1, q_isiR2, q_isiR3, q_isiR4, q_isiR5, q_isiN0, q_isiN1, q_isiN2, q_isiN3, q_isiN4, q_isiN5, q_lenS, q_lenT, q_lenR, q_min2, q_max2, q_strS, q_tupP, ix_0, ix_1, ix_2, ix_3]
  rw [w_lcI (by simp only [LIM]; omega)]
  simp only [wipeE, w_raise, w_try, w_vMS, w_vML, w_fmt, w_js, w_fj0, w_fj1, w_disp2, w_get2, w_idxC, w_split, w_par, w_unpL, w_unpV, w_dnew, w_dnewN, w_subD, w_bind, w_noX, w_ok, w_C, w_op2, w_asB, w_op3, w_and, w_or, w_not, w_test, w_bAnd, w_bOr, w_bNot, w_if, w_lif, w_tup, w_lst, w_alloc, w_vL, w_call, w_aNil, w_aCons, w_lCall, w_append, w_nil, w_lnil, w_seq, w_next, w_ret, w_set, w_expr, w_sif, w_sub, w_unp, w_fn1, w_fn2, w_fn3, w_fn4, w_fn5, w_join, w_vSrc, w_aSrc, w_lSrc, w_catLL, w_catOL, w_repL, w_sortV, w_asI, w_slE0, w_slE1, w_sl, q_srcT, q_srcS, q_srcR, q_zipT, q_slT, w_lc, w_forS, Int.toNat_natCast, v_0, v_S, List.replicate_succ, List.replicate_zero, Nat.reduceSub, List.getElem?_cons_zero, List.getElem?_cons_succ, List.set_cons_zero, List.set_cons_succ, if_true, if_false, Bool.false_eq_true, Bool.not_true, Bool.not_false, q_add, q_addT, q_addS, q_sub, q_eq, q_eqS, q_eqB, q_ne, q_neS, q_neB, q_lt, q_ltS, q_le, q_gt, q_ge, q_in1, q_nin1, q_isN, q_isnN, q_isB, q_isnB, q_isiI0, q_isiI1, q_isiI2, q_isiI3, q_isiI4, q_isiI5, q_isiB0, q_isiB1, q_isiB2, q_isiB3, q_isiB4, q_isiB5, q_isiS0, q_isiS1, q_isiS2, q_isiS3, q_isiS4, q_isiS5, q_isiT0, q_isiT1, q_isiT2, q_isiT3, q_isiT4, q_isiT5, q_isiR0, q_isiR1, q_isiR2, q_isiR3, q_isiR4, q_isiR5, q_isiN0, q_isiN1, q_isiN2, q_isiN3, q_isiN4, q_isiN5, q_lenS, q_lenT, q_lenR, q_min2, q_max2, q_strS, q_tupP, ix_0, ix_1, ix_2, ix_3]
  have em := lcL_map (i := 2) (env := [some v0, some (.tup ts), none, x3]) (h := h) (elt := vCall (run (k + 1) I_is_text) (aCons (vVar 2) (aCons (vC (.int 1)) (aCons (vC (.int 4)) aNil)))) (xs := ts) (c := fun x => x) (fun x => .bl (textB x 1 4)) fun x hm => Ok.eq (by
    have := s_textG (k := k) (lo := 1) (hi := 4) (hx.it x hm).bas
    simp only [w_raise, w_try, w_vMS, w_vML, w_fmt, w_js, w_fj0, w_fj1, w_disp2, w_get2, w_idxC, w_split, w_par, w_unpL, w_unpV, w_dnew, w_dnewN, w_subD, w_bind, w_noX, w_ok, w_C, w_op2, w_asB, w_op3, w_and, w_or, w_not, w_test, w_bAnd, w_bOr, w_bNot, w_if, w_lif, w_tup, w_lst, w_alloc, w_vL, w_call, w_aNil, w_aCons, w_lCall, w_append, w_nil, w_lnil, w_seq, w_next, w_ret, w_set, w_expr, w_sif, w_sub, w_unp, w_fn1, w_fn2, w_fn3, w_fn4, w_fn5, w_join, w_vSrc, w_aSrc, w_lSrc, w_catLL, w_catOL, w_repL, w_sortV, w_asI, w_slE0, w_slE1, w_sl, q_srcT, q_srcS, q_srcR, q_zipT, q_slT, w_lc, w_forS, Int.toNat_natCast, v_0, v_S, List.replicate_succ, List.replicate_zero, Nat.reduceSub, List.getElem?_cons_zero, List.getElem?_cons_succ, List.set_cons_zero, List.set_cons_succ, if_true, if_false, Bool.false_eq_true, Bool.not_true, Bool.not_false, q_add, q_addT, q_addS, q_sub, q_eq, q_eqS, q_eqB, q_ne, q_neS, q_neB, q_lt, q_ltS, q_le, q_gt, q_ge, q_in1, q_nin1, q_isN, q_isnN, q_isB, q_isnB, q_isiI0, q_isiI1, q_isiI2, q_isiI3, q_isiI4, q_isiI5, q_isiB0, q_isiB1, q_isiB2, q_isiB3, q_isiB4, q_isiB5, q_isiS0, q_isiS1, q_isiS2, q_isiS3, q_isiS4, q_isiS5, q_isiT0, q_isiT1, q_isiT2, q_isiT3, q_isiT4, q_isiT5, q_isiR0, q_isiR1, q_isiR2, q_isiR3, q_isiR4, q_isiR5, q_isiN0, q_isiN1, q_isiN2, q_isiN3, q_isiN4, q_isiN5, q_lenS, q_lenT, q_lenR, q_min2, q_max2, q_strS, q_tupP, ix_0, ix_1, ix_2, ix_3]
    have e1 : ((1 : Nat) : Int) = 1 := rfl
    have e4 : ((4 : Nat) : Int) = 4 := rfl
    rw [e1, e4] at this
    simp only [this, w_raise, w_try, w_vMS, w_vML, w_fmt, w_js, w_fj0, w_fj1, w_disp2, w_get2, w_idxC, w_split, w_par, w_unpL, w_unpV, w_dnew, w_dnewN, w_subD, w_bind, w_noX, w_ok, w_C, w_op2, w_asB, w_op3, w_and, w_or, w_not, w_test, w_bAnd, w_bOr, w_bNot, w_if, w_lif, w_tup, w_lst, w_alloc, w_vL, w_call, w_aNil, w_aCons, w_lCall, w_append, w_nil, w_lnil, w_seq, w_next, w_ret, w_set, w_expr, w_sif, w_sub, w_unp, w_fn1, w_fn2, w_fn3, w_fn4, w_fn5, w_join, w_vSrc, w_aSrc, w_lSrc, w_catLL, w_catOL, w_repL, w_sortV, w_asI, w_slE0, w_slE1, w_sl, q_srcT, q_srcS, q_srcR, q_zipT, q_slT, w_lc, w_forS, Int.toNat_natCast, v_0, v_S, List.replicate_succ, List.replicate_zero, Nat.reduceSub, List.getElem?_cons_zero, List.getElem?_cons_succ, List.set_cons_zero, List.set_cons_succ, if_true, if_false, Bool.false_eq_true, Bool.not_true, Bool.not_false, q_add, q_addT, q_addS, q_sub, q_eq, q_eqS, q_eqB, q_ne, q_neS, q_neB, q_lt, q_ltS, q_le, q_gt, q_ge, q_in1, q_nin1, q_isN, q_isnN, q_isB, q_isnB, q_isiI0, q_isiI1, q_isiI2, q_isiI3, q_isiI4, q_isiI5, q_isiB0, q_isiB1, q_isiB2, q_isiB3, q_isiB4, q_isiB5, q_isiS0, q_isiS1, q_isiS2, q_isiS3, q_isiS4, q_isiS5, q_isiT0, q_isiT1, q_isiT2, q_isiT3, q_isiT4, q_isiT5, q_isiR0, q_isiR1, q_isiR2, q_isiR3, q_isiR4, q_isiR5, q_isiN0, q_isiN1, q_isiN2, q_isiN3, q_isiN4, q_isiN5, q_lenS, q_lenT, q_lenR, q_min2, q_max2, q_strS, q_tupP, ix_0, ix_1, ix_2, ix_3, and_self])
  rw [List.map_id'] at em
  rw [em, w_ok, all_map, w_ok]
  cases ea : ts.all (fun t => textB t 1 4) with
  | false => simp only [w_raise, w_try, w_vMS, w_vML, w_fmt, w_js, w_fj0, w_fj1, w_disp2, w_get2, w_idxC, w_split, w_par, w_unpL, w_unpV, w_dnew, w_dnewN, w_subD, w_bind, w_noX, w_ok, w_C, w_op2, w_asB, w_op3, w_and, w_or, w_not, w_test, w_bAnd, w_bOr, w_bNot, w_if, w_lif, w_tup, w_lst, w_alloc, w_vL, w_call, w_aNil, w_aCons, w_lCall, w_append, w_nil, w_lnil, w_seq, w_next, w_ret, w_set, w_expr, w_sif, w_sub, w_unp, w_fn1, w_fn2, w_fn3, w_fn4, w_fn5, w_join, w_vSrc, w_aSrc, w_lSrc, w_catLL, w_catOL, w_repL, w_sortV, w_asI, w_slE0, w_slE1, w_sl, q_srcT, q_srcS, q_srcR, q_zipT, q_slT, w_lc, w_forS, Int.toNat_natCast, v_0, v_S, List.replicate_succ, List.replicate_zero, Nat.reduceSub, List.getElem?_cons_zero, List.getElem?_cons_succ, List.set_cons_zero, List.set_cons_succ, if_true, if_false, Bool.false_eq_true, Bool.not_true, Bool.not_false, q_add, q_addT, q_addS, q_sub, q_eq, q_eqS, q_eqB, q_ne, q_neS, q_neB, q_lt, q_ltS, q_le, q_gt, q_ge, q_in1, q_nin1, q_isN, q_isnN, q_isB, q_isnB, q_isiI0, q_isiI1, q_isiI2, q_isiI3, q_isiI4, q_isiI5, q_isiB0, q_isiB1, q_isiB2, q_isiB3, q_isiB4, q_isiB5, q_isiS0, q_isiS1, q_isiS2, q_isiS3, q_isiS4, q_isiS5, q_isiT0, q_isiT1, q_isiT2, q_isiT3, q_isiT4, q_isiT5, q_isiR0, q_isiR1, q_isiR2, q_isiR3, q_isiR4, q_isiR5, q_isiN0, q_isiN1, q_isiN2, q_isiN3, q_isiN4, q_isiN5, q_lenS, q_lenT, q_lenR, q_min2, q_max2, q_strS, q_tupP, ix_0, ix_1, ix_2, ix_3, choiceB, ea, Bool.false_and, Bool.and_false, and_self]
  | true =>
    simp only [w_raise, w_try, w_vMS, w_vML, w_fmt, w_js, w_fj0, w_fj1, w_disp2, w_get2, w_idxC, w_split, w_par, w_unpL, w_unpV, w_dnew, w_dnewN, w_subD, w_bind, w_noX, w_ok, w_C, w_op2, w_asB, w_op3, w_and, w_or, w_not, w_test, w_bAnd, w_bOr, w_bNot, w_if, w_lif, w_tup, w_lst, w_alloc, w_vL, w_call, w_aNil, w_aCons, w_lCall, w_append, w_nil, w_lnil, w_seq, w_next, w_ret, w_set, w_expr, w_sif, w_sub, w_unp, w_fn1, w_fn2, w_fn3, w_fn4, w_fn5, w_join, w_vSrc, w_aSrc, w_lSrc, w_catLL, w_catOL, w_repL, w_sortV, w_asI, w_slE0, w_slE1, w_sl, q_srcT, q_srcS, q_srcR, q_zipT, q_slT, w_lc, w_forS, Int.toNat_natCast, v_0, v_S, List.replicate_succ, List.replicate_zero, Nat.reduceSub, List.getElem?_cons_zero, List.getElem?_cons_succ, List.set_cons_zero, List.set_cons_succ, if_true, if_false, Bool.false_eq_true, Bool.not_true, Bool.not_false, q_add, q_addT, q_addS, q_sub, q_eq, q_eqS, q_eqB, q_ne, q_neS, q_neB, q_lt, q_ltS, q_le, q_gt, q_ge, q_in1, q_nin1, q_isN, q_isnN, q_isB, q_isnB, q_isiI0, q_isiI1, q_isiI2, q_isiI3, q_isiI4, q_isiI5, q_isiB0, q_isiB1, q_isiB2, q_isiB3, q_isiB4, q_isiB5, q_isiS0, q_isiS1, q_isiS2, q_isiS3, q_isiS4, q_isiS5, q_isiT0, q_isiT1, q_isiT2, q_isiT3, q_isiT4, q_isiT5, q_isiR0, q_isiR1, q_isiR2, q_isiR3, q_isiR4, q_isiR5, q_isiN0, q_isiN1, q_isiN2, q_isiN3, q_isiN4, q_isiN5, q_lenS, q_lenT, q_lenR, q_min2, q_max2, q_strS, q_tupP, ix_0, ix_1, ix_2, ix_3, q_rng1 (show (-1000 : Int) ≤ (ts.length : Int) - 1 by omega) (show (ts.length : Int) - 1 ≤ 1000000 by omega)]
    rw [w_lcI (by rw [upTo_len]; simp only [LIM]; omega)]
    have z : ((ts.length : Int) - 1).toNat = ts.length - 1 := by omega
    rw [z]
    have str : ∀ j, j < ts.length → ∃ s, ts[j]? = some (.str s) := fun j hj => by
      have := List.all_eq_true.mp ea ts[j] (List.getElem_mem hj)
      rw [List.getElem?_eq_getElem hj]
      cases e : ts[j] with
      | str s => exact ⟨s, rfl⟩
      | _ => rw [e] at this; cases this
    refine lc_rng (fun j acc h' => h' = h ∧ ∃ bs : List Bool, acc = bs.map (fun b => .bl ((fun b => b) b)) ∧ bs.length = j ∧ (bs.all (fun b => b) = true ↔ ∀ i, i < j → ∀ s t, ts[i]? = some (.str s) → ts[i + 1]? = some (.str t) → s < t)) ⟨rfl, [], rfl, rfl, by simp⟩ ?_ ?_
    · rintro j acc h' hj ⟨rfl, bs, rfl, e1, e2⟩
      obtain ⟨s, hs⟩ := str j (by omega)
      obtain ⟨t, ht⟩ := str (j + 1) (by omega)
      have i1 : ixM (.tup ts) (.int (j : Int)) h' = .ok (.str s) h' := by
        have := atI_nat (xs := ts) (j := j) hs
        simp only [ixM, this]
      have i2 : ixM (.tup ts) (.int ((j : Int) + 1)) h' = .ok (.str t) h' := by
        have := atI_nat (xs := ts) (j := j + 1) ht
        rw [show ((j : Int) + 1) = ((j + 1 : Nat) : Int) by omega]
        simp only [ixM, this]
      simp only [wipeE, w_raise, w_try, w_vMS, w_vML, w_fmt, w_js, w_fj0, w_fj1, w_disp2, w_get2, w_idxC, w_split, w_par, w_unpL, w_unpV, w_dnew, w_dnewN, w_subD, w_bind, w_noX, w_ok, w_C, w_op2, w_asB, w_op3, w_and, w_or, w_not, w_test, w_bAnd, w_bOr, w_bNot, w_if, w_lif, w_tup, w_lst, w_alloc, w_vL, w_call, w_aNil, w_aCons, w_lCall, w_append, w_nil, w_lnil, w_seq, w_next, w_ret, w_set, w_expr, w_sif, w_sub, w_unp, w_fn1, w_fn2, w_fn3, w_fn4, w_fn5, w_join, w_vSrc, w_aSrc, w_lSrc, w_catLL, w_catOL, w_repL, w_sortV, w_asI, w_slE0, w_slE1, w_sl, q_srcT, q_srcS, q_srcR, q_zipT, q_slT, w_lc, w_forS, Int.toNat_natCast, v_0, v_S, List.replicate_succ, List.replicate_zero, Nat.reduceSub, List.getElem?_cons_zero, List.getElem?_cons_succ, List.set_cons_zero, List.set_cons_succ, if_true, if_false, Bool.false_eq_true, Bool.not_true, Bool.not_false, q_add, q_addT, q_addS, q_sub, q_eq, q_eqS, q_eqB, q_ne, q_neS, q_neB, q_lt, q_ltS, q_le, q_gt, q_ge, q_in1, q_nin1, q_isN, q_isnN, q_isB, q_isnB, q_isiI0, q_isiI1, q_isiI2, q_isiI3, q_isiI4, q_isiI5, q_isiB0, q_isiB1, q_isiB2, q_isiB3, q_isiB4, q_isiB5, q_isiS0, q_isiS1, q_isiS2, q_isiS3, q_isiS4, q_isiS5, q_isiT0, q_isiT1, q_isiT2, q_isiT3, q_isiT4, q_isiT5, q_isiR0, q_isiR1, q_isiR2, q_isiR3, q_isiR4, q_isiR5, q_isiN0, q_isiN1, q_isiN2, q_isiN3, q_isiN4, q_isiN5, q_lenS, q_lenT, q_lenR, q_min2, q_max2, q_strS, q_tupP, ix_0, ix_1, ix_2, ix_3, i1, i2]
      refine ⟨trivial, bs ++ [decide (s < t)], by simp, by simp [e1], ?_⟩
      simp only [List.all_append, List.all_cons, List.all_nil, Bool.and_true, Bool.and_eq_true, decide_eq_true_eq, e2]
      constructor
      · rintro ⟨a, b⟩ i hi s' t' q1 q2
        by_cases c : i = j
        · subst c; rw [hs] at q1; rw [ht] at q2; cases q1; cases q2; exact b
        · exact a i (by omega) s' t' q1 q2
      · intro a
        exact ⟨fun i hi => a i (by omega), a j (by omega) s t hs ht⟩
    · rintro acc h' ⟨rfl, bs, rfl, e1, e2⟩
      rw [all_map, w_ok]
      refine ⟨?_, rfl⟩
      congr 1
      simp only [choiceB, l1, l4, ea, decide_true, Bool.true_and]
      rw [Bool.eq_iff_iff, asc_get ea, e2]
      constructor
      · intro a j s t q1 q2
        exact a j (by
          have := get_lt q2
          omega) s t q1 q2
      · intro a i hi
        exact a i
theorem s_simpleG (hd : Dp' h 2 d) : run (k + 3) I_is_simple [d] h = .ok (.bl (simpleB d)) h := Ok.eq (by
  rw [e_is_simple]
  unfold m_is_simple
  simp only [w_raise, w_try, w_vMS, w_vML, w_fmt, w_js, w_fj0, w_fj1, w_disp2, w_get2, w_idxC, w_split, w_par, w_unpL, w_unpV, w_dnew, w_dnewN, w_subD, w_bind, w_noX, w_ok, w_C, w_op2, w_asB, w_op3, w_and, w_or, w_not, w_test, w_bAnd, w_bOr, w_bNot, w_if, w_lif, w_tup, w_lst, w_alloc, w_vL, w_call, w_aNil, w_aCons, w_lCall, w_append, w_nil, w_lnil, w_seq, w_next, w_ret, w_set, w_expr, w_sif, w_sub, w_unp, w_fn1, w_fn2, w_fn3, w_fn4, w_fn5, w_join, w_vSrc, w_aSrc, w_lSrc, w_catLL, w_catOL, w_repL, w_sortV, w_asI, w_slE0, w_slE1, w_sl, q_srcT, q_srcS, q_srcR, q_zipT, q_slT, w_lc, w_forS, Int.toNat_natCast, v_0, v_S, List.replicate_succ, List.replicate_zero, Nat.reduceSub, List.getElem?_cons_zero, List.getElem?_cons_succ, List.set_cons_zero, List.set_cons_succ, if_true, if_false, Bool.false_eq_true, Bool.not_true, Bool.not_false, q_add, q_addT, q_addS, q_sub, q_eq, q_eqS, q_eqB, q_ne, q_neS, q_neB, q_lt, q_ltS, q_le, q_gt, q_ge, q_in1, q_nin1, q_isN, q_isnN, q_isB, q_isnB, q_isiI0, q_isiI1, q_isiI2, q_isiI3, q_isiI4, q_isiI5, q_isiB0, q_isiB1, q_isiB2, q_isiB3, q_isiB4, q_isiB5, q_isiS0, q_isiS1, q_isiS2, q_isiS3, q_isiS4, q_isiS5, q_isiT0, q_isiT1, q_isiT2, q_isiT3, q_isiT4, q_isiT5, q_isiR0, q_isiR1, q_isiR2, q_isiR3, q_isiR4, q_isiR5, q_isiN0, q_isiN1, q_isiN2, q_isiN3, q_isiN4, q_isiN5, q_lenS, q_lenT, q_lenR, q_min2, q_max2, q_strS, q_tupP, ix_0, ix_1, ix_2, ix_3, isi_tup hd.bas]
  cases d <;> simp only [isTup, w_raise, w_try, w_vMS, w_vML, w_fmt, w_js, w_fj0, w_fj1, w_disp2, w_get2, w_idxC, w_split, w_par, w_unpL, w_unpV, w_dnew, w_dnewN, w_subD, w_bind, w_noX, w_ok, w_C, w_op2, w_asB, w_op3, w_and, w_or, w_not, w_test, w_bAnd, w_bOr, w_bNot, w_if, w_lif, w_tup, w_lst, w_alloc, w_vL, w_call, w_aNil, w_aCons, w_lCall, w_append, w_nil, w_lnil, w_seq, w_next, w_ret, w_set, w_expr, w_sif, w_sub, w_unp, w_fn1, w_fn2, w_fn3, w_fn4, w_fn5, w_join, w_vSrc, w_aSrc, w_lSrc, w_catLL, w_catOL, w_repL, w_sortV, w_asI, w_slE0, w_slE1, w_sl, q_srcT, q_srcS, q_srcR, q_zipT, q_slT, w_lc, w_forS, Int.toNat_natCast, v_0, v_S, List.replicate_succ, List.replicate_zero, Nat.reduceSub, List.getElem?_cons_zero, List.getElem?_cons_succ, List.set_cons_zero, List.set_cons_succ, if_true, if_false, Bool.false_eq_true, Bool.not_true, Bool.not_false, q_add, q_addT, q_addS, q_sub, q_eq, q_eqS, q_eqB, q_ne, q_neS, q_neB, q_lt, q_ltS, q_le, q_gt, q_ge, q_in1, q_nin1, q_isN, q_isnN, q_isB, q_isnB, q_isiI0, q_isiI1, q_isiI2, q_isiI3, q_isiI4, q_isiI5, q_isiB0, q_isiB1, q_isiB2, q_isiB3, q_isiB4, q_isiB5, q_isiS0, q_isiS1, q_isiS2, q_isiS3, q_isiS4, q_isiS5, q_isiT0, q_isiT1, q_isiT2, q_isiT3, q_isiT4, q_isiT5, q_isiR0, q_isiR1, q_isiR2, q_isiR3, q_isiR4, q_isiR5, q_isiN0, q_isiN1, q_isiN2, q_isiN3, q_isiN4, q_isiN5, q_lenS, q_lenT, q_lenR, q_min2, q_max2, q_strS, q_tupP, ix_0, ix_1, ix_2, ix_3, simpleB, and_self]
  rename_i ds
  have hl := hd.bas.2.2 ds rfl
  match ds, hd with
  | [], _ => simp only [w_raise, w_try, w_vMS, w_vML, w_fmt, w_js, w_fj0, w_fj1, w_disp2, w_get2, w_idxC, w_split, w_par, w_unpL, w_unpV, w_dnew, w_dnewN, w_subD, w_bind, w_noX, w_ok, w_C, w_op2, w_asB, w_op3, w_and, w_or, w_not, w_test, w_bAnd, w_bOr, w_bNot, w_if, w_lif, w_tup, w_lst, w_alloc, w_vL, w_call, w_aNil, w_aCons, w_lCall, w_append, w_nil, w_lnil, w_seq, w_next, w_ret, w_set, w_expr, w_sif, w_sub, w_unp, w_fn1, w_fn2, w_fn3, w_fn4, w_fn5, w_join, w_vSrc, w_aSrc, w_lSrc, w_catLL, w_catOL, w_repL, w_sortV, w_asI, w_slE0, w_slE1, w_sl, q_srcT, q_srcS, q_srcR, q_zipT, q_slT, w_lc, w_forS, Int.toNat_natCast, v_0, v_S, List.replicate_succ, List.replicate_zero, Nat.reduceSub, List.getElem?_cons_zero, List.getElem?_cons_succ, List.set_cons_zero, List.set_cons_succ, if_true, if_false, Bool.false_eq_true, Bool.not_true, Bool.not_false, q_add, q_addT, q_addS, q_sub, q_eq, q_eqS, q_eqB, q_ne, q_neS, q_neB, q_lt, q_ltS, q_le, q_gt, q_ge, q_in1, q_nin1, q_isN, q_isnN, q_isB, q_isnB, q_isiI0, q_isiI1, q_isiI2, q_isiI3, q_isiI4, q_isiI5, q_isiB0, q_isiB1, q_isiB2, q_isiB3, q_isiB4, q_isiB5, q_isiS0, q_isiS1, q_isiS2, q_isiS3, q_isiS4, q_isiS5, q_isiT0, q_isiT1, q_isiT2, q_isiT3, q_isiT4, q_isiT5, q_isiR0, q_isiR1, q_isiR2, q_isiR3, q_isiR4, q_isiR5, q_isiN0, q_isiN1, q_isiN2, q_isiN3, q_isiN4, q_isiN5, q_lenS, q_lenT, q_lenR, q_min2, q_max2, q_strS, q_tupP, ix_0, ix_1, ix_2, ix_3, List.length_cons, List.length_nil, lim_0, lim_1, lim_2, lim_3, lim_4, lim_5, lim_6, lim_7, lim_8, lim_9, lim_10, lim_11, lim_12, lim_13, lim_14, lim_15, lim_16, lim_17, lim_18, lim_19, lim_20, lim_21, lim_22, lim_23, Nat.reduceAdd, Nat.reduceLeDiff, decide_true, decide_false, List.cons.injEq, reduceCtorEq, and_false, false_and, and_true, true_and, Nat.reduceEqDiff, Int.reduceLE, Int.reduceEq, Int.reduceLT, Int.cast_ofNat_Int, and_self]
  | [a], _ => simp only [w_raise, w_try, w_vMS, w_vML, w_fmt, w_js, w_fj0, w_fj1, w_disp2, w_get2, w_idxC, w_split, w_par, w_unpL, w_unpV, w_dnew, w_dnewN, w_subD, w_bind, w_noX, w_ok, w_C, w_op2, w_asB, w_op3, w_and, w_or, w_not, w_test, w_bAnd, w_bOr, w_bNot, w_if, w_lif, w_tup, w_lst, w_alloc, w_vL, w_call, w_aNil, w_aCons, w_lCall, w_append, w_nil, w_lnil, w_seq, w_next, w_ret, w_set, w_expr, w_sif, w_sub, w_unp, w_fn1, w_fn2, w_fn3, w_fn4, w_fn5, w_join, w_vSrc, w_aSrc, w_lSrc, w_catLL, w_catOL, w_repL, w_sortV, w_asI, w_slE0, w_slE1, w_sl, q_srcT, q_srcS, q_srcR, q_zipT, q_slT, w_lc, w_forS, Int.toNat_natCast, v_0, v_S, List.replicate_succ, List.replicate_zero, Nat.reduceSub, List.getElem?_cons_zero, List.getElem?_cons_succ, List.set_cons_zero, List.set_cons_succ, if_true, if_false, Bool.false_eq_true, Bool.not_true, Bool.not_false, q_add, q_addT, q_addS, q_sub, q_eq, q_eqS, q_eqB, q_ne, q_neS, q_neB, q_lt, q_ltS, q_le, q_gt, q_ge, q_in1, q_nin1, q_isN, q_isnN, q_isB, q_isnB, q_isiI0, q_isiI1, q_isiI2, q_isiI3, q_isiI4, q_isiI5, q_isiB0, q_isiB1, q_isiB2, q_isiB3, q_isiB4, q_isiB5, q_isiS0, q_isiS1, q_isiS2, q_isiS3, q_isiS4, q_isiS5, q_isiT0, q_isiT1, q_isiT2, q_isiT3, q_isiT4, q_isiT5, q_isiR0, q_isiR1, q_isiR2, q_isiR3, q_isiR4, q_isiR5, q_isiN0, q_isiN1, q_isiN2, q_isiN3, q_isiN4, q_isiN5, q_lenS, q_lenT, q_lenR, q_min2, q_max2, q_strS, q_tupP, ix_0, ix_1, ix_2, ix_3, List.length_cons, List.length_nil, lim_0, lim_1, lim_2, lim_3, lim_4, lim_5, lim_6, lim_7, lim_8, lim_9, lim_10, lim_11, lim_12, lim_13, lim_14, lim_15, lim_16, lim_17, lim_18, lim_19, lim_20, lim_21, lim_22, lim_23, Nat.reduceAdd, Nat.reduceLeDiff, decide_true, decide_false, List.cons.injEq, reduceCtorEq, and_false, false_and, and_true, true_and, Nat.reduceEqDiff, Int.reduceLE, Int.reduceEq, Int.reduceLT, Int.cast_ofNat_Int, and_self]
  | [a, x], hd =>
    have ha := (hd.it a (by simp)).bas
    have hx := hd.it x (by simp)
    simp only [w_raise, w_try, w_vMS, w_vML, w_fmt, w_js, w_fj0, w_fj1, w_disp2, w_get2, w_idxC, w_split, w_par, w_unpL, w_unpV, w_dnew, w_dnewN, w_subD, w_bind, w_noX, w_ok, w_C, w_op2, w_asB, w_op3, w_and, w_or, w_not, w_test, w_bAnd, w_bOr, w_bNot, w_if, w_lif, w_tup, w_lst, w_alloc, w_vL, w_call, w_aNil, w_aCons, w_lCall, w_append, w_nil, w_lnil, w_seq, w_next, w_ret, w_set, w_expr, w_sif, w_sub, w_unp, w_fn1, w_fn2, w_fn3, w_fn4, w_fn5, w_join, w_vSrc, w_aSrc, w_lSrc, w_catLL, w_catOL, w_repL, w_sortV, w_asI, w_slE0, w_slE1, w_sl, q_srcT, q_srcS, q_srcR, q_zipT, q_slT, w_lc, w_forS, Int.toNat_natCast, v_0, v_S, List.replicate_succ, List.replicate_zero, Nat.reduceSub, List.getElem?_cons_zero, List.getElem?_cons_succ, List.set_cons_zero, List.set_cons_succ, if_true, if_false, Bool.false_eq_true, Bool.not_true, Bool.not_false, q_add, q_addT, q_addS, q_sub, q_eq, q_eqS, q_eqB, q_ne, q_neS, q_neB, q_lt, q_ltS, q_le, q_gt, q_ge, q_in1, q_nin1, q_isN, q_isnN, q_isB, q_isnB, q_isiI0, q_isiI1, q_isiI2, q_isiI3, q_isiI4, q_isiI5, q_isiB0, q_isiB1, q_isiB2, q_isiB3, q_isiB4, q_isiB5, q_isiS0, q_isiS1, q_isiS2, q_isiS3, q_isiS4, q_isiS5, q_isiT0, q_isiT1, q_isiT2, q_isiT3, q_isiT4, q_isiT5, q_isiR0, q_isiR1, q_isiR2, q_isiR3, q_isiR4, q_isiR5, q_isiN0, q_isiN1, q_isiN2, q_isiN3, q_isiN4, q_isiN5, q_lenS, q_lenT, q_lenR, q_min2, q_max2, q_strS, q_tupP, ix_0, ix_1, ix_2, ix_3, List.length_cons, List.length_nil, lim_0, lim_1, lim_2, lim_3, lim_4, lim_5, lim_6, lim_7, lim_8, lim_9, lim_10, lim_11, lim_12, lim_13, lim_14, lim_15, lim_16, lim_17, lim_18, lim_19, lim_20, lim_21, lim_22, lim_23, Nat.reduceAdd, Nat.reduceLeDiff, decide_true, decide_false, List.cons.injEq, reduceCtorEq, and_false, false_and, and_true, true_and, Nat.reduceEqDiff, Int.reduceLE, Int.reduceEq, Int.reduceLT, Int.cast_ofNat_Int, isi_str ha]
    cases a <;> simp only [isStr, w_raise, w_try, w_vMS, w_vML, w_fmt, w_js, w_fj0, w_fj1, w_disp2, w_get2, w_idxC, w_split, w_par, w_unpL, w_unpV, w_dnew, w_dnewN, w_subD, w_bind, w_noX, w_ok, w_C, w_op2, w_asB, w_op3, w_and, w_or, w_not, w_test, w_bAnd, w_bOr, w_bNot, w_if, w_lif, w_tup, w_lst, w_alloc, w_vL, w_call, w_aNil, w_aCons, w_lCall, w_append, w_nil, w_lnil, w_seq, w_next, w_ret, w_set, w_expr, w_sif, w_sub, w_unp, w_fn1, w_fn2, w_fn3, w_fn4, w_fn5, w_join, w_vSrc, w_aSrc, w_lSrc, w_catLL, w_catOL, w_repL, w_sortV, w_asI, w_slE0, w_slE1, w_sl, q_srcT, q_srcS, q_srcR, q_zipT, q_slT, w_lc, w_forS, Int.toNat_natCast, v_0, v_S, List.replicate_succ, List.replicate_zero, Nat.reduceSub, List.getElem?_cons_zero, List.getElem?_cons_succ, List.set_cons_zero, List.set_cons_succ, if_true, if_false, Bool.false_eq_true, Bool.not_true, Bool.not_false, q_add, q_addT, q_addS, q_sub, q_eq, q_eqS, q_eqB, q_ne, q_neS, q_neB, q_lt, q_ltS, q_le, q_gt, q_ge, q_in1, q_nin1, q_isN, q_isnN, q_isB, q_isnB, q_isiI0, q_isiI1, q_isiI2, q_isiI3, q_isiI4, q_isiI5, q_isiB0, q_isiB1, q_isiB2, q_isiB3, q_isiB4, q_isiB5, q_isiS0, q_isiS1, q_isiS2, q_isiS3, q_isiS4, q_isiS5, q_isiT0, q_isiT1, q_isiT2, q_isiT3, q_isiT4, q_isiT5, q_isiR0, q_isiR1, q_isiR2, q_isiR3, q_isiR4, q_isiR5, q_isiN0, q_isiN1, q_isiN2, q_isiN3, q_isiN4, q_isiN5, q_lenS, q_lenT, q_lenR, q_min2, q_max2, q_strS, q_tupP, ix_0, ix_1, ix_2, ix_3, List.length_cons, List.length_nil, lim_0, lim_1, lim_2, lim_3, lim_4, lim_5, lim_6, lim_7, lim_8, lim_9, lim_10, lim_11, lim_12, lim_13, lim_14, lim_15, lim_16, lim_17, lim_18, lim_19, lim_20, lim_21, lim_22, lim_23, Nat.reduceAdd, Nat.reduceLeDiff, decide_true, decide_false, List.cons.injEq, reduceCtorEq, and_false, false_and, and_true, true_and, Nat.reduceEqDiff, Int.reduceLE, Int.reduceEq, Int.reduceLT, Int.cast_ofNat_Int, and_self]
    rename_i s
    by_cases c1 : s = kWord
    · have := s_textG (k := k + 1) (lo := 1) (hi := 4) hx.bas
      simp only [c1, w_raise, w_try, w_vMS, w_vML, w_fmt, w_js, w_fj0, w_fj1, w_disp2, w_get2, w_idxC, w_split, w_par, w_unpL, w_unpV, w_dnew, w_dnewN, w_subD, w_bind, w_noX, w_ok, w_C, w_op2, w_asB, w_op3, w_and, w_or, w_not, w_test, w_bAnd, w_bOr, w_bNot, w_if, w_lif, w_tup, w_lst, w_alloc, w_vL, w_call, w_aNil, w_aCons, w_lCall, w_append, w_nil, w_lnil, w_seq, w_next, w_ret, w_set, w_expr, w_sif, w_sub, w_unp, w_fn1, w_fn2, w_fn3, w_fn4, w_fn5, w_join, w_vSrc, w_aSrc, w_lSrc, w_catLL, w_catOL, w_repL, w_sortV, w_asI, w_slE0, w_slE1, w_sl, q_srcT, q_srcS, q_srcR, q_zipT, q_slT, w_lc, w_forS, Int.toNat_natCast, v_0, v_S, List.replicate_succ, List.replicate_zero, Nat.reduceSub, List.getElem?_cons_zero, List.getElem?_cons_succ, List.set_cons_zero, List.set_cons_succ, if_true, if_false, Bool.false_eq_true, Bool.not_true, Bool.not_false, q_add, q_addT, q_addS, q_sub, q_eq, q_eqS, q_eqB, q_ne, q_neS, q_neB, q_lt, q_ltS, q_le, q_gt, q_ge, q_in1, q_nin1, q_isN, q_isnN, q_isB, q_isnB, q_isiI0, q_isiI1, q_isiI2, q_isiI3, q_isiI4, q_isiI5, q_isiB0, q_isiB1, q_isiB2, q_isiB3, q_isiB4, q_isiB5, q_isiS0, q_isiS1, q_isiS2, q_isiS3, q_isiS4, q_isiS5, q_isiT0, q_isiT1, q_isiT2, q_isiT3, q_isiT4, q_isiT5, q_isiR0, q_isiR1, q_isiR2, q_isiR3, q_isiR4, q_isiR5, q_isiN0, q_isiN1, q_isiN2, q_isiN3, q_isiN4, q_isiN5, q_lenS, q_lenT, q_lenR, q_min2, q_max2, q_strS, q_tupP, ix_0, ix_1, ix_2, ix_3, decide_true, decide_false, List.cons.injEq, reduceCtorEq, and_false, false_and, and_true, true_and, Nat.reduceEqDiff, Int.reduceLE, Int.reduceEq, Int.reduceLT, Int.cast_ofNat_Int, and_self] at this ⊢
      simp only [this, w_raise, w_try, w_vMS, w_vML, w_fmt, w_js, w_fj0, w_fj1, w_disp2, w_get2, w_idxC, w_split, w_par, w_unpL, w_unpV, w_dnew, w_dnewN, w_subD, w_bind, w_noX, w_ok, w_C, w_op2, w_asB, w_op3, w_and, w_or, w_not, w_test, w_bAnd, w_bOr, w_bNot, w_if, w_lif, w_tup, w_lst, w_alloc, w_vL, w_call, w_aNil, w_aCons, w_lCall, w_append, w_nil, w_lnil, w_seq, w_next, w_ret, w_set, w_expr, w_sif, w_sub, w_unp, w_fn1, w_fn2, w_fn3, w_fn4, w_fn5, w_join, w_vSrc, w_aSrc, w_lSrc, w_catLL, w_catOL, w_repL, w_sortV, w_asI, w_slE0, w_slE1, w_sl, q_srcT, q_srcS, q_srcR, q_zipT, q_slT, w_lc, w_forS, Int.toNat_natCast, v_0, v_S, List.replicate_succ, List.replicate_zero, Nat.reduceSub, List.getElem?_cons_zero, List.getElem?_cons_succ, List.set_cons_zero, List.set_cons_succ, if_true, if_false, Bool.false_eq_true, Bool.not_true, Bool.not_false, q_add, q_addT, q_addS, q_sub, q_eq, q_eqS, q_eqB, q_ne, q_neS, q_neB, q_lt, q_ltS, q_le, q_gt, q_ge, q_in1, q_nin1, q_isN, q_isnN, q_isB, q_isnB, q_isiI0, q_isiI1, q_isiI2, q_isiI3, q_isiI4, q_isiI5, q_isiB0, q_isiB1, q_isiB2, q_isiB3, q_isiB4, q_isiB5, q_isiS0, q_isiS1, q_isiS2, q_isiS3, q_isiS4, q_isiS5, q_isiT0, q_isiT1, q_isiT2, q_isiT3, q_isiT4, q_isiT5, q_isiR0, q_isiR1, q_isiR2, q_isiR3, q_isiR4, q_isiR5, q_isiN0, q_isiN1, q_isiN2, q_isiN3, q_isiN4, q_isiN5, q_lenS, q_lenT, q_lenR, q_min2, q_max2, q_strS, q_tupP, ix_0, ix_1, ix_2, ix_3, and_self]
    simp only [c1, w_raise, w_try, w_vMS, w_vML, w_fmt, w_js, w_fj0, w_fj1, w_disp2, w_get2, w_idxC, w_split, w_par, w_unpL, w_unpV, w_dnew, w_dnewN, w_subD, w_bind, w_noX, w_ok, w_C, w_op2, w_asB, w_op3, w_and, w_or, w_not, w_test, w_bAnd, w_bOr, w_bNot, w_if, w_lif, w_tup, w_lst, w_alloc, w_vL, w_call, w_aNil, w_aCons, w_lCall, w_append, w_nil, w_lnil, w_seq, w_next, w_ret, w_set, w_expr, w_sif, w_sub, w_unp, w_fn1, w_fn2, w_fn3, w_fn4, w_fn5, w_join, w_vSrc, w_aSrc, w_lSrc, w_catLL, w_catOL, w_repL, w_sortV, w_asI, w_slE0, w_slE1, w_sl, q_srcT, q_srcS, q_srcR, q_zipT, q_slT, w_lc, w_forS, Int.toNat_natCast, v_0, v_S, List.replicate_succ, List.replicate_zero, Nat.reduceSub, List.getElem?_cons_zero, List.getElem?_cons_succ, List.set_cons_zero, List.set_cons_succ, if_true, if_false, Bool.false_eq_true, Bool.not_true, Bool.not_false, q_add, q_addT, q_addS, q_sub, q_eq, q_eqS, q_eqB, q_ne, q_neS, q_neB, q_lt, q_ltS, q_le, q_gt, q_ge, q_in1, q_nin1, q_isN, q_isnN, q_isB, q_isnB, q_isiI0, q_isiI1, q_isiI2, q_isiI3, q_isiI4, q_isiI5, q_isiB0, q_isiB1, q_isiB2, q_isiB3, q_isiB4, q_isiB5, q_isiS0, q_isiS1, q_isiS2, q_isiS3, q_isiS4, q_isiS5, q_isiT0, q_isiT1, q_isiT2, q_isiT3, q_isiT4, q_isiT5, q_isiR0, q_isiR1, q_isiR2, q_isiR3, q_isiR4, q_isiR5, q_isiN0, q_isiN1, q_isiN2, q_isiN3, q_isiN4, q_isiN5, q_lenS, q_lenT, q_lenR, q_min2, q_max2, q_strS, q_tupP, ix_0, ix_1, ix_2, ix_3, decide_true, decide_false, List.cons.injEq, reduceCtorEq, and_false, false_and, and_true, true_and, Nat.reduceEqDiff, Int.reduceLE, Int.reduceEq, Int.reduceLT]
    by_cases c2 : s = kNumber
    · simp only [c2, w_raise, w_try, w_vMS, w_vML, w_fmt, w_js, w_fj0, w_fj1, w_disp2, w_get2, w_idxC, w_split, w_par, w_unpL, w_unpV, w_dnew, w_dnewN, w_subD, w_bind, w_noX, w_ok, w_C, w_op2, w_asB, w_op3, w_and, w_or, w_not, w_test, w_bAnd, w_bOr, w_bNot, w_if, w_lif, w_tup, w_lst, w_alloc, w_vL, w_call, w_aNil, w_aCons, w_lCall, w_append, w_nil, w_lnil, w_seq, w_next, w_ret, w_set, w_expr, w_sif, w_sub, w_unp, w_fn1, w_fn2, w_fn3, w_fn4, w_fn5, w_join, w_vSrc, w_aSrc, w_lSrc, w_catLL, w_catOL, w_repL, w_sortV, w_asI, w_slE0, w_slE1, w_sl, q_srcT, q_srcS, q_srcR, q_zipT, q_slT, w_lc, w_forS, Int.toNat_natCast, v_0, v_S, List.replicate_succ, List.replicate_zero, Nat.reduceSub, List.getElem?_cons_zero, List.getElem?_cons_succ, List.set_cons_zero, List.set_cons_succ, if_true, if_false, Bool.false_eq_true, Bool.not_true, Bool.not_false, q_add, q_addT, q_addS, q_sub, q_eq, q_eqS, q_eqB, q_ne, q_neS, q_neB, q_lt, q_ltS, q_le, q_gt, q_ge, q_in1, q_nin1, q_isN, q_isnN, q_isB, q_isnB, q_isiI0, q_isiI1, q_isiI2, q_isiI3, q_isiI4, q_isiI5, q_isiB0, q_isiB1, q_isiB2, q_isiB3, q_isiB4, q_isiB5, q_isiS0, q_isiS1, q_isiS2, q_isiS3, q_isiS4, q_isiS5, q_isiT0, q_isiT1, q_isiT2, q_isiT3, q_isiT4, q_isiT5, q_isiR0, q_isiR1, q_isiR2, q_isiR3, q_isiR4, q_isiR5, q_isiN0, q_isiN1, q_isiN2, q_isiN3, q_isiN4, q_isiN5, q_lenS, q_lenT, q_lenR, q_min2, q_max2, q_strS, q_tupP, ix_0, ix_1, ix_2, ix_3, decide_true, decide_false, List.cons.injEq, reduceCtorEq, and_false, false_and, and_true, true_and, Nat.reduceEqDiff, Int.reduceLE, Int.reduceEq, Int.reduceLT, s_between hx.bas, and_self]
    simp only [c2, w_raise, w_try, w_vMS, w_vML, w_fmt, w_js, w_fj0, w_fj1, w_disp2, w_get2, w_idxC, w_split, w_par, w_unpL, w_unpV, w_dnew, w_dnewN, w_subD, w_bind, w_noX, w_ok, w_C, w_op2, w_asB, w_op3, w_and, w_or, w_not, w_test, w_bAnd, w_bOr, w_bNot, w_if, w_lif, w_tup, w_lst, w_alloc, w_vL, w_call, w_aNil, w_aCons, w_lCall, w_append, w_nil, w_lnil, w_seq, w_next, w_ret, w_set, w_expr, w_sif, w_sub, w_unp, w_fn1, w_fn2, w_fn3, w_fn4, w_fn5, w_join, w_vSrc, w_aSrc, w_lSrc, w_catLL, w_catOL, w_repL, w_sortV, w_asI, w_slE0, w_slE1, w_sl, q_srcT, q_srcS, q_srcR, q_zipT, q_slT, w_lc, w_forS, Int.toNat_natCast, v_0, v_S, List.replicate_succ, List.replicate_zero, Nat.reduceSub, List.getElem?_cons_zero, List.getElem?_cons_succ, List.set_cons_zero, List.set_cons_succ, if_true, if_false, Bool.false_eq_true, Bool.not_true, Bool.not_false, q_add, q_addT, q_addS, q_sub, q_eq, q_eqS, q_eqB, q_ne, q_neS, q_neB, q_lt, q_ltS, q_le, q_gt, q_ge, q_in1, q_nin1, q_isN, q_isnN, q_isB, q_isnB, q_isiI0, q_isiI1, q_isiI2, q_isiI3, q_isiI4, q_isiI5, q_isiB0, q_isiB1, q_isiB2, q_isiB3, q_isiB4, q_isiB5, q_isiS0, q_isiS1, q_isiS2, q_isiS3, q_isiS4, q_isiS5, q_isiT0, q_isiT1, q_isiT2, q_isiT3, q_isiT4, q_isiT5, q_isiR0, q_isiR1, q_isiR2, q_isiR3, q_isiR4, q_isiR5, q_isiN0, q_isiN1, q_isiN2, q_isiN3, q_isiN4, q_isiN5, q_lenS, q_lenT, q_lenR, q_min2, q_max2, q_strS, q_tupP, ix_0, ix_1, ix_2, ix_3, decide_true, decide_false, List.cons.injEq, reduceCtorEq, and_false, false_and, and_true, true_and, Nat.reduceEqDiff, Int.reduceLE, Int.reduceEq, Int.reduceLT]
    by_cases c3 : s = kChoice
    · simp only [c3, w_raise, w_try, w_vMS, w_vML, w_fmt, w_js, w_fj0, w_fj1, w_disp2, w_get2, w_idxC, w_split, w_par, w_unpL, w_unpV, w_dnew, w_dnewN, w_subD, w_bind, w_noX, w_ok, w_C, w_op2, w_asB, w_op3, w_and, w_or, w_not, w_test, w_bAnd, w_bOr, w_bNot, w_if, w_lif, w_tup, w_lst, w_alloc, w_vL, w_call, w_aNil, w_aCons, w_lCall, w_append, w_nil, w_lnil, w_seq, w_next, w_ret, w_set, w_expr, w_sif, w_sub, w_unp, w_fn1, w_fn2, w_fn3, w_fn4, w_fn5, w_join, w_vSrc, w_aSrc, w_lSrc, w_catLL, w_catOL, w_repL, w_sortV, w_asI, w_slE0, w_slE1, w_sl, q_srcT, q_srcS, q_srcR, q_zipT, q_slT, w_lc, w_forS, Int.toNat_natCast, v_0, v_S, List.replicate_succ, List.replicate_zero, Nat.reduceSub, List.getElem?_cons_zero, List.getElem?_cons_succ, List.set_cons_zero, List.set_cons_succ, if_true, if_false, Bool.false_eq_true, Bool.not_true, Bool.not_false, q_add, q_addT, q_addS, q_sub, q_eq, q_eqS, q_eqB, q_ne, q_neS, q_neB, q_lt, q_ltS, q_le, q_gt, q_ge, q_in1, q_nin1, q_isN, q_isnN, q_isB, q_isnB, q_isiI0, q_isiI1, q_isiI2, q_isiI3, q_isiI4, q_isiI5, q_isiB0, q_isiB1, q_isiB2, q_isiB3, q_isiB4, q_isiB5, q_isiS0, q_isiS1, q_isiS2, q_isiS3, q_isiS4, q_isiS5, q_isiT0, q_isiT1, q_isiT2, q_isiT3, q_isiT4, q_isiT5, q_isiR0, q_isiR1, q_isiR2, q_isiR3, q_isiR4, q_isiR5, q_isiN0, q_isiN1, q_isiN2, q_isiN3, q_isiN4, q_isiN5, q_lenS, q_lenT, q_lenR, q_min2, q_max2, q_strS, q_tupP, ix_0, ix_1, ix_2, ix_3, decide_true, decide_false, List.cons.injEq, reduceCtorEq, and_false, false_and, and_true, true_and, Nat.reduceEqDiff, Int.reduceLE, Int.reduceEq, Int.reduceLT, isi_tup hx.bas]
      cases x <;> simp only [isTup, w_raise, w_try, w_vMS, w_vML, w_fmt, w_js, w_fj0, w_fj1, w_disp2, w_get2, w_idxC, w_split, w_par, w_unpL, w_unpV, w_dnew, w_dnewN, w_subD, w_bind, w_noX, w_ok, w_C, w_op2, w_asB, w_op3, w_and, w_or, w_not, w_test, w_bAnd, w_bOr, w_bNot, w_if, w_lif, w_tup, w_lst, w_alloc, w_vL, w_call, w_aNil, w_aCons, w_lCall, w_append, w_nil, w_lnil, w_seq, w_next, w_ret, w_set, w_expr, w_sif, w_sub, w_unp, w_fn1, w_fn2, w_fn3, w_fn4, w_fn5, w_join, w_vSrc, w_aSrc, w_lSrc, w_catLL, w_catOL, w_repL, w_sortV, w_asI, w_slE0, w_slE1, w_sl, q_srcT, q_srcS, q_srcR, q_zipT, q_slT, w_lc, w_forS, Int.toNat_natCast, v_0, v_S, List.replicate_succ, List.replicate_zero, Nat.reduceSub, List.getElem?_cons_zero, List.getElem?_cons_succ, List.set_cons_zero, List.set_cons_succ, if_true, if_false, Bool.false_eq_true, Bool.not_true, Bool.not_false, q_add, q_addT, q_addS, q_sub, q_eq, q_eqS, q_eqB, q_ne, q_neS, q_neB, q_lt, q_ltS, q_le, q_gt, q_ge, q_in1, q_nin1, q_isN, q_isnN, q_isB, q_isnB, q_isiI0, q_isiI1, q_isiI2, q_isiI3, q_isiI4, q_isiI5, q_isiB0, q_isiB1, q_isiB2, q_isiB3, q_isiB4, q_isiB5, q_isiS0, q_isiS1, q_isiS2, q_isiS3, q_isiS4, q_isiS5, q_isiT0, q_isiT1, q_isiT2, q_isiT3, q_isiT4, q_isiT5, q_isiR0, q_isiR1, q_isiR2, q_isiR3, q_isiR4, q_isiR5, q_isiN0, q_isiN1, q_isiN2, q_isiN3, q_isiN4, q_isiN5, q_lenS, q_lenT, q_lenR, q_min2, q_max2, q_strS, q_tupP, ix_0, ix_1, ix_2, ix_3, choiceB, Bool.and_false, and_self]
      rename_i ts
      by_cases l1 : 1 ≤ ts.length
      · have d1 : (1 : Int) ≤ (ts.length : Int) := by omega
        by_cases l4 : ts.length ≤ 4
        · have d4 : (ts.length : Int) ≤ 4 := by omega
          simp only [d1, d4, w_raise, w_try, w_vMS, w_vML, w_fmt, w_js, w_fj0, w_fj1, w_disp2, w_get2, w_idxC, w_split, w_par, w_unpL, w_unpV, w_dnew, w_dnewN, w_subD, w_bind, w_noX, w_ok, w_C, w_op2, w_asB, w_op3, w_and, w_or, w_not, w_test, w_bAnd, w_bOr, w_bNot, w_if, w_lif, w_tup, w_lst, w_alloc, w_vL, w_call, w_aNil, w_aCons, w_lCall, w_append, w_nil, w_lnil, w_seq, w_next, w_ret, w_set, w_expr, w_sif, w_sub, w_unp, w_fn1, w_fn2, w_fn3, w_fn4, w_fn5, w_join, w_vSrc, w_aSrc, w_lSrc, w_catLL, w_catOL, w_repL, w_sortV, w_asI, w_slE0, w_slE1, w_sl, q_srcT, q_srcS, q_srcR, q_zipT, q_slT, w_lc, w_forS, Int.toNat_natCast, v_0, v_S, List.replicate_succ, List.replicate_zero, Nat.reduceSub, List.getElem?_cons_zero, List.getElem?_cons_succ, List.set_cons_zero, List.set_cons_succ, if_true, if_false, Bool.false_eq_true, Bool.not_true, Bool.not_false, q_add, q_addT, q_addS, q_sub, q_eq, q_eqS, q_eqB, q_ne, q_neS, q_neB, q_lt, q_ltS, q_le, q_gt, q_ge, q_in1, q_nin1, q_isN, q_isnN, q_isB, q_isnB, q_isiI0, q_isiI1, q_isiI2, q_isiI3, q_isiI4, q_isiI5, q_isiB0, q_isiB1, q_isiB2, q_isiB3, q_isiB4, q_isiB5, q_isiS0, q_isiS1, q_isiS2, q_isiS3, q_isiS4, q_isiS5, q_isiT0, q_isiT1, q_isiT2, q_isiT3, q_isiT4, q_isiT5, q_isiR0, q_isiR1, q_isiR2, q_isiR3, q_isiR4, q_isiR5, q_isiN0, q_isiN1, q_isiN2, q_isiN3, q_isiN4, q_isiN5, q_lenS, q_lenT, q_lenR, q_min2, q_max2, q_strS, q_tupP, ix_0, ix_1, ix_2, ix_3, decide_true, decide_false, List.cons.injEq, reduceCtorEq, and_false, false_and, and_true, true_and, Nat.reduceEqDiff, Int.reduceLE, Int.reduceEq, Int.reduceLT]
          have := s_choiceG (k := k + 1) (x2 := none) (x3 := none) hx l1 l4 (v0 := .tup [.str kChoice, .tup ts])
          simp only [w_raise, w_try, w_vMS, w_vML, w_fmt, w_js, w_fj0, w_fj1, w_disp2, w_get2, w_idxC, w_split, w_par, w_unpL, w_unpV, w_dnew, w_dnewN, w_subD, w_bind, w_noX, w_ok, w_C, w_op2, w_asB, w_op3, w_and, w_or, w_not, w_test, w_bAnd, w_bOr, w_bNot, w_if, w_lif, w_tup, w_lst, w_alloc, w_vL, w_call, w_aNil, w_aCons, w_lCall, w_append, w_nil, w_lnil, w_seq, w_next, w_ret, w_set, w_expr, w_sif, w_sub, w_unp, w_fn1, w_fn2, w_fn3, w_fn4, w_fn5, w_join, w_vSrc, w_aSrc, w_lSrc, w_catLL, w_catOL, w_repL, w_sortV, w_asI, w_slE0, w_slE1, w_sl, q_srcT, q_srcS, q_srcR, q_zipT, q_slT, w_lc, w_forS, Int.toNat_natCast, v_0, v_S, List.replicate_succ, List.replicate_zero, Nat.reduceSub, List.getElem?_cons_zero, List.getElem?_cons_succ, List.set_cons_zero, List.set_cons_succ, if_true, if_false, Bool.false_eq_true, Bool.not_true, Bool.not_false, q_add, q_addT, q_addS, q_sub, q_eq, q_eqS, q_eqB, q_ne, q_neS, q_neB, q_lt, q_ltS, q_le, q_gt, q_ge, q_in1, q_nin1, q_isN, q_isnN, q_isB, q_isnB, q_isiI0, q_isiI1, q_isiI2, q_isiI3, q_isiI4, q_isiI5, q_isiB0, q_isiB1, q_isiB2, q_isiB3, q_isiB4, q_isiB5, q_isiS0, q_isiS1, q_isiS2, q_isiS3, q_isiS4, q_isiS5, q_isiT0, q_isiT1, q_isiT2, q_isiT3, q_isiT4, q_isiT5, q_isiR0, q_isiR1, q_isiR2, q_isiR3, q_isiR4, q_isiR5, q_isiN0, q_isiN1, q_isiN2, q_isiN3, q_isiN4, q_isiN5, q_lenS, q_lenT, q_lenR, q_min2, q_max2, q_strS, q_tupP, ix_0, ix_1, ix_2, ix_3, choiceB, l1, l4, decide_true, decide_false, List.cons.injEq, reduceCtorEq, and_false, false_and, and_true, true_and, Nat.reduceEqDiff, Int.reduceLE, Int.reduceEq, Int.reduceLT, Bool.true_and] at this ⊢
          exact this
        · have d4 : ¬ (ts.length : Int) ≤ 4 := by omega
          simp only [d1, d4, l4, w_raise, w_try, w_vMS, w_vML, w_fmt, w_js, w_fj0, w_fj1, w_disp2, w_get2, w_idxC, w_split, w_par, w_unpL, w_unpV, w_dnew, w_dnewN, w_subD, w_bind, w_noX, w_ok, w_C, w_op2, w_asB, w_op3, w_and, w_or, w_not, w_test, w_bAnd, w_bOr, w_bNot, w_if, w_lif, w_tup, w_lst, w_alloc, w_vL, w_call, w_aNil, w_aCons, w_lCall, w_append, w_nil, w_lnil, w_seq, w_next, w_ret, w_set, w_expr, w_sif, w_sub, w_unp, w_fn1, w_fn2, w_fn3, w_fn4, w_fn5, w_join, w_vSrc, w_aSrc, w_lSrc, w_catLL, w_catOL, w_repL, w_sortV, w_asI, w_slE0, w_slE1, w_sl, q_srcT, q_srcS, q_srcR, q_zipT, q_slT, w_lc, w_forS, Int.toNat_natCast, v_0, v_S, List.replicate_succ, List.replicate_zero, Nat.reduceSub, List.getElem?_cons_zero, List.getElem?_cons_succ, List.set_cons_zero, List.set_cons_succ, if_true, if_false, Bool.false_eq_true, Bool.not_true, Bool.not_false, q_add, q_addT, q_addS, q_sub, q_eq, q_eqS, q_eqB, q_ne, q_neS, q_neB, q_lt, q_ltS, q_le, q_gt, q_ge, q_in1, q_nin1, q_isN, q_isnN, q_isB, q_isnB, q_isiI0, q_isiI1, q_isiI2, q_isiI3, q_isiI4, q_isiI5, q_isiB0, q_isiB1, q_isiB2, q_isiB3, q_isiB4, q_isiB5, q_isiS0, q_isiS1, q_isiS2, q_isiS3, q_isiS4, q_isiS5, q_isiT0, q_isiT1, q_isiT2, q_isiT3, q_isiT4, q_isiT5, q_isiR0, q_isiR1, q_isiR2, q_isiR3, q_isiR4, q_isiR5, q_isiN0, q_isiN1, q_isiN2, q_isiN3, q_isiN4, q_isiN5, q_lenS, q_lenT, q_lenR, q_min2, q_max2, q_strS, q_tupP, ix_0, ix_1, ix_2, ix_3, decide_true, decide_false, List.cons.injEq, reduceCtorEq, and_false, false_and, and_true, true_and, Nat.reduceEqDiff, Int.reduceLE, Int.reduceEq, Int.reduceLT, Bool.false_and, Bool.and_false, and_self]
      · have d1 : ¬ (1 : Int) ≤ (ts.length : Int) := by omega
        simp only [d1, l1, w_raise, w_try, w_vMS, w_vML, w_fmt, w_js, w_fj0, w_fj1, w_disp2, w_get2, w_idxC, w_split, w_par, w_unpL, w_unpV, w_dnew, w_dnewN, w_subD, w_bind, w_noX, w_ok, w_C, w_op2, w_asB, w_op3, w_and, w_or, w_not, w_test, w_bAnd, w_bOr, w_bNot, w_if, w_lif, w_tup, w_lst, w_alloc, w_vL, w_call, w_aNil, w_aCons, w_lCall, w_append, w_nil, w_lnil, w_seq, w_next, w_ret, w_set, w_expr, w_sif, w_sub, w_unp, w_fn1, w_fn2, w_fn3, w_fn4, w_fn5, w_join, w_vSrc, w_aSrc, w_lSrc, w_catLL, w_catOL, w_repL, w_sortV, w_asI, w_slE0, w_slE1, w_sl, q_srcT, q_srcS, q_srcR, q_zipT, q_slT, w_lc, w_forS, Int.toNat_natCast, v_0, v_S, List.replicate_succ, List.replicate_zero, Nat.reduceSub, List.getElem?_cons_zero, List.getElem?_cons_succ, List.set_cons_zero, List.set_cons_succ, if_true, if_false, Bool.false_eq_true, Bool.not_true, Bool.not_false, q_add, q_addT, q_addS, q_sub, q_eq, q_eqS, q_eqB, q_ne, q_neS, q_neB, q_lt, q_ltS, q_le, q_gt, q_ge, q_in1, q_nin1, q_isN, q_isnN, q_isB, q_isnB, q_isiI0, q_isiI1, q_isiI2, q_isiI3, q_isiI4, q_isiI5, q_isiB0, q_isiB1, q_isiB2, q_isiB3, q_isiB4, q_isiB5, q_isiS0, q_isiS1, q_isiS2, q_isiS3, q_isiS4, q_isiS5, q_isiT0, q_isiT1, q_isiT2, q_isiT3, q_isiT4, q_isiT5, q_isiR0, q_isiR1, q_isiR2, q_isiR3, q_isiR4, q_isiR5, q_isiN0, q_isiN1, q_isiN2, q_isiN3, q_isiN4, q_isiN5, q_lenS, q_lenT, q_lenR, q_min2, q_max2, q_strS, q_tupP, ix_0, ix_1, ix_2, ix_3, decide_true, decide_false, List.cons.injEq, reduceCtorEq, and_false, false_and, and_true, true_and, Nat.reduceEqDiff, Int.reduceLE, Int.reduceEq, Int.reduceLT, Bool.false_and, Bool.and_false, and_self]
    · simp only [c3, w_raise, w_try, w_vMS, w_vML, w_fmt, w_js, w_fj0, w_fj1, w_disp2, w_get2, w_idxC, w_split, w_par, w_unpL, w_unpV, w_dnew, w_dnewN, w_subD, w_bind, w_noX, w_ok, w_C, w_op2, w_asB, w_op3, w_and, w_or, w_not, w_test, w_bAnd, w_bOr, w_bNot, w_if, w_lif, w_tup, w_lst, w_alloc, w_vL, w_call, w_aNil, w_aCons, w_lCall, w_append, w_nil, w_lnil, w_seq, w_next, w_ret, w_set, w_expr, w_sif, w_sub, w_unp, w_fn1, w_fn2, w_fn3, w_fn4, w_fn5, w_join, w_vSrc, w_aSrc, w_lSrc, w_catLL, w_catOL, w_repL, w_sortV, w_asI, w_slE0, w_slE1, w_sl, q_srcT, q_srcS, q_srcR, q_zipT, q_slT, w_lc, w_forS, Int.toNat_natCast, v_0, v_S, List.replicate_succ, List.replicate_zero, Nat.reduceSub, List.getElem?_cons_zero, List.getElem?_cons_succ, List.set_cons_zero, List.set_cons_succ, if_true, if_false, Bool.false_eq_true, Bool.not_true, Bool.not_false, q_add, q_addT, q_addS, q_sub, q_eq, q_eqS, q_eqB, q_ne, q_neS, q_neB, q_lt, q_ltS, q_le, q_gt, q_ge, q_in1, q_nin1, q_isN, q_isnN, q_isB, q_isnB, q_isiI0, q_isiI1, q_isiI2, q_isiI3, q_isiI4, q_isiI5, q_isiB0, q_isiB1, q_isiB2, q_isiB3, q_isiB4, q_isiB5, q_isiS0, q_isiS1, q_isiS2, q_isiS3, q_isiS4, q_isiS5, q_isiT0, q_isiT1, q_isiT2, q_isiT3, q_isiT4, q_isiT5, q_isiR0, q_isiR1, q_isiR2, q_isiR3, q_isiR4, q_isiR5, q_isiN0, q_isiN1, q_isiN2, q_isiN3, q_isiN4, q_isiN5, q_lenS, q_lenT, q_lenR, q_min2, q_max2, q_strS, q_tupP, ix_0, ix_1, ix_2, ix_3, decide_true, decide_false, List.cons.injEq, reduceCtorEq, and_false, false_and, and_true, true_and, Nat.reduceEqDiff, Int.reduceLE, Int.reduceEq, Int.reduceLT, Bool.false_and, and_self]
  | [a, x, y], hd =>
    have ha := (hd.it a (by simp)).bas
    have hx := (hd.it x (by simp)).bas
    have hy := (hd.it y (by simp)).bas
    simp only [w_raise, w_try, w_vMS, w_vML, w_fmt, w_js, w_fj0, w_fj1, w_disp2, w_get2, w_idxC, w_split, w_par, w_unpL, w_unpV, w_dnew, w_dnewN, w_subD, w_bind, w_noX, w_ok, w_C, w_op2, w_asB, w_op3, w_and, w_or, w_not, w_test, w_bAnd, w_bOr, w_bNot, w_if, w_lif, w_tup, w_lst, w_alloc, w_vL, w_call, w_aNil, w_aCons, w_lCall, w_append, w_nil, w_lnil, w_seq, w_next, w_ret, w_set, w_expr, w_sif, w_sub, w_unp, w_fn1, w_fn2, w_fn3, w_fn4, w_fn5, w_join, w_vSrc, w_aSrc, w_lSrc, w_catLL, w_catOL, w_repL, w_sortV, w_asI, w_slE0, w_slE1, w_sl, q_srcT, q_srcS, q_srcR, q_zipT, q_slT, w_lc, w_forS, Int.toNat_natCast, v_0, v_S, List.replicate_succ, List.replicate_zero, Nat.reduceSub, List.getElem?_cons_zero, List.getElem?_cons_succ, List.set_cons_zero, List.set_cons_succ, if_true, if_false, Bool.false_eq_true, Bool.not_true, Bool.not_false, q_add, q_addT, q_addS, q_sub, q_eq, q_eqS, q_eqB, q_ne, q_neS, q_neB, q_lt, q_ltS, q_le, q_gt, q_ge, q_in1, q_nin1, q_isN, q_isnN, q_isB, q_isnB, q_isiI0, q_isiI1, q_isiI2, q_isiI3, q_isiI4, q_isiI5, q_isiB0, q_isiB1, q_isiB2, q_isiB3, q_isiB4, q_isiB5, q_isiS0, q_isiS1, q_isiS2, q_isiS3, q_isiS4, q_isiS5, q_isiT0, q_isiT1, q_isiT2, q_isiT3, q_isiT4, q_isiT5, q_isiR0, q_isiR1, q_isiR2, q_isiR3, q_isiR4, q_isiR5, q_isiN0, q_isiN1, q_isiN2, q_isiN3, q_isiN4, q_isiN5, q_lenS, q_lenT, q_lenR, q_min2, q_max2, q_strS, q_tupP, ix_0, ix_1, ix_2, ix_3, List.length_cons, List.length_nil, lim_0, lim_1, lim_2, lim_3, lim_4, lim_5, lim_6, lim_7, lim_8, lim_9, lim_10, lim_11, lim_12, lim_13, lim_14, lim_15, lim_16, lim_17, lim_18, lim_19, lim_20, lim_21, lim_22, lim_23, Nat.reduceAdd, Nat.reduceLeDiff, decide_true, decide_false, List.cons.injEq, reduceCtorEq, and_false, false_and, and_true, true_and, Nat.reduceEqDiff, Int.reduceLE, Int.reduceEq, Int.reduceLT, Int.cast_ofNat_Int, isi_str ha]
    cases a <;> simp only [isStr, w_raise, w_try, w_vMS, w_vML, w_fmt, w_js, w_fj0, w_fj1, w_disp2, w_get2, w_idxC, w_split, w_par, w_unpL, w_unpV, w_dnew, w_dnewN, w_subD, w_bind, w_noX, w_ok, w_C, w_op2, w_asB, w_op3, w_and, w_or, w_not, w_test, w_bAnd, w_bOr, w_bNot, w_if, w_lif, w_tup, w_lst, w_alloc, w_vL, w_call, w_aNil, w_aCons, w_lCall, w_append, w_nil, w_lnil, w_seq, w_next, w_ret, w_set, w_expr, w_sif, w_sub, w_unp, w_fn1, w_fn2, w_fn3, w_fn4, w_fn5, w_join, w_vSrc, w_aSrc, w_lSrc, w_catLL, w_catOL, w_repL, w_sortV, w_asI, w_slE0, w_slE1, w_sl, q_srcT, q_srcS, q_srcR, q_zipT, q_slT, w_lc, w_forS, Int.toNat_natCast, v_0, v_S, List.replicate_succ, List.replicate_zero, Nat.reduceSub, List.getElem?_cons_zero, List.getElem?_cons_succ, List.set_cons_zero, List.set_cons_succ, if_true, if_false, Bool.false_eq_true, Bool.not_true, Bool.not_false, q_add, q_addT, q_addS, q_sub, q_eq, q_eqS, q_eqB, q_ne, q_neS, q_neB, q_lt, q_ltS, q_le, q_gt, q_ge, q_in1, q_nin1, q_isN, q_isnN, q_isB, q_isnB, q_isiI0, q_isiI1, q_isiI2, q_isiI3, q_isiI4, q_isiI5, q_isiB0, q_isiB1, q_isiB2, q_isiB3, q_isiB4, q_isiB5, q_isiS0, q_isiS1, q_isiS2, q_isiS3, q_isiS4, q_isiS5, q_isiT0, q_isiT1, q_isiT2, q_isiT3, q_isiT4, q_isiT5, q_isiR0, q_isiR1, q_isiR2, q_isiR3, q_isiR4, q_isiR5, q_isiN0, q_isiN1, q_isiN2, q_isiN3, q_isiN4, q_isiN5, q_lenS, q_lenT, q_lenR, q_min2, q_max2, q_strS, q_tupP, ix_0, ix_1, ix_2, ix_3, List.length_cons, List.length_nil, lim_0, lim_1, lim_2, lim_3, lim_4, lim_5, lim_6, lim_7, lim_8, lim_9, lim_10, lim_11, lim_12, lim_13, lim_14, lim_15, lim_16, lim_17, lim_18, lim_19, lim_20, lim_21, lim_22, lim_23, Nat.reduceAdd, Nat.reduceLeDiff, decide_true, decide_false, List.cons.injEq, reduceCtorEq, and_false, false_and, and_true, true_and, Nat.reduceEqDiff, Int.reduceLE, Int.reduceEq, Int.reduceLT, Int.cast_ofNat_Int, and_self]
    rename_i s
    have hs := (ha.2.1 s rfl).2
    simp only [in_names hs, w_raise, w_try, w_vMS, w_vML, w_fmt, w_js, w_fj0, w_fj1, w_disp2, w_get2, w_idxC, w_split, w_par, w_unpL, w_unpV, w_dnew, w_dnewN, w_subD, w_bind, w_noX, w_ok, w_C, w_op2, w_asB, w_op3, w_and, w_or, w_not, w_test, w_bAnd, w_bOr, w_bNot, w_if, w_lif, w_tup, w_lst, w_alloc, w_vL, w_call, w_aNil, w_aCons, w_lCall, w_append, w_nil, w_lnil, w_seq, w_next, w_ret, w_set, w_expr, w_sif, w_sub, w_unp, w_fn1, w_fn2, w_fn3, w_fn4, w_fn5, w_join, w_vSrc, w_aSrc, w_lSrc, w_catLL, w_catOL, w_repL, w_sortV, w_asI, w_slE0, w_slE1, w_sl, q_srcT, q_srcS, q_srcR, q_zipT, q_slT, w_lc, w_forS, Int.toNat_natCast, v_0, v_S, List.replicate_succ, List.replicate_zero, Nat.reduceSub, List.getElem?_cons_zero, List.getElem?_cons_succ, List.set_cons_zero, List.set_cons_succ, if_true, if_false, Bool.false_eq_true, Bool.not_true, Bool.not_false, q_add, q_addT, q_addS, q_sub, q_eq, q_eqS, q_eqB, q_ne, q_neS, q_neB, q_lt, q_ltS, q_le, q_gt, q_ge, q_in1, q_nin1, q_isN, q_isnN, q_isB, q_isnB, q_isiI0, q_isiI1, q_isiI2, q_isiI3, q_isiI4, q_isiI5, q_isiB0, q_isiB1, q_isiB2, q_isiB3, q_isiB4, q_isiB5, q_isiS0, q_isiS1, q_isiS2, q_isiS3, q_isiS4, q_isiS5, q_isiT0, q_isiT1, q_isiT2, q_isiT3, q_isiT4, q_isiT5, q_isiR0, q_isiR1, q_isiR2, q_isiR3, q_isiR4, q_isiR5, q_isiN0, q_isiN1, q_isiN2, q_isiN3, q_isiN4, q_isiN5, q_lenS, q_lenT, q_lenR, q_min2, q_max2, q_strS, q_tupP, ix_0, ix_1, ix_2, ix_3]
    by_cases c : s = kDigits ∨ s = kLetters
    · simp only [c, w_raise, w_try, w_vMS, w_vML, w_fmt, w_js, w_fj0, w_fj1, w_disp2, w_get2, w_idxC, w_split, w_par, w_unpL, w_unpV, w_dnew, w_dnewN, w_subD, w_bind, w_noX, w_ok, w_C, w_op2, w_asB, w_op3, w_and, w_or, w_not, w_test, w_bAnd, w_bOr, w_bNot, w_if, w_lif, w_tup, w_lst, w_alloc, w_vL, w_call, w_aNil, w_aCons, w_lCall, w_append, w_nil, w_lnil, w_seq, w_next, w_ret, w_set, w_expr, w_sif, w_sub, w_unp, w_fn1, w_fn2, w_fn3, w_fn4, w_fn5, w_join, w_vSrc, w_aSrc, w_lSrc, w_catLL, w_catOL, w_repL, w_sortV, w_asI, w_slE0, w_slE1, w_sl, q_srcT, q_srcS, q_srcR, q_zipT, q_slT, w_lc, w_forS, Int.toNat_natCast, v_0, v_S, List.replicate_succ, List.replicate_zero, Nat.reduceSub, List.getElem?_cons_zero, List.getElem?_cons_succ, List.set_cons_zero, List.set_cons_succ, if_true, if_false, Bool.false_eq_true, Bool.not_true, Bool.not_false, q_add, q_addT, q_addS, q_sub, q_eq, q_eqS, q_eqB, q_ne, q_neS, q_neB, q_lt, q_ltS, q_le, q_gt, q_ge, q_in1, q_nin1, q_isN, q_isnN, q_isB, q_isnB, q_isiI0, q_isiI1, q_isiI2, q_isiI3, q_isiI4, q_isiI5, q_isiB0, q_isiB1, q_isiB2, q_isiB3, q_isiB4, q_isiB5, q_isiS0, q_isiS1, q_isiS2, q_isiS3, q_isiS4, q_isiS5, q_isiT0, q_isiT1, q_isiT2, q_isiT3, q_isiT4, q_isiT5, q_isiR0, q_isiR1, q_isiR2, q_isiR3, q_isiR4, q_isiR5, q_isiN0, q_isiN1, q_isiN2, q_isiN3, q_isiN4, q_isiN5, q_lenS, q_lenT, q_lenR, q_min2, q_max2, q_strS, q_tupP, ix_0, ix_1, ix_2, ix_3, decide_true, decide_false, List.cons.injEq, reduceCtorEq, and_false, false_and, and_true, true_and, Nat.reduceEqDiff, Int.reduceLE, Int.reduceEq, Int.reduceLT, s_spanG hx hy, Bool.true_and, and_self]
    · simp only [c, w_raise, w_try, w_vMS, w_vML, w_fmt, w_js, w_fj0, w_fj1, w_disp2, w_get2, w_idxC, w_split, w_par, w_unpL, w_unpV, w_dnew, w_dnewN, w_subD, w_bind, w_noX, w_ok, w_C, w_op2, w_asB, w_op3, w_and, w_or, w_not, w_test, w_bAnd, w_bOr, w_bNot, w_if, w_lif, w_tup, w_lst, w_alloc, w_vL, w_call, w_aNil, w_aCons, w_lCall, w_append, w_nil, w_lnil, w_seq, w_next, w_ret, w_set, w_expr, w_sif, w_sub, w_unp, w_fn1, w_fn2, w_fn3, w_fn4, w_fn5, w_join, w_vSrc, w_aSrc, w_lSrc, w_catLL, w_catOL, w_repL, w_sortV, w_asI, w_slE0, w_slE1, w_sl, q_srcT, q_srcS, q_srcR, q_zipT, q_slT, w_lc, w_forS, Int.toNat_natCast, v_0, v_S, List.replicate_succ, List.replicate_zero, Nat.reduceSub, List.getElem?_cons_zero, List.getElem?_cons_succ, List.set_cons_zero, List.set_cons_succ, if_true, if_false, Bool.false_eq_true, Bool.not_true, Bool.not_false, q_add, q_addT, q_addS, q_sub, q_eq, q_eqS, q_eqB, q_ne, q_neS, q_neB, q_lt, q_ltS, q_le, q_gt, q_ge, q_in1, q_nin1, q_isN, q_isnN, q_isB, q_isnB, q_isiI0, q_isiI1, q_isiI2, q_isiI3, q_isiI4, q_isiI5, q_isiB0, q_isiB1, q_isiB2, q_isiB3, q_isiB4, q_isiB5, q_isiS0, q_isiS1, q_isiS2, q_isiS3, q_isiS4, q_isiS5, q_isiT0, q_isiT1, q_isiT2, q_isiT3, q_isiT4, q_isiT5, q_isiR0, q_isiR1, q_isiR2, q_isiR3, q_isiR4, q_isiR5, q_isiN0, q_isiN1, q_isiN2, q_isiN3, q_isiN4, q_isiN5, q_lenS, q_lenT, q_lenR, q_min2, q_max2, q_strS, q_tupP, ix_0, ix_1, ix_2, ix_3, decide_true, decide_false, List.cons.injEq, reduceCtorEq, and_false, false_and, and_true, true_and, Nat.reduceEqDiff, Int.reduceLE, Int.reduceEq, Int.reduceLT, Bool.false_and, and_self]
  | a :: x :: y :: z :: r, _ =>
    have d1 : (2 : Int) ≤ ((a :: x :: y :: z :: r).length : Int) := by simp only [List.length_cons]; omega
    have d2 : ¬ ((a :: x :: y :: z :: r).length : Int) ≤ 3 := by simp only [List.length_cons]; omega
    simp only [d1, d2, w_raise, w_try, w_vMS, w_vML, w_fmt, w_js, w_fj0, w_fj1, w_disp2, w_get2, w_idxC, w_split, w_par, w_unpL, w_unpV, w_dnew, w_dnewN, w_subD, w_bind, w_noX, w_ok, w_C, w_op2, w_asB, w_op3, w_and, w_or, w_not, w_test, w_bAnd, w_bOr, w_bNot, w_if, w_lif, w_tup, w_lst, w_alloc, w_vL, w_call, w_aNil, w_aCons, w_lCall, w_append, w_nil, w_lnil, w_seq, w_next, w_ret, w_set, w_expr, w_sif, w_sub, w_unp, w_fn1, w_fn2, w_fn3, w_fn4, w_fn5, w_join, w_vSrc, w_aSrc, w_lSrc, w_catLL, w_catOL, w_repL, w_sortV, w_asI, w_slE0, w_slE1, w_sl, q_srcT, q_srcS, q_srcR, q_zipT, q_slT, w_lc, w_forS, Int.toNat_natCast, v_0, v_S, List.replicate_succ, List.replicate_zero, Nat.reduceSub, List.getElem?_cons_zero, List.getElem?_cons_succ, List.set_cons_zero, List.set_cons_succ, if_true, if_false, Bool.false_eq_true, Bool.not_true, Bool.not_false, q_add, q_addT, q_addS, q_sub, q_eq, q_eqS, q_eqB, q_ne, q_neS, q_neB, q_lt, q_ltS, q_le, q_gt, q_ge, q_in1, q_nin1, q_isN, q_isnN, q_isB, q_isnB, q_isiI0, q_isiI1, q_isiI2, q_isiI3, q_isiI4, q_isiI5, q_isiB0, q_isiB1, q_isiB2, q_isiB3, q_isiB4, q_isiB5, q_isiS0, q_isiS1, q_isiS2, q_isiS3, q_isiS4, q_isiS5, q_isiT0, q_isiT1, q_isiT2, q_isiT3, q_isiT4, q_isiT5, q_isiR0, q_isiR1, q_isiR2, q_isiR3, q_isiR4, q_isiR5, q_isiN0, q_isiN1, q_isiN2, q_isiN3, q_isiN4, q_isiN5, q_lenS, q_lenT, q_lenR, q_min2, q_max2, q_strS, q_tupP, ix_0, ix_1, ix_2, ix_3, decide_true, decide_false, List.cons.injEq, reduceCtorEq, and_false, false_and, and_true, true_and, Nat.reduceEqDiff, Int.reduceLE, Int.reduceEq, Int.reduceLT, and_self])
theorem simpleB4 {a x y z : D} {r : List D} : simpleB (.tup (a :: x :: y :: z :: r)) = false := by cases a <;> rfl
theorem s_fieldG (hd : Dp' h 3 d) : run (k + 4) I_is_field [d] h = .ok (.bl (fieldB d)) h := Ok.eq (by
  have hd2 : Dp' h 2 d := ⟨hd.1, fun ds e x hx => by
    have := hd.2 ds e x hx
    exact ⟨this.1, fun es e2 y hy => (this.2 es e2 y hy).1⟩⟩
  rw [e_is_field]
  unfold m_is_field
  simp only [w_raise, w_try, w_vMS, w_vML, w_fmt, w_js, w_fj0, w_fj1, w_disp2, w_get2, w_idxC, w_split, w_par, w_unpL, w_unpV, w_dnew, w_dnewN, w_subD, w_bind, w_noX, w_ok, w_C, w_op2, w_asB, w_op3, w_and, w_or, w_not, w_test, w_bAnd, w_bOr, w_bNot, w_if, w_lif, w_tup, w_lst, w_alloc, w_vL, w_call, w_aNil, w_aCons, w_lCall, w_append, w_nil, w_lnil, w_seq, w_next, w_ret, w_set, w_expr, w_sif, w_sub, w_unp, w_fn1, w_fn2, w_fn3, w_fn4, w_fn5, w_join, w_vSrc, w_aSrc, w_lSrc, w_catLL, w_catOL, w_repL, w_sortV, w_asI, w_slE0, w_slE1, w_sl, q_srcT, q_srcS, q_srcR, q_zipT, q_slT, w_lc, w_forS, Int.toNat_natCast, v_0, v_S, List.replicate_succ, List.replicate_zero, Nat.reduceSub, List.getElem?_cons_zero, List.getElem?_cons_succ, List.set_cons_zero, List.set_cons_succ, if_true, if_false, Bool.false_eq_true, Bool.not_true, Bool.not_false, q_add, q_addT, q_addS, q_sub, q_eq, q_eqS, q_eqB, q_ne, q_neS, q_neB, q_lt, q_ltS, q_le, q_gt, q_ge, q_in1, q_nin1, q_isN, q_isnN, q_isB, q_isnB, q_isiI0, q_isiI1, q_isiI2, q_isiI3, q_isiI4, q_isiI5, q_isiB0, q_isiB1, q_isiB2, q_isiB3, q_isiB4, q_isiB5, q_isiS0, q_isiS1, q_isiS2, q_isiS3, q_isiS4, q_isiS5, q_isiT0, q_isiT1, q_isiT2, q_isiT3, q_isiT4, q_isiT5, q_isiR0, q_isiR1, q_isiR2, q_isiR3, q_isiR4, q_isiR5, q_isiN0, q_isiN1, q_isiN2, q_isiN3, q_isiN4, q_isiN5, q_lenS, q_lenT, q_lenR, q_min2, q_max2, q_strS, q_tupP, ix_0, ix_1, ix_2, ix_3, isi_tup hd.bas]
  cases d <;> simp only [isTup, w_raise, w_try, w_vMS, w_vML, w_fmt, w_js, w_fj0, w_fj1, w_disp2, w_get2, w_idxC, w_split, w_par, w_unpL, w_unpV, w_dnew, w_dnewN, w_subD, w_bind, w_noX, w_ok, w_C, w_op2, w_asB, w_op3, w_and, w_or, w_not, w_test, w_bAnd, w_bOr, w_bNot, w_if, w_lif, w_tup, w_lst, w_alloc, w_vL, w_call, w_aNil, w_aCons, w_lCall, w_append, w_nil, w_lnil, w_seq, w_next, w_ret, w_set, w_expr, w_sif, w_sub, w_unp, w_fn1, w_fn2, w_fn3, w_fn4, w_fn5, w_join, w_vSrc, w_aSrc, w_lSrc, w_catLL, w_catOL, w_repL, w_sortV, w_asI, w_slE0, w_slE1, w_sl, q_srcT, q_srcS, q_srcR, q_zipT, q_slT, w_lc, w_forS, Int.toNat_natCast, v_0, v_S, List.replicate_succ, List.replicate_zero, Nat.reduceSub, List.getElem?_cons_zero, List.getElem?_cons_succ, List.set_cons_zero, List.set_cons_succ, if_true, if_false, Bool.false_eq_true, Bool.not_true, Bool.not_false, q_add, q_addT, q_addS, q_sub, q_eq, q_eqS, q_eqB, q_ne, q_neS, q_neB, q_lt, q_ltS, q_le, q_gt, q_ge, q_in1, q_nin1, q_isN, q_isnN, q_isB, q_isnB, q_isiI0, q_isiI1, q_isiI2, q_isiI3, q_isiI4, q_isiI5, q_isiB0, q_isiB1, q_isiB2, q_isiB3, q_isiB4, q_isiB5, q_isiS0, q_isiS1, q_isiS2, q_isiS3, q_isiS4, q_isiS5, q_isiT0, q_isiT1, q_isiT2, q_isiT3, q_isiT4, q_isiT5, q_isiR0, q_isiR1, q_isiR2, q_isiR3, q_isiR4, q_isiR5, q_isiN0, q_isiN1, q_isiN2, q_isiN3, q_isiN4, q_isiN5, q_lenS, q_lenT, q_lenR, q_min2, q_max2, q_strS, q_tupP, ix_0, ix_1, ix_2, ix_3] <;> try (simp only [s_simpleG hd2, fieldB, w_raise, w_try, w_vMS, w_vML, w_fmt, w_js, w_fj0, w_fj1, w_disp2, w_get2, w_idxC, w_split, w_par, w_unpL, w_unpV, w_dnew, w_dnewN, w_subD, w_bind, w_noX, w_ok, w_C, w_op2, w_asB, w_op3, w_and, w_or, w_not, w_test, w_bAnd, w_bOr, w_bNot, w_if, w_lif, w_tup, w_lst, w_alloc, w_vL, w_call, w_aNil, w_aCons, w_lCall, w_append, w_nil, w_lnil, w_seq, w_next, w_ret, w_set, w_expr, w_sif, w_sub, w_unp, w_fn1, w_fn2, w_fn3, w_fn4, w_fn5, w_join, w_vSrc, w_aSrc, w_lSrc, w_catLL, w_catOL, w_repL, w_sortV, w_asI, w_slE0, w_slE1, w_sl, q_srcT, q_srcS, q_srcR, q_zipT, q_slT, w_lc, w_forS, Int.toNat_natCast, v_0, v_S, List.replicate_succ, List.replicate_zero, Nat.reduceSub, List.getElem?_cons_zero, List.getElem?_cons_succ, List.set_cons_zero, List.set_cons_succ, if_true, if_false, Bool.false_eq_true, Bool.not_true, Bool.not_false, q_add, q_addT, q_addS, q_sub, q_eq, q_eqS, q_eqB, q_ne, q_neS, q_neB, q_lt, q_ltS, q_le, q_gt, q_ge, q_in1, q_nin1, q_isN, q_isnN, q_isB, q_isnB, q_isiI0, q_isiI1, q_isiI2, q_isiI3, q_isiI4, q_isiI5, q_isiB0, q_isiB1, q_isiB2, q_isiB3, q_isiB4, q_isiB5, q_isiS0, q_isiS1, q_isiS2, q_isiS3, q_isiS4, q_isiS5, q_isiT0, q_isiT1, q_isiT2, q_isiT3, q_isiT4, q_isiT5, q_isiR0, q_isiR1, q_isiR2, q_isiR3, q_isiR4, q_isiR5, q_isiN0, q_isiN1, q_isiN2, q_isiN3, q_isiN4, q_isiN5, q_lenS, q_lenT, q_lenR, q_min2, q_max2, q_strS, q_tupP, ix_0, ix_1, ix_2, ix_3, and_self]; done)
  rename_i ds
  match ds, hd, hd2 with
  | [], _, hd2 => simp only [w_raise, w_try, w_vMS, w_vML, w_fmt, w_js, w_fj0, w_fj1, w_disp2, w_get2, w_idxC, w_split, w_par, w_unpL, w_unpV, w_dnew, w_dnewN, w_subD, w_bind, w_noX, w_ok, w_C, w_op2, w_asB, w_op3, w_and, w_or, w_not, w_test, w_bAnd, w_bOr, w_bNot, w_if, w_lif, w_tup, w_lst, w_alloc, w_vL, w_call, w_aNil, w_aCons, w_lCall, w_append, w_nil, w_lnil, w_seq, w_next, w_ret, w_set, w_expr, w_sif, w_sub, w_unp, w_fn1, w_fn2, w_fn3, w_fn4, w_fn5, w_join, w_vSrc, w_aSrc, w_lSrc, w_catLL, w_catOL, w_repL, w_sortV, w_asI, w_slE0, w_slE1, w_sl, q_srcT, q_srcS, q_srcR, q_zipT, q_slT, w_lc, w_forS, Int.toNat_natCast, v_0, v_S, List.replicate_succ, List.replicate_zero, Nat.reduceSub, List.getElem?_cons_zero, List.getElem?_cons_succ, List.set_cons_zero, List.set_cons_succ, if_true, if_false, Bool.false_eq_true, Bool.not_true, Bool.not_false, q_add, q_addT, q_addS, q_sub, q_eq, q_eqS, q_eqB, q_ne, q_neS, q_neB, q_lt, q_ltS, q_le, q_gt, q_ge, q_in1, q_nin1, q_isN, q_isnN, q_isB, q_isnB, q_isiI0, q_isiI1, q_isiI2, q_isiI3, q_isiI4, q_isiI5, q_isiB0, q_isiB1, q_isiB2, q_isiB3, q_isiB4, q_isiB5, q_isiS0, q_isiS1, q_isiS2, q_isiS3, q_isiS4, q_isiS5, q_isiT0, q_isiT1, q_isiT2, q_isiT3, q_isiT4, q_isiT5, q_isiR0, q_isiR1, q_isiR2, q_isiR3, q_isiR4, q_isiR5, q_isiN0, q_isiN1, q_isiN2, q_isiN3, q_isiN4, q_isiN5, q_lenS, q_lenT, q_lenR, q_min2, q_max2, q_strS, q_tupP, ix_0, ix_1, ix_2, ix_3, List.length_cons, List.length_nil, lim_0, lim_1, lim_2, lim_3, lim_4, lim_5, lim_6, lim_7, lim_8, lim_9, lim_10, lim_11, lim_12, lim_13, lim_14, lim_15, lim_16, lim_17, lim_18, lim_19, lim_20, lim_21, lim_22, lim_23, Nat.reduceAdd, Nat.reduceLeDiff, decide_true, decide_false, List.cons.injEq, reduceCtorEq, and_false, false_and, and_true, true_and, Nat.reduceEqDiff, Int.reduceLE, Int.reduceEq, Int.reduceLT, Int.cast_ofNat_Int, s_simpleG hd2, fieldB, and_self]
  | [a], _, hd2 => simp only [w_raise, w_try, w_vMS, w_vML, w_fmt, w_js, w_fj0, w_fj1, w_disp2, w_get2, w_idxC, w_split, w_par, w_unpL, w_unpV, w_dnew, w_dnewN, w_subD, w_bind, w_noX, w_ok, w_C, w_op2, w_asB, w_op3, w_and, w_or, w_not, w_test, w_bAnd, w_bOr, w_bNot, w_if, w_lif, w_tup, w_lst, w_alloc, w_vL, w_call, w_aNil, w_aCons, w_lCall, w_append, w_nil, w_lnil, w_seq, w_next, w_ret, w_set, w_expr, w_sif, w_sub, w_unp, w_fn1, w_fn2, w_fn3, w_fn4, w_fn5, w_join, w_vSrc, w_aSrc, w_lSrc, w_catLL, w_catOL, w_repL, w_sortV, w_asI, w_slE0, w_slE1, w_sl, q_srcT, q_srcS, q_srcR, q_zipT, q_slT, w_lc, w_forS, Int.toNat_natCast, v_0, v_S, List.replicate_succ, List.replicate_zero, Nat.reduceSub, List.getElem?_cons_zero, List.getElem?_cons_succ, List.set_cons_zero, List.set_cons_succ, if_true, if_false, Bool.false_eq_true, Bool.not_true, Bool.not_false, q_add, q_addT, q_addS, q_sub, q_eq, q_eqS, q_eqB, q_ne, q_neS, q_neB, q_lt, q_ltS, q_le, q_gt, q_ge, q_in1, q_nin1, q_isN, q_isnN, q_isB, q_isnB, q_isiI0, q_isiI1, q_isiI2, q_isiI3, q_isiI4, q_isiI5, q_isiB0, q_isiB1, q_isiB2, q_isiB3, q_isiB4, q_isiB5, q_isiS0, q_isiS1, q_isiS2, q_isiS3, q_isiS4, q_isiS5, q_isiT0, q_isiT1, q_isiT2, q_isiT3, q_isiT4, q_isiT5, q_isiR0, q_isiR1, q_isiR2, q_isiR3, q_isiR4, q_isiR5, q_isiN0, q_isiN1, q_isiN2, q_isiN3, q_isiN4, q_isiN5, q_lenS, q_lenT, q_lenR, q_min2, q_max2, q_strS, q_tupP, ix_0, ix_1, ix_2, ix_3, List.length_cons, List.length_nil, lim_0, lim_1, lim_2, lim_3, lim_4, lim_5, lim_6, lim_7, lim_8, lim_9, lim_10, lim_11, lim_12, lim_13, lim_14, lim_15, lim_16, lim_17, lim_18, lim_19, lim_20, lim_21, lim_22, lim_23, Nat.reduceAdd, Nat.reduceLeDiff, decide_true, decide_false, List.cons.injEq, reduceCtorEq, and_false, false_and, and_true, true_and, Nat.reduceEqDiff, Int.reduceLE, Int.reduceEq, Int.reduceLT, Int.cast_ofNat_Int, s_simpleG hd2, fieldB, and_self]
  | [a, b], _, hd2 => simp only [w_raise, w_try, w_vMS, w_vML, w_fmt, w_js, w_fj0, w_fj1, w_disp2, w_get2, w_idxC, w_split, w_par, w_unpL, w_unpV, w_dnew, w_dnewN, w_subD, w_bind, w_noX, w_ok, w_C, w_op2, w_asB, w_op3, w_and, w_or, w_not, w_test, w_bAnd, w_bOr, w_bNot, w_if, w_lif, w_tup, w_lst, w_alloc, w_vL, w_call, w_aNil, w_aCons, w_lCall, w_append, w_nil, w_lnil, w_seq, w_next, w_ret, w_set, w_expr, w_sif, w_sub, w_unp, w_fn1, w_fn2, w_fn3, w_fn4, w_fn5, w_join, w_vSrc, w_aSrc, w_lSrc, w_catLL, w_catOL, w_repL, w_sortV, w_asI, w_slE0, w_slE1, w_sl, q_srcT, q_srcS, q_srcR, q_zipT, q_slT, w_lc, w_forS, Int.toNat_natCast, v_0, v_S, List.replicate_succ, List.replicate_zero, Nat.reduceSub, List.getElem?_cons_zero, List.getElem?_cons_succ, List.set_cons_zero, List.set_cons_succ, if_true, if_false, Bool.false_eq_true, Bool.not_true, Bool.not_false, q_add, q_addT, q_addS, q_sub, q_eq, q_eqS, q_eqB, q_ne, q_neS, q_neB, q_lt, q_ltS, q_le, q_gt, q_ge, q_in1, q_nin1, q_isN, q_isnN, q_isB, q_isnB, q_isiI0, q_isiI1, q_isiI2, q_isiI3, q_isiI4, q_isiI5, q_isiB0, q_isiB1, q_isiB2, q_isiB3, q_isiB4, q_isiB5, q_isiS0, q_isiS1, q_isiS2, q_isiS3, q_isiS4, q_isiS5, q_isiT0, q_isiT1, q_isiT2, q_isiT3, q_isiT4, q_isiT5, q_isiR0, q_isiR1, q_isiR2, q_isiR3, q_isiR4, q_isiR5, q_isiN0, q_isiN1, q_isiN2, q_isiN3, q_isiN4, q_isiN5, q_lenS, q_lenT, q_lenR, q_min2, q_max2, q_strS, q_tupP, ix_0, ix_1, ix_2, ix_3, List.length_cons, List.length_nil, lim_0, lim_1, lim_2, lim_3, lim_4, lim_5, lim_6, lim_7, lim_8, lim_9, lim_10, lim_11, lim_12, lim_13, lim_14, lim_15, lim_16, lim_17, lim_18, lim_19, lim_20, lim_21, lim_22, lim_23, Nat.reduceAdd, Nat.reduceLeDiff, decide_true, decide_false, List.cons.injEq, reduceCtorEq, and_false, false_and, and_true, true_and, Nat.reduceEqDiff, Int.reduceLE, Int.reduceEq, Int.reduceLT, Int.cast_ofNat_Int, s_simpleG hd2, fieldB, and_self]
  | [a, b, c], _, hd2 => simp only [w_raise, w_try, w_vMS, w_vML, w_fmt, w_js, w_fj0, w_fj1, w_disp2, w_get2, w_idxC, w_split, w_par, w_unpL, w_unpV, w_dnew, w_dnewN, w_subD, w_bind, w_noX, w_ok, w_C, w_op2, w_asB, w_op3, w_and, w_or, w_not, w_test, w_bAnd, w_bOr, w_bNot, w_if, w_lif, w_tup, w_lst, w_alloc, w_vL, w_call, w_aNil, w_aCons, w_lCall, w_append, w_nil, w_lnil, w_seq, w_next, w_ret, w_set, w_expr, w_sif, w_sub, w_unp, w_fn1, w_fn2, w_fn3, w_fn4, w_fn5, w_join, w_vSrc, w_aSrc, w_lSrc, w_catLL, w_catOL, w_repL, w_sortV, w_asI, w_slE0, w_slE1, w_sl, q_srcT, q_srcS, q_srcR, q_zipT, q_slT, w_lc, w_forS, Int.toNat_natCast, v_0, v_S, List.replicate_succ, List.replicate_zero, Nat.reduceSub, List.getElem?_cons_zero, List.getElem?_cons_succ, List.set_cons_zero, List.set_cons_succ, if_true, if_false, Bool.false_eq_true, Bool.not_true, Bool.not_false, q_add, q_addT, q_addS, q_sub, q_eq, q_eqS, q_eqB, q_ne, q_neS, q_neB, q_lt, q_ltS, q_le, q_gt, q_ge, q_in1, q_nin1, q_isN, q_isnN, q_isB, q_isnB, q_isiI0, q_isiI1, q_isiI2, q_isiI3, q_isiI4, q_isiI5, q_isiB0, q_isiB1, q_isiB2, q_isiB3, q_isiB4, q_isiB5, q_isiS0, q_isiS1, q_isiS2, q_isiS3, q_isiS4, q_isiS5, q_isiT0, q_isiT1, q_isiT2, q_isiT3, q_isiT4, q_isiT5, q_isiR0, q_isiR1, q_isiR2, q_isiR3, q_isiR4, q_isiR5, q_isiN0, q_isiN1, q_isiN2, q_isiN3, q_isiN4, q_isiN5, q_lenS, q_lenT, q_lenR, q_min2, q_max2, q_strS, q_tupP, ix_0, ix_1, ix_2, ix_3, List.length_cons, List.length_nil, lim_0, lim_1, lim_2, lim_3, lim_4, lim_5, lim_6, lim_7, lim_8, lim_9, lim_10, lim_11, lim_12, lim_13, lim_14, lim_15, lim_16, lim_17, lim_18, lim_19, lim_20, lim_21, lim_22, lim_23, Nat.reduceAdd, Nat.reduceLeDiff, decide_true, decide_false, List.cons.injEq, reduceCtorEq, and_false, false_and, and_true, true_and, Nat.reduceEqDiff, Int.reduceLE, Int.reduceEq, Int.reduceLT, Int.cast_ofNat_Int, s_simpleG hd2, fieldB, and_self]
  | [a, x, y, z], hd, hd2 =>
    have ha := (hd.it a (by simp)).bas
    simp only [w_raise, w_try, w_vMS, w_vML, w_fmt, w_js, w_fj0, w_fj1, w_disp2, w_get2, w_idxC, w_split, w_par, w_unpL, w_unpV, w_dnew, w_dnewN, w_subD, w_bind, w_noX, w_ok, w_C, w_op2, w_asB, w_op3, w_and, w_or, w_not, w_test, w_bAnd, w_bOr, w_bNot, w_if, w_lif, w_tup, w_lst, w_alloc, w_vL, w_call, w_aNil, w_aCons, w_lCall, w_append, w_nil, w_lnil, w_seq, w_next, w_ret, w_set, w_expr, w_sif, w_sub, w_unp, w_fn1, w_fn2, w_fn3, w_fn4, w_fn5, w_join, w_vSrc, w_aSrc, w_lSrc, w_catLL, w_catOL, w_repL, w_sortV, w_asI, w_slE0, w_slE1, w_sl, q_srcT, q_srcS, q_srcR, q_zipT, q_slT, w_lc, w_forS, Int.toNat_natCast, v_0, v_S, List.replicate_succ, List.replicate_zero, Nat.reduceSub, List.getElem?_cons_zero, List.getElem?_cons_succ, List.set_cons_zero, List.set_cons_succ, if_true, if_false, Bool.false_eq_true, Bool.not_true, Bool.not_false, q_add, q_addT, q_addS, q_sub, q_eq, q_eqS, q_eqB, q_ne, q_neS, q_neB, q_lt, q_ltS, q_le, q_gt, q_ge, q_in1, q_nin1, q_isN, q_isnN, q_isB, q_isnB, q_isiI0, q_isiI1, q_isiI2, q_isiI3, q_isiI4, q_isiI5, q_isiB0, q_isiB1, q_isiB2, q_isiB3, q_isiB4, q_isiB5, q_isiS0, q_isiS1, q_isiS2, q_isiS3, q_isiS4, q_isiS5, q_isiT0, q_isiT1, q_isiT2, q_isiT3, q_isiT4, q_isiT5, q_isiR0, q_isiR1, q_isiR2, q_isiR3, q_isiR4, q_isiR5, q_isiN0, q_isiN1, q_isiN2, q_isiN3, q_isiN4, q_isiN5, q_lenS, q_lenT, q_lenR, q_min2, q_max2, q_strS, q_tupP, ix_0, ix_1, ix_2, ix_3, List.length_cons, List.length_nil, lim_0, lim_1, lim_2, lim_3, lim_4, lim_5, lim_6, lim_7, lim_8, lim_9, lim_10, lim_11, lim_12, lim_13, lim_14, lim_15, lim_16, lim_17, lim_18, lim_19, lim_20, lim_21, lim_22, lim_23, Nat.reduceAdd, Nat.reduceLeDiff, decide_true, decide_false, List.cons.injEq, reduceCtorEq, and_false, false_and, and_true, true_and, Nat.reduceEqDiff, Int.reduceLE, Int.reduceEq, Int.reduceLT, Int.cast_ofNat_Int, isi_str ha]
    cases a <;> simp only [isStr, w_raise, w_try, w_vMS, w_vML, w_fmt, w_js, w_fj0, w_fj1, w_disp2, w_get2, w_idxC, w_split, w_par, w_unpL, w_unpV, w_dnew, w_dnewN, w_subD, w_bind, w_noX, w_ok, w_C, w_op2, w_asB, w_op3, w_and, w_or, w_not, w_test, w_bAnd, w_bOr, w_bNot, w_if, w_lif, w_tup, w_lst, w_alloc, w_vL, w_call, w_aNil, w_aCons, w_lCall, w_append, w_nil, w_lnil, w_seq, w_next, w_ret, w_set, w_expr, w_sif, w_sub, w_unp, w_fn1, w_fn2, w_fn3, w_fn4, w_fn5, w_join, w_vSrc, w_aSrc, w_lSrc, w_catLL, w_catOL, w_repL, w_sortV, w_asI, w_slE0, w_slE1, w_sl, q_srcT, q_srcS, q_srcR, q_zipT, q_slT, w_lc, w_forS, Int.toNat_natCast, v_0, v_S, List.replicate_succ, List.replicate_zero, Nat.reduceSub, List.getElem?_cons_zero, List.getElem?_cons_succ, List.set_cons_zero, List.set_cons_succ, if_true, if_false, Bool.false_eq_true, Bool.not_true, Bool.not_false, q_add, q_addT, q_addS, q_sub, q_eq, q_eqS, q_eqB, q_ne, q_neS, q_neB, q_lt, q_ltS, q_le, q_gt, q_ge, q_in1, q_nin1, q_isN, q_isnN, q_isB, q_isnB, q_isiI0, q_isiI1, q_isiI2, q_isiI3, q_isiI4, q_isiI5, q_isiB0, q_isiB1, q_isiB2, q_isiB3, q_isiB4, q_isiB5, q_isiS0, q_isiS1, q_isiS2, q_isiS3, q_isiS4, q_isiS5, q_isiT0, q_isiT1, q_isiT2, q_isiT3, q_isiT4, q_isiT5, q_isiR0, q_isiR1, q_isiR2, q_isiR3, q_isiR4, q_isiR5, q_isiN0, q_isiN1, q_isiN2, q_isiN3, q_isiN4, q_isiN5, q_lenS, q_lenT, q_lenR, q_min2, q_max2, q_strS, q_tupP, ix_0, ix_1, ix_2, ix_3, List.length_cons, List.length_nil, lim_0, lim_1, lim_2, lim_3, lim_4, lim_5, lim_6, lim_7, lim_8, lim_9, lim_10, lim_11, lim_12, lim_13, lim_14, lim_15, lim_16, lim_17, lim_18, lim_19, lim_20, lim_21, lim_22, lim_23, Nat.reduceAdd, Nat.reduceLeDiff, decide_true, decide_false, List.cons.injEq, reduceCtorEq, and_false, false_and, and_true, true_and, Nat.reduceEqDiff, Int.reduceLE, Int.reduceEq, Int.reduceLT, Int.cast_ofNat_Int, s_simpleG hd2, fieldB, simpleB4, and_self]
    rename_i s
    by_cases c : s = kRepeat
    · simp only [c, w_raise, w_try, w_vMS, w_vML, w_fmt, w_js, w_fj0, w_fj1, w_disp2, w_get2, w_idxC, w_split, w_par, w_unpL, w_unpV, w_dnew, w_dnewN, w_subD, w_bind, w_noX, w_ok, w_C, w_op2, w_asB, w_op3, w_and, w_or, w_not, w_test, w_bAnd, w_bOr, w_bNot, w_if, w_lif, w_tup, w_lst, w_alloc, w_vL, w_call, w_aNil, w_aCons, w_lCall, w_append, w_nil, w_lnil, w_seq, w_next, w_ret, w_set, w_expr, w_sif, w_sub, w_unp, w_fn1, w_fn2, w_fn3, w_fn4, w_fn5, w_join, w_vSrc, w_aSrc, w_lSrc, w_catLL, w_catOL, w_repL, w_sortV, w_asI, w_slE0, w_slE1, w_sl, q_srcT, q_srcS, q_srcR, q_zipT, q_slT, w_lc, w_forS, Int.toNat_natCast, v_0, v_S, List.replicate_succ, List.replicate_zero, Nat.reduceSub, List.getElem?_cons_zero, List.getElem?_cons_succ, List.set_cons_zero, List.set_cons_succ, if_true, if_false, Bool.false_eq_true, Bool.not_true, Bool.not_false, q_add, q_addT, q_addS, q_sub, q_eq, q_eqS, q_eqB, q_ne, q_neS, q_neB, q_lt, q_ltS, q_le, q_gt, q_ge, q_in1, q_nin1, q_isN, q_isnN, q_isB, q_isnB, q_isiI0, q_isiI1, q_isiI2, q_isiI3, q_isiI4, q_isiI5, q_isiB0, q_isiB1, q_isiB2, q_isiB3, q_isiB4, q_isiB5, q_isiS0, q_isiS1, q_isiS2, q_isiS3, q_isiS4, q_isiS5, q_isiT0, q_isiT1, q_isiT2, q_isiT3, q_isiT4, q_isiT5, q_isiR0, q_isiR1, q_isiR2, q_isiR3, q_isiR4, q_isiR5, q_isiN0, q_isiN1, q_isiN2, q_isiN3, q_isiN4, q_isiN5, q_lenS, q_lenT, q_lenR, q_min2, q_max2, q_strS, q_tupP, ix_0, ix_1, ix_2, ix_3, decide_true, decide_false, List.cons.injEq, reduceCtorEq, and_false, false_and, and_true, true_and, Nat.reduceEqDiff, Int.reduceLE, Int.reduceEq, Int.reduceLT, s_simpleG (hd.it x (by simp)), Bool.true_and]
      cases e : simpleB x with
      | false => simp only [w_raise, w_try, w_vMS, w_vML, w_fmt, w_js, w_fj0, w_fj1, w_disp2, w_get2, w_idxC, w_split, w_par, w_unpL, w_unpV, w_dnew, w_dnewN, w_subD, w_bind, w_noX, w_ok, w_C, w_op2, w_asB, w_op3, w_and, w_or, w_not, w_test, w_bAnd, w_bOr, w_bNot, w_if, w_lif, w_tup, w_lst, w_alloc, w_vL, w_call, w_aNil, w_aCons, w_lCall, w_append, w_nil, w_lnil, w_seq, w_next, w_ret, w_set, w_expr, w_sif, w_sub, w_unp, w_fn1, w_fn2, w_fn3, w_fn4, w_fn5, w_join, w_vSrc, w_aSrc, w_lSrc, w_catLL, w_catOL, w_repL, w_sortV, w_asI, w_slE0, w_slE1, w_sl, q_srcT, q_srcS, q_srcR, q_zipT, q_slT, w_lc, w_forS, Int.toNat_natCast, v_0, v_S, List.replicate_succ, List.replicate_zero, Nat.reduceSub, List.getElem?_cons_zero, List.getElem?_cons_succ, List.set_cons_zero, List.set_cons_succ, if_true, if_false, Bool.false_eq_true, Bool.not_true, Bool.not_false, q_add, q_addT, q_addS, q_sub, q_eq, q_eqS, q_eqB, q_ne, q_neS, q_neB, q_lt, q_ltS, q_le, q_gt, q_ge, q_in1, q_nin1, q_isN, q_isnN, q_isB, q_isnB, q_isiI0, q_isiI1, q_isiI2, q_isiI3, q_isiI4, q_isiI5, q_isiB0, q_isiB1, q_isiB2, q_isiB3, q_isiB4, q_isiB5, q_isiS0, q_isiS1, q_isiS2, q_isiS3, q_isiS4, q_isiS5, q_isiT0, q_isiT1, q_isiT2, q_isiT3, q_isiT4, q_isiT5, q_isiR0, q_isiR1, q_isiR2, q_isiR3, q_isiR4, q_isiR5, q_isiN0, q_isiN1, q_isiN2, q_isiN3, q_isiN4, q_isiN5, q_lenS, q_lenT, q_lenR, q_min2, q_max2, q_strS, q_tupP, ix_0, ix_1, ix_2, ix_3, Bool.false_and, and_self]
      | true => simp only [w_raise, w_try, w_vMS, w_vML, w_fmt, w_js, w_fj0, w_fj1, w_disp2, w_get2, w_idxC, w_split, w_par, w_unpL, w_unpV, w_dnew, w_dnewN, w_subD, w_bind, w_noX, w_ok, w_C, w_op2, w_asB, w_op3, w_and, w_or, w_not, w_test, w_bAnd, w_bOr, w_bNot, w_if, w_lif, w_tup, w_lst, w_alloc, w_vL, w_call, w_aNil, w_aCons, w_lCall, w_append, w_nil, w_lnil, w_seq, w_next, w_ret, w_set, w_expr, w_sif, w_sub, w_unp, w_fn1, w_fn2, w_fn3, w_fn4, w_fn5, w_join, w_vSrc, w_aSrc, w_lSrc, w_catLL, w_catOL, w_repL, w_sortV, w_asI, w_slE0, w_slE1, w_sl, q_srcT, q_srcS, q_srcR, q_zipT, q_slT, w_lc, w_forS, Int.toNat_natCast, v_0, v_S, List.replicate_succ, List.replicate_zero, Nat.reduceSub, List.getElem?_cons_zero, List.getElem?_cons_succ, List.set_cons_zero, List.set_cons_succ, if_true, if_false, Bool.false_eq_true, Bool.not_true, Bool.not_false, q_add, q_addT, q_addS, q_sub, q_eq, q_eqS, q_eqB, q_ne, q_neS, q_neB, q_lt, q_ltS, q_le, q_gt, q_ge, q_in1, q_nin1, q_isN, q_isnN, q_isB, q_isnB, q_isiI0, q_isiI1, q_isiI2, q_isiI3, q_isiI4, q_isiI5, q_isiB0, q_isiB1, q_isiB2, q_isiB3, q_isiB4, q_isiB5, q_isiS0, q_isiS1, q_isiS2, q_isiS3, q_isiS4, q_isiS5, q_isiT0, q_isiT1, q_isiT2, q_isiT3, q_isiT4, q_isiT5, q_isiR0, q_isiR1, q_isiR2, q_isiR3, q_isiR4, q_isiR5, q_isiN0, q_isiN1, q_isiN2, q_isiN3, q_isiN4, q_isiN5, q_lenS, q_lenT, q_lenR, q_min2, q_max2, q_strS, q_tupP, ix_0, ix_1, ix_2, ix_3, s_spanG (hd.it y (by simp)).bas (hd.it z (by simp)).bas, Bool.true_and, and_self]
    · simp only [c, w_raise, w_try, w_vMS, w_vML, w_fmt, w_js, w_fj0, w_fj1, w_disp2, w_get2, w_idxC, w_split, w_par, w_unpL, w_unpV, w_dnew, w_dnewN, w_subD, w_bind, w_noX, w_ok, w_C, w_op2, w_asB, w_op3, w_and, w_or, w_not, w_test, w_bAnd, w_bOr, w_bNot, w_if, w_lif, w_tup, w_lst, w_alloc, w_vL, w_call, w_aNil, w_aCons, w_lCall, w_append, w_nil, w_lnil, w_seq, w_next, w_ret, w_set, w_expr, w_sif, w_sub, w_unp, w_fn1, w_fn2, w_fn3, w_fn4, w_fn5, w_join, w_vSrc, w_aSrc, w_lSrc, w_catLL, w_catOL, w_repL, w_sortV, w_asI, w_slE0, w_slE1, w_sl, q_srcT, q_srcS, q_srcR, q_zipT, q_slT, w_lc, w_forS, Int.toNat_natCast, v_0, v_S, List.replicate_succ, List.replicate_zero, Nat.reduceSub, List.getElem?_cons_zero, List.getElem?_cons_succ, List.set_cons_zero, List.set_cons_succ, if_true, if_false, Bool.false_eq_true, Bool.not_true, Bool.not_false, q_add, q_addT, q_addS, q_sub, q_eq, q_eqS, q_eqB, q_ne, q_neS, q_neB, q_lt, q_ltS, q_le, q_gt, q_ge, q_in1, q_nin1, q_isN, q_isnN, q_isB, q_isnB, q_isiI0, q_isiI1, q_isiI2, q_isiI3, q_isiI4, q_isiI5, q_isiB0, q_isiB1, q_isiB2, q_isiB3, q_isiB4, q_isiB5, q_isiS0, q_isiS1, q_isiS2, q_isiS3, q_isiS4, q_isiS5, q_isiT0, q_isiT1, q_isiT2, q_isiT3, q_isiT4, q_isiT5, q_isiR0, q_isiR1, q_isiR2, q_isiR3, q_isiR4, q_isiR5, q_isiN0, q_isiN1, q_isiN2, q_isiN3, q_isiN4, q_isiN5, q_lenS, q_lenT, q_lenR, q_min2, q_max2, q_strS, q_tupP, ix_0, ix_1, ix_2, ix_3, decide_true, decide_false, List.cons.injEq, reduceCtorEq, and_false, false_and, and_true, true_and, Nat.reduceEqDiff, Int.reduceLE, Int.reduceEq, Int.reduceLT, s_simpleG hd2, simpleB4, Bool.false_and, and_self]
  | a :: b :: c :: e :: f :: r, _, hd2 =>
    have d1 : ¬ ((a :: b :: c :: e :: f :: r).length : Int) = 4 := by simp only [List.length_cons]; omega
    have fb : fieldB (.tup (a :: b :: c :: e :: f :: r)) = false := by
      have e : fieldB (.tup (a :: b :: c :: e :: f :: r)) = simpleB (.tup (a :: b :: c :: e :: f :: r)) := by cases a <;> rfl
      rw [e]
      exact simpleB4
    simp only [d1, w_raise, w_try, w_vMS, w_vML, w_fmt, w_js, w_fj0, w_fj1, w_disp2, w_get2, w_idxC, w_split, w_par, w_unpL, w_unpV, w_dnew, w_dnewN, w_subD, w_bind, w_noX, w_ok, w_C, w_op2, w_asB, w_op3, w_and, w_or, w_not, w_test, w_bAnd, w_bOr, w_bNot, w_if, w_lif, w_tup, w_lst, w_alloc, w_vL, w_call, w_aNil, w_aCons, w_lCall, w_append, w_nil, w_lnil, w_seq, w_next, w_ret, w_set, w_expr, w_sif, w_sub, w_unp, w_fn1, w_fn2, w_fn3, w_fn4, w_fn5, w_join, w_vSrc, w_aSrc, w_lSrc, w_catLL, w_catOL, w_repL, w_sortV, w_asI, w_slE0, w_slE1, w_sl, q_srcT, q_srcS, q_srcR, q_zipT, q_slT, w_lc, w_forS, Int.toNat_natCast, v_0, v_S, List.replicate_succ, List.replicate_zero, Nat.reduceSub, List.getElem?_cons_zero, List.getElem?_cons_succ, List.set_cons_zero, List.set_cons_succ, if_true, if_false, Bool.false_eq_true, Bool.not_true, Bool.not_false, q_add, q_addT, q_addS, q_sub, q_eq, q_eqS, q_eqB, q_ne, q_neS, q_neB, q_lt, q_ltS, q_le, q_gt, q_ge, q_in1, q_nin1, q_isN, q_isnN, q_isB, q_isnB, q_isiI0, q_isiI1, q_isiI2, q_isiI3, q_isiI4, q_isiI5, q_isiB0, q_isiB1, q_isiB2, q_isiB3, q_isiB4, q_isiB5, q_isiS0, q_isiS1, q_isiS2, q_isiS3, q_isiS4, q_isiS5, q_isiT0, q_isiT1, q_isiT2, q_isiT3, q_isiT4, q_isiT5, q_isiR0, q_isiR1, q_isiR2, q_isiR3, q_isiR4, q_isiR5, q_isiN0, q_isiN1, q_isiN2, q_isiN3, q_isiN4, q_isiN5, q_lenS, q_lenT, q_lenR, q_min2, q_max2, q_strS, q_tupP, ix_0, ix_1, ix_2, ix_3, decide_true, decide_false, List.cons.injEq, reduceCtorEq, and_false, false_and, and_true, true_and, Nat.reduceEqDiff, Int.reduceLE, Int.reduceEq, Int.reduceLT, s_simpleG hd2, simpleB4, fb, and_self])
theorem s_formatG (hd : Dp' h 4 d) : run (k + 5) I_is_format [d] h = .ok (.bl (formatB d)) h := Ok.eq (by
  rw [e_is_format]
  unfold m_is_format
  simp only [w_raise, w_try, w_vMS, w_vML, w_fmt, w_js, w_fj0, w_fj1, w_disp2, w_get2, w_idxC, w_split, w_par, w_unpL, w_unpV, w_dnew, w_dnewN, w_subD, w_bind, w_noX, w_ok, w_C, w_op2, w_asB, w_op3, w_and, w_or, w_not, w_test, w_bAnd, w_bOr, w_bNot, w_if, w_lif, w_tup, w_lst, w_alloc, w_vL, w_call, w_aNil, w_aCons, w_lCall, w_append, w_nil, w_lnil, w_seq, w_next, w_ret, w_set, w_expr, w_sif, w_sub, w_unp, w_fn1, w_fn2, w_fn3, w_fn4, w_fn5, w_join, w_vSrc, w_aSrc, w_lSrc, w_catLL, w_catOL, w_repL, w_sortV, w_asI, w_slE0, w_slE1, w_sl, q_srcT, q_srcS, q_srcR, q_zipT, q_slT, w_lc, w_forS, Int.toNat_natCast, v_0, v_S, List.replicate_succ, List.replicate_zero, Nat.reduceSub, List.getElem?_cons_zero, List.getElem?_cons_succ, List.set_cons_zero, List.set_cons_succ, if_true, if_false, Bool.false_eq_true, Bool.not_true, Bool.not_false, q_add, q_addT, q_addS, q_sub, q_eq, q_eqS, q_eqB, q_ne, q_neS, q_neB, q_lt, q_ltS, q_le, q_gt, q_ge, q_in1, q_nin1, q_isN, q_isnN, q_isB, q_isnB, q_isiI0, q_isiI1, q_isiI2, q_isiI3, q_isiI4, q_isiI5, q_isiB0, q_isiB1, q_isiB2, q_isiB3, q_isiB4, q_isiB5, q_isiS0, q_isiS1, q_isiS2, q_isiS3, q_isiS4, q_isiS5, q_isiT0, q_isiT1, q_isiT2, q_isiT3, q_isiT4, q_isiT5, q_isiR0, q_isiR1, q_isiR2, q_isiR3, q_isiR4, q_isiR5, q_isiN0, q_isiN1, q_isiN2, q_isiN3, q_isiN4, q_isiN5, q_lenS, q_lenT, q_lenR, q_min2, q_max2, q_strS, q_tupP, ix_0, ix_1, ix_2, ix_3, isi_tup hd.bas]
  cases d <;> simp only [isTup, w_raise, w_try, w_vMS, w_vML, w_fmt, w_js, w_fj0, w_fj1, w_disp2, w_get2, w_idxC, w_split, w_par, w_unpL, w_unpV, w_dnew, w_dnewN, w_subD, w_bind, w_noX, w_ok, w_C, w_op2, w_asB, w_op3, w_and, w_or, w_not, w_test, w_bAnd, w_bOr, w_bNot, w_if, w_lif, w_tup, w_lst, w_alloc, w_vL, w_call, w_aNil, w_aCons, w_lCall, w_append, w_nil, w_lnil, w_seq, w_next, w_ret, w_set, w_expr, w_sif, w_sub, w_unp, w_fn1, w_fn2, w_fn3, w_fn4, w_fn5, w_join, w_vSrc, w_aSrc, w_lSrc, w_catLL, w_catOL, w_repL, w_sortV, w_asI, w_slE0, w_slE1, w_sl, q_srcT, q_srcS, q_srcR, q_zipT, q_slT, w_lc, w_forS, Int.toNat_natCast, v_0, v_S, List.replicate_succ, List.replicate_zero, Nat.reduceSub, List.getElem?_cons_zero, List.getElem?_cons_succ, List.set_cons_zero, List.set_cons_succ, if_true, if_false, Bool.false_eq_true, Bool.not_true, Bool.not_false, q_add, q_addT, q_addS, q_sub, q_eq, q_eqS, q_eqB, q_ne, q_neS, q_neB, q_lt, q_ltS, q_le, q_gt, q_ge, q_in1, q_nin1, q_isN, q_isnN, q_isB, q_isnB, q_isiI0, q_isiI1, q_isiI2, q_isiI3, q_isiI4, q_isiI5, q_isiB0, q_isiB1, q_isiB2, q_isiB3, q_isiB4, q_isiB5, q_isiS0, q_isiS1, q_isiS2, q_isiS3, q_isiS4, q_isiS5, q_isiT0, q_isiT1, q_isiT2, q_isiT3, q_isiT4, q_isiT5, q_isiR0, q_isiR1, q_isiR2, q_isiR3, q_isiR4, q_isiR5, q_isiN0, q_isiN1, q_isiN2, q_isiN3, q_isiN4, q_isiN5, q_lenS, q_lenT, q_lenR, q_min2, q_max2, q_strS, q_tupP, ix_0, ix_1, ix_2, ix_3, formatB, and_self]
  rename_i ds
  by_cases l1 : 1 ≤ ds.length
  · have d1 : (1 : Int) ≤ (ds.length : Int) := by omega
    by_cases l4 : ds.length ≤ 6
    · have d4 : (ds.length : Int) ≤ 6 := by omega
      simp only [d1, d4, l1, l4, w_raise, w_try, w_vMS, w_vML, w_fmt, w_js, w_fj0, w_fj1, w_disp2, w_get2, w_idxC, w_split, w_par, w_unpL, w_unpV, w_dnew, w_dnewN, w_subD, w_bind, w_noX, w_ok, w_C, w_op2, w_asB, w_op3, w_and, w_or, w_not, w_test, w_bAnd, w_bOr, w_bNot, w_if, w_lif, w_tup, w_lst, w_alloc, w_vL, w_call, w_aNil, w_aCons, w_lCall, w_append, w_nil, w_lnil, w_seq, w_next, w_ret, w_set, w_expr, w_sif, w_sub, w_unp, w_fn1, w_fn2, w_fn3, w_fn4, w_fn5, w_join, w_vSrc, w_aSrc, w_lSrc, w_catLL, w_catOL, w_repL, w_sortV, w_asI, w_slE0, w_slE1, w_sl, q_srcT, q_srcS, q_srcR, q_zipT, q_slT, w_lc, w_forS, Int.toNat_natCast, v_0, v_S, List.replicate_succ, List.replicate_zero, Nat.reduceSub, List.getElem?_cons_zero, List.getElem?_cons_succ, List.set_cons_zero, List.set_cons_succ, if_true, if_false, Bool.false_eq_true, Bool.not_true, Bool.not_false, q_add, q_addT, q_addS, q_sub, q_eq, q_eqS, q_eqB, q_ne, q_neS, q_neB, q_lt, q_ltS, q_le, q_gt, q_ge, q_in1, q_nin1, q_isN, q_isnN, q_isB, q_isnB, q_isiI0, q_isiI1, q_isiI2, q_isiI3, q_isiI4, q_isiI5, q_isiB0, q_isiB1, q_isiB2, q_isiB3, q_isiB4, q_isiB5, q_isiS0, q_isiS1, q_isiS2, q_isiS3, q_isiS4, q_isiS5, q_isiT0, q_isiT1, q_isiT2, q_isiT3, q_isiT4, q_isiT5, q_isiR0, q_isiR1, q_isiR2, q_isiR3, q_isiR4, q_isiR5, q_isiN0, q_isiN1, q_isiN2, q_isiN3, q_isiN4, q_isiN5, q_lenS, q_lenT, q_lenR, q_min2, q_max2, q_strS, q_tupP, ix_0, ix_1, ix_2, ix_3, decide_true, decide_false, List.cons.injEq, reduceCtorEq, and_false, false_and, and_true, true_and, Nat.reduceEqDiff, Int.reduceLE, Int.reduceEq, Int.reduceLT, Bool.true_and]
      rw [w_lcI (by simp only [LIM]; omega)]
      simp only [wipeE, w_raise, w_try, w_vMS, w_vML, w_fmt, w_js, w_fj0, w_fj1, w_disp2, w_get2, w_idxC, w_split, w_par, w_unpL, w_unpV, w_dnew, w_dnewN, w_subD, w_bind, w_noX, w_ok, w_C, w_op2, w_asB, w_op3, w_and, w_or, w_not, w_test, w_bAnd, w_bOr, w_bNot, w_if, w_lif, w_tup, w_lst, w_alloc, w_vL, w_call, w_aNil, w_aCons, w_lCall, w_append, w_nil, w_lnil, w_seq, w_next, w_ret, w_set, w_expr, w_sif, w_sub, w_unp, w_fn1, w_fn2, w_fn3, w_fn4, w_fn5, w_join, w_vSrc, w_aSrc, w_lSrc, w_catLL, w_catOL, w_repL, w_sortV, w_asI, w_slE0, w_slE1, w_sl, q_srcT, q_srcS, q_srcR, q_zipT, q_slT, w_lc, w_forS, Int.toNat_natCast, v_0, v_S, List.replicate_succ, List.replicate_zero, Nat.reduceSub, List.getElem?_cons_zero, List.getElem?_cons_succ, List.set_cons_zero, List.set_cons_succ, if_true, if_false, Bool.false_eq_true, Bool.not_true, Bool.not_false, q_add, q_addT, q_addS, q_sub, q_eq, q_eqS, q_eqB, q_ne, q_neS, q_neB, q_lt, q_ltS, q_le, q_gt, q_ge, q_in1, q_nin1, q_isN, q_isnN, q_isB, q_isnB, q_isiI0, q_isiI1, q_isiI2, q_isiI3, q_isiI4, q_isiI5, q_isiB0, q_isiB1, q_isiB2, q_isiB3, q_isiB4, q_isiB5, q_isiS0, q_isiS1, q_isiS2, q_isiS3, q_isiS4, q_isiS5, q_isiT0, q_isiT1, q_isiT2, q_isiT3, q_isiT4, q_isiT5, q_isiR0, q_isiR1, q_isiR2, q_isiR3, q_isiR4, q_isiR5, q_isiN0, q_isiN1, q_isiN2, q_isiN3, q_isiN4, q_isiN5, q_lenS, q_lenT, q_lenR, q_min2, q_max2, q_strS, q_tupP, ix_0, ix_1, ix_2, ix_3]
      have em := lcL_map (i := 1) (env := [some (.tup ds), none]) (h := h) (elt := vCall (run (k + 4) I_is_field) (aCons (vVar 1) aNil)) (xs := ds) (c := fun x => x) (fun x => .bl (fieldB x)) fun x hm => Ok.eq (by
        simp only [w_raise, w_try, w_vMS, w_vML, w_fmt, w_js, w_fj0, w_fj1, w_disp2, w_get2, w_idxC, w_split, w_par, w_unpL, w_unpV, w_dnew, w_dnewN, w_subD, w_bind, w_noX, w_ok, w_C, w_op2, w_asB, w_op3, w_and, w_or, w_not, w_test, w_bAnd, w_bOr, w_bNot, w_if, w_lif, w_tup, w_lst, w_alloc, w_vL, w_call, w_aNil, w_aCons, w_lCall, w_append, w_nil, w_lnil, w_seq, w_next, w_ret, w_set, w_expr, w_sif, w_sub, w_unp, w_fn1, w_fn2, w_fn3, w_fn4, w_fn5, w_join, w_vSrc, w_aSrc, w_lSrc, w_catLL, w_catOL, w_repL, w_sortV, w_asI, w_slE0, w_slE1, w_sl, q_srcT, q_srcS, q_srcR, q_zipT, q_slT, w_lc, w_forS, Int.toNat_natCast, v_0, v_S, List.replicate_succ, List.replicate_zero, Nat.reduceSub, List.getElem?_cons_zero, List.getElem?_cons_succ, List.set_cons_zero, List.set_cons_succ, if_true, if_false, Bool.false_eq_true, Bool.not_true, Bool.not_false, q_add, q_addT, q_addS, q_sub, q_eq, q_eqS, q_eqB, q_ne, q_neS, q_neB, q_lt, q_ltS, q_le, q_gt, q_ge, q_in1, q_nin1, q_isN, q_isnN, q_isB, q_isnB, q_isiI0, q_isiI1, q_isiI2, q_isiI3, q_isiI4, q_isiI5, q_isiB0, q_isiB1, q_isiB2, q_isiB3, q_isiB4, q_isiB5, q_isiS0, q_isiS1, q_isiS2, q_isiS3, q_isiS4, q_isiS5, q_isiT0, q_isiT1, q_isiT2, q_isiT3, q_isiT4, q_isiT5, q_isiR0, q_isiR1, q_isiR2, q_isiR3, q_isiR4, q_isiR5, q_isiN0, q_isiN1, q_isiN2, q_isiN3, q_isiN4, q_isiN5, q_lenS, q_lenT, q_lenR, q_min2, q_max2, q_strS, q_tupP, ix_0, ix_1, ix_2, ix_3, s_fieldG (hd.it x hm), and_self])
      rw [List.map_id'] at em
      rw [em, w_ok, all_map, w_ok]
      exact ⟨rfl, rfl⟩
    · have d4 : ¬ (ds.length : Int) ≤ 6 := by omega
      simp only [d1, d4, l1, l4, w_raise, w_try, w_vMS, w_vML, w_fmt, w_js, w_fj0, w_fj1, w_disp2, w_get2, w_idxC, w_split, w_par, w_unpL, w_unpV, w_dnew, w_dnewN, w_subD, w_bind, w_noX, w_ok, w_C, w_op2, w_asB, w_op3, w_and, w_or, w_not, w_test, w_bAnd, w_bOr, w_bNot, w_if, w_lif, w_tup, w_lst, w_alloc, w_vL, w_call, w_aNil, w_aCons, w_lCall, w_append, w_nil, w_lnil, w_seq, w_next, w_ret, w_set, w_expr, w_sif, w_sub, w_unp, w_fn1, w_fn2, w_fn3, w_fn4, w_fn5, w_join, w_vSrc, w_aSrc, w_lSrc, w_catLL, w_catOL, w_repL, w_sortV, w_asI, w_slE0, w_slE1, w_sl, q_srcT, q_srcS, q_srcR, q_zipT, q_slT, w_lc, w_forS, Int.toNat_natCast, v_0, v_S, List.replicate_succ, List.replicate_zero, Nat.reduceSub, List.getElem?_cons_zero, List.getElem?_cons_succ, List.set_cons_zero, List.set_cons_succ, if_true, if_false, Bool.false_eq_true, Bool.not_true, Bool.not_false, q_add, q_addT, q_addS, q_sub, q_eq, q_eqS, q_eqB, q_ne, q_neS, q_neB, q_lt, q_ltS, q_le, q_gt, q_ge, q_in1, q_nin1, q_isN, q_isnN, q_isB, q_isnB, q_isiI0, q_isiI1, q_isiI2, q_isiI3, q_isiI4, q_isiI5, q_isiB0, q_isiB1, q_isiB2, q_isiB3, q_isiB4, q_isiB5, q_isiS0, q_isiS1, q_isiS2, q_isiS3, q_isiS4, q_isiS5, q_isiT0, q_isiT1, q_isiT2, q_isiT3, q_isiT4, q_isiT5, q_isiR0, q_isiR1, q_isiR2, q_isiR3, q_isiR4, q_isiR5, q_isiN0, q_isiN1, q_isiN2, q_isiN3, q_isiN4, q_isiN5, q_lenS, q_lenT, q_lenR, q_min2, q_max2, q_strS, q_tupP, ix_0, ix_1, ix_2, ix_3, decide_true, decide_false, List.cons.injEq, reduceCtorEq, and_false, false_and, and_true, true_and, Nat.reduceEqDiff, Int.reduceLE, Int.reduceEq, Int.reduceLT, Bool.false_and, Bool.and_false, and_self]
  · have d1 : ¬ (1 : Int) ≤ (ds.length : Int) := by omega
    simp only [d1, l1, w_raise, w_try, w_vMS, w_vML, w_fmt, w_js, w_fj0, w_fj1, w_disp2, w_get2, w_idxC, w_split, w_par, w_unpL, w_unpV, w_dnew, w_dnewN, w_subD, w_bind, w_noX, w_ok, w_C, w_op2, w_asB, w_op3, w_and, w_or, w_not, w_test, w_bAnd, w_bOr, w_bNot, w_if, w_lif, w_tup, w_lst, w_alloc, w_vL, w_call, w_aNil, w_aCons, w_lCall, w_append, w_nil, w_lnil, w_seq, w_next, w_ret, w_set, w_expr, w_sif, w_sub, w_unp, w_fn1, w_fn2, w_fn3, w_fn4, w_fn5, w_join, w_vSrc, w_aSrc, w_lSrc, w_catLL, w_catOL, w_repL, w_sortV, w_asI, w_slE0, w_slE1, w_sl, q_srcT, q_srcS, q_srcR, q_zipT, q_slT, w_lc, w_forS, Int.toNat_natCast, v_0, v_S, List.replicate_succ, List.replicate_zero, Nat.reduceSub, List.getElem?_cons_zero, List.getElem?_cons_succ, List.set_cons_zero, List.set_cons_succ, if_true, if_false, Bool.false_eq_true, Bool.not_true, Bool.not_false, q_add, q_addT, q_addS, q_sub, q_eq, q_eqS, q_eqB, q_ne, q_neS, q_neB, q_lt, q_ltS, q_le, q_gt, q_ge, q_in1, q_nin1, q_isN, q_isnN, q_isB, q_isnB, q_isiI0, q_isiI1, q_isiI2, q_isiI3, q_isiI4, q_isiI5, q_isiB0, q_isiB1, q_isiB2, q_isiB3, q_isiB4, q_isiB5, q_isiS0, q_isiS1, q_isiS2, q_isiS3, q_isiS4, q_isiS5, q_isiT0, q_isiT1, q_isiT2, q_isiT3, q_isiT4, q_isiT5, q_isiR0, q_isiR1, q_isiR2, q_isiR3, q_isiR4, q_isiR5, q_isiN0, q_isiN1, q_isiN2, q_isiN3, q_isiN4, q_isiN5, q_lenS, q_lenT, q_lenR, q_min2, q_max2, q_strS, q_tupP, ix_0, ix_1, ix_2, ix_3, decide_true, decide_false, List.cons.injEq, reduceCtorEq, and_false, false_and, and_true, true_and, Nat.reduceEqDiff, Int.reduceLE, Int.reduceEq, Int.reduceLT, Bool.false_and, and_self])
end
end FT
end
section
set_option maxRecDepth 100000
namespace FT
open PySem L2
set_option autoImplicit false
/-! ### the notation is written and read -/
section
variable {k : Nat} {h : MH}
abbrev cNums : List Sg := [[48], [49], [50], [51], [52]]
theorem pl_strs {n : Nat} {ts : List Sg} (ht : ∀ s ∈ ts, ∀ c ∈ s, c < 1114112) : (ts.map D.str).all (plN (n + 1)) = true := by
  rw [List.all_eq_true]
  intro x hx
  obtain ⟨s, hs, rfl⟩ := List.mem_map.mp hx
  exact pl_str (ht s hs)
theorem inD_strs {s : Sg} {ts : List Sg} : inD (.str s) (ts.map .str) = decide (s ∈ ts) := by
  rw [Bool.eq_iff_iff, inD_iff, decide_eq_true_iff, List.mem_map]
  constructor
  · rintro ⟨t, ht, e⟩
    cases e
    exact ht
  · intro hs
    exact ⟨s, hs, rfl⟩
theorem num_is {w : Sg} : numOf w = if w ∈ cNums then ((cNums.idxOf w : Nat) : Int) else -1 := by
  match w with
  | [] => rfl
  | c :: d :: r =>
    have : (c :: d :: r) ∉ cNums := by simp
    rw [if_neg this]
    rfl
  | [c] =>
    by_cases hc : 48 ≤ c ∧ c ≤ 52
    · have : c = 48 ∨ c = 49 ∨ c = 50 ∨ c = 51 ∨ c = 52 := by omega
      rcases this with rfl | rfl | rfl | rfl | rfl <;> decide
    · have : [c] ∉ cNums := by
        simp
        omega
      rw [if_neg this]
      simp only [numOf]
      rw [if_neg hc]
theorem s_numberOf {w : Sg} (hw : ∀ c ∈ w, c < 1114112) : run (k + 1) I_number_of [.str w] h = .ok (.int (numOf w)) h := Ok.eq (by
  rw [e_number_of]
  unfold m_number_of
  simp only [w_raise, w_try, w_vMS, w_vML, w_fmt, w_js, w_fj0, w_fj1, w_disp2, w_get2, w_idxC, w_split, w_par, w_unpL, w_unpV, w_dnew, w_dnewN, w_subD, w_bind, w_noX, w_ok, w_C, w_op2, w_asB, w_op3, w_and, w_or, w_not, w_test, w_bAnd, w_bOr, w_bNot, w_if, w_lif, w_tup, w_lst, w_alloc, w_vL, w_call, w_aNil, w_aCons, w_lCall, w_append, w_nil, w_lnil, w_seq, w_next, w_ret, w_set, w_expr, w_sif, w_sub, w_unp, w_fn1, w_fn2, w_fn3, w_fn4, w_fn5, w_join, w_vSrc, w_aSrc, w_lSrc, w_catLL, w_catOL, w_repL, w_sortV, w_asI, w_slE0, w_slE1, w_sl, q_srcT, q_srcS, q_srcR, q_zipT, q_slT, w_lc, w_forS, Int.toNat_natCast, v_0, v_S, List.replicate_succ, List.replicate_zero, Nat.reduceSub, List.getElem?_cons_zero, List.getElem?_cons_succ, List.set_cons_zero, List.set_cons_succ, if_true, if_false, Bool.false_eq_true, Bool.not_true, Bool.not_false, q_add, q_addT, q_addS, q_sub, q_eq, q_eqS, q_eqB, q_ne, q_neS, q_neB, q_lt, q_ltS, q_le, q_gt, q_ge, q_in1, q_nin1, q_isN, q_isnN, q_isB, q_isnB, q_isiI0, q_isiI1, q_isiI2, q_isiI3, q_isiI4, q_isiI5, q_isiB0, q_isiB1, q_isiB2, q_isiB3, q_isiB4, q_isiB5, q_isiS0, q_isiS1, q_isiS2, q_isiS3, q_isiS4, q_isiS5, q_isiT0, q_isiT1, q_isiT2, q_isiT3, q_isiT4, q_isiT5, q_isiR0, q_isiR1, q_isiR2, q_isiR3, q_isiR4, q_isiR5, q_isiN0, q_isiN1, q_isiN2, q_isiN3, q_isiN4, q_isiN5, q_lenS, q_lenT, q_lenR, q_min2, q_max2, q_strS, q_tupP, ix_0, ix_1, ix_2, ix_3]
  rw [in_tup (pl_str hw) (pl_strs (by decide)), w_ok, inD_strs, num_is]
  by_cases c : w ∈ cNums
  · simp only [c, w_raise, w_try, w_vMS, w_vML, w_fmt, w_js, w_fj0, w_fj1, w_disp2, w_get2, w_idxC, w_split, w_par, w_unpL, w_unpV, w_dnew, w_dnewN, w_subD, w_bind, w_noX, w_ok, w_C, w_op2, w_asB, w_op3, w_and, w_or, w_not, w_test, w_bAnd, w_bOr, w_bNot, w_if, w_lif, w_tup, w_lst, w_alloc, w_vL, w_call, w_aNil, w_aCons, w_lCall, w_append, w_nil, w_lnil, w_seq, w_next, w_ret, w_set, w_expr, w_sif, w_sub, w_unp, w_fn1, w_fn2, w_fn3, w_fn4, w_fn5, w_join, w_vSrc, w_aSrc, w_lSrc, w_catLL, w_catOL, w_repL, w_sortV, w_asI, w_slE0, w_slE1, w_sl, q_srcT, q_srcS, q_srcR, q_zipT, q_slT, w_lc, w_forS, Int.toNat_natCast, v_0, v_S, List.replicate_succ, List.replicate_zero, Nat.reduceSub, List.getElem?_cons_zero, List.getElem?_cons_succ, List.set_cons_zero, List.set_cons_succ, if_true, if_false, Bool.false_eq_true, Bool.not_true, Bool.not_false, q_add, q_addT, q_addS, q_sub, q_eq, q_eqS, q_eqB, q_ne, q_neS, q_neB, q_lt, q_ltS, q_le, q_gt, q_ge, q_in1, q_nin1, q_isN, q_isnN, q_isB, q_isnB, q_isiI0, q_isiI1, q_isiI2, q_isiI3, q_isiI4, q_isiI5, q_isiB0, q_isiB1, q_isiB2, q_isiB3, q_isiB4, q_isiB5, q_isiS0, q_isiS1, q_isiS2, q_isiS3, q_isiS4, q_isiS5, q_isiT0, q_isiT1, q_isiT2, q_isiT3, q_isiT4, q_isiT5, q_isiR0, q_isiR1, q_isiR2, q_isiR3, q_isiR4, q_isiR5, q_isiN0, q_isiN1, q_isiN2, q_isiN3, q_isiN4, q_isiN5, q_lenS, q_lenT, q_lenR, q_min2, q_max2, q_strS, q_tupP, ix_0, ix_1, ix_2, ix_3, decide_true, decide_false, List.cons.injEq, reduceCtorEq, and_false, false_and, and_true, true_and, Nat.reduceEqDiff, Int.reduceLE, Int.reduceEq, Int.reduceLT, idxC, if_true, and_self]
  · simp only [c, w_raise, w_try, w_vMS, w_vML, w_fmt, w_js, w_fj0, w_fj1, w_disp2, w_get2, w_idxC, w_split, w_par, w_unpL, w_unpV, w_dnew, w_dnewN, w_subD, w_bind, w_noX, w_ok, w_C, w_op2, w_asB, w_op3, w_and, w_or, w_not, w_test, w_bAnd, w_bOr, w_bNot, w_if, w_lif, w_tup, w_lst, w_alloc, w_vL, w_call, w_aNil, w_aCons, w_lCall, w_append, w_nil, w_lnil, w_seq, w_next, w_ret, w_set, w_expr, w_sif, w_sub, w_unp, w_fn1, w_fn2, w_fn3, w_fn4, w_fn5, w_join, w_vSrc, w_aSrc, w_lSrc, w_catLL, w_catOL, w_repL, w_sortV, w_asI, w_slE0, w_slE1, w_sl, q_srcT, q_srcS, q_srcR, q_zipT, q_slT, w_lc, w_forS, Int.toNat_natCast, v_0, v_S, List.replicate_succ, List.replicate_zero, Nat.reduceSub, List.getElem?_cons_zero, List.getElem?_cons_succ, List.set_cons_zero, List.set_cons_succ, if_true, if_false, Bool.false_eq_true, Bool.not_true, Bool.not_false, q_add, q_addT, q_addS, q_sub, q_eq, q_eqS, q_eqB, q_ne, q_neS, q_neB, q_lt, q_ltS, q_le, q_gt, q_ge, q_in1, q_nin1, q_isN, q_isnN, q_isB, q_isnB, q_isiI0, q_isiI1, q_isiI2, q_isiI3, q_isiI4, q_isiI5, q_isiB0, q_isiB1, q_isiB2, q_isiB3, q_isiB4, q_isiB5, q_isiS0, q_isiS1, q_isiS2, q_isiS3, q_isiS4, q_isiS5, q_isiT0, q_isiT1, q_isiT2, q_isiT3, q_isiT4, q_isiT5, q_isiR0, q_isiR1, q_isiR2, q_isiR3, q_isiR4, q_isiR5, q_isiN0, q_isiN1, q_isiN2, q_isiN3, q_isiN4, q_isiN5, q_lenS, q_lenT, q_lenR, q_min2, q_max2, q_strS, q_tupP, ix_0, ix_1, ix_2, ix_3, decide_true, decide_false, List.cons.injEq, reduceCtorEq, and_false, false_and, and_true, true_and, Nat.reduceEqDiff, Int.reduceLE, Int.reduceEq, Int.reduceLT, if_false, and_self])
theorem splC_len (c : Nat) : ∀ s : Sg, (splC c s).length ≤ s.length + 1
  | [] => by simp [splC]
  | x :: xs => by
    have ih := splC_len c xs
    unfold splC
    split
    · simp; omega
    · split <;> simp <;> simp_all <;> omega
theorem splC_mem {c : Nat} : ∀ {s p : Sg}, p ∈ splC c s → ∀ x ∈ p, x ∈ s
  | [], p, h, x, hx => by simp [splC] at h; subst h; cases hx
  | y :: ys, p, h, x, hx => by
    unfold splC at h
    split at h
    · rcases List.mem_cons.mp h with rfl | h
      · cases hx
      · exact List.mem_cons_of_mem _ (splC_mem h x hx)
    · split at h
      · simp at h; subst h; simp at hx; subst hx; exact List.mem_cons_self ..
      · rename_i q r e
        rcases List.mem_cons.mp h with rfl | h
        · rcases List.mem_cons.mp hx with rfl | hx
          · exact List.mem_cons_self ..
          · exact List.mem_cons_of_mem _ (splC_mem (c := c) (by rw [e]; exact List.mem_cons_self ..) x hx)
        · exact List.mem_cons_of_mem _ (splC_mem (c := c) (by rw [e]; exact List.mem_cons_of_mem _ h) x hx)
theorem splC_plen {c : Nat} : ∀ {s p : Sg}, p ∈ splC c s → p.length ≤ s.length
  | [], p, h => by simp [splC] at h; subst h; simp
  | y :: ys, p, h => by
    unfold splC at h
    split at h
    · rcases List.mem_cons.mp h with rfl | h
      · simp
      · have := splC_plen h; simp; omega
    · split at h
      · simp at h; subst h; simp
      · rename_i q r e
        rcases List.mem_cons.mp h with rfl | h
        · have := splC_plen (c := c) (s := ys) (p := q) (by rw [e]; exact List.mem_cons_self ..)
          simp; omega
        · have := splC_plen (c := c) (s := ys) (p := p) (by rw [e]; exact List.mem_cons_of_mem _ h)
          simp; omega
theorem s_numbersIn {s : Sg} (hl : s.length ≤ 1000) (hc : ∀ c ∈ s, c < 1114112) : run (k + 2) I_numbers_in [.str s] h = .ok (.tup (nums s)) h := Ok.eq (by
  rw [e_numbers_in]
  unfold m_numbers_in
  have sl := splC_len 44 s
  simp only [w_raise, w_try, w_vMS, w_vML, w_fmt, w_js, w_fj0, w_fj1, w_disp2, w_get2, w_idxC, w_split, w_par, w_unpL, w_unpV, w_dnew, w_dnewN, w_subD, w_bind, w_noX, w_ok, w_C, w_op2, w_asB, w_op3, w_and, w_or, w_not, w_test, w_bAnd, w_bOr, w_bNot, w_if, w_lif, w_tup, w_lst, w_alloc, w_vL, w_call, w_aNil, w_aCons, w_lCall, w_append, w_nil, w_lnil, w_seq, w_next, w_ret, w_set, w_expr, w_sif, w_sub, w_unp, w_fn1, w_fn2, w_fn3, w_fn4, w_fn5, w_join, w_vSrc, w_aSrc, w_lSrc, w_catLL, w_catOL, w_repL, w_sortV, w_asI, w_slE0, w_slE1, w_sl, q_srcT, q_srcS, q_srcR, q_zipT, q_slT, w_lc, w_forS, Int.toNat_natCast, v_0, v_S, List.replicate_succ, List.replicate_zero, Nat.reduceSub, List.getElem?_cons_zero, List.getElem?_cons_succ, List.set_cons_zero, List.set_cons_succ, if_true, if_false, Bool.false_eq_true, Bool.not_true, Bool.not_false, q_add, q_addT, q_addS, q_sub, q_eq, q_eqS, q_eqB, q_ne, q_neS, q_neB, q_lt, q_ltS, q_le, q_gt, q_ge, q_in1, q_nin1, q_isN, q_isnN, q_isB, q_isnB, q_isiI0, q_isiI1, q_isiI2, q_isiI3, q_isiI4, q_isiI5, q_isiB0, q_isiB1, q_isiB2, q_isiB3, q_isiB4, q_isiB5, q_isiS0, q_isiS1, q_isiS2, q_isiS3, q_isiS4, q_isiS5, q_isiT0, q_isiT1, q_isiT2, q_isiT3, q_isiT4, q_isiT5, q_isiR0, q_isiR1, q_isiR2, q_isiR3, q_isiR4, q_isiR5, q_isiN0, q_isiN1, q_isiN2, q_isiN3, q_isiN4, q_isiN5, q_lenS, q_lenT, q_lenR, q_min2, q_max2, q_strS, q_tupP, ix_0, ix_1, ix_2, ix_3, q_split (show s.length + 2 ≤ LIM by simp only [LIM]; omega) (show 44 < 256 by decide)]
  rw [w_lcI (by simp only [List.length_map, LIM]; omega)]
  simp only [wipeE, w_raise, w_try, w_vMS, w_vML, w_fmt, w_js, w_fj0, w_fj1, w_disp2, w_get2, w_idxC, w_split, w_par, w_unpL, w_unpV, w_dnew, w_dnewN, w_subD, w_bind, w_noX, w_ok, w_C, w_op2, w_asB, w_op3, w_and, w_or, w_not, w_test, w_bAnd, w_bOr, w_bNot, w_if, w_lif, w_tup, w_lst, w_alloc, w_vL, w_call, w_aNil, w_aCons, w_lCall, w_append, w_nil, w_lnil, w_seq, w_next, w_ret, w_set, w_expr, w_sif, w_sub, w_unp, w_fn1, w_fn2, w_fn3, w_fn4, w_fn5, w_join, w_vSrc, w_aSrc, w_lSrc, w_catLL, w_catOL, w_repL, w_sortV, w_asI, w_slE0, w_slE1, w_sl, q_srcT, q_srcS, q_srcR, q_zipT, q_slT, w_lc, w_forS, Int.toNat_natCast, v_0, v_S, List.replicate_succ, List.replicate_zero, Nat.reduceSub, List.getElem?_cons_zero, List.getElem?_cons_succ, List.set_cons_zero, List.set_cons_succ, if_true, if_false, Bool.false_eq_true, Bool.not_true, Bool.not_false, q_add, q_addT, q_addS, q_sub, q_eq, q_eqS, q_eqB, q_ne, q_neS, q_neB, q_lt, q_ltS, q_le, q_gt, q_ge, q_in1, q_nin1, q_isN, q_isnN, q_isB, q_isnB, q_isiI0, q_isiI1, q_isiI2, q_isiI3, q_isiI4, q_isiI5, q_isiB0, q_isiB1, q_isiB2, q_isiB3, q_isiB4, q_isiB5, q_isiS0, q_isiS1, q_isiS2, q_isiS3, q_isiS4, q_isiS5, q_isiT0, q_isiT1, q_isiT2, q_isiT3, q_isiT4, q_isiT5, q_isiR0, q_isiR1, q_isiR2, q_isiR3, q_isiR4, q_isiR5, q_isiN0, q_isiN1, q_isiN2, q_isiN3, q_isiN4, q_isiN5, q_lenS, q_lenT, q_lenR, q_min2, q_max2, q_strS, q_tupP, ix_0, ix_1, ix_2, ix_3]
  rw [lcL_map (fun w => .int (numOf w)) fun w hw => Ok.eq (by simp only [w_raise, w_try, w_vMS, w_vML, w_fmt, w_js, w_fj0, w_fj1, w_disp2, w_get2, w_idxC, w_split, w_par, w_unpL, w_unpV, w_dnew, w_dnewN, w_subD, w_bind, w_noX, w_ok, w_C, w_op2, w_asB, w_op3, w_and, w_or, w_not, w_test, w_bAnd, w_bOr, w_bNot, w_if, w_lif, w_tup, w_lst, w_alloc, w_vL, w_call, w_aNil, w_aCons, w_lCall, w_append, w_nil, w_lnil, w_seq, w_next, w_ret, w_set, w_expr, w_sif, w_sub, w_unp, w_fn1, w_fn2, w_fn3, w_fn4, w_fn5, w_join, w_vSrc, w_aSrc, w_lSrc, w_catLL, w_catOL, w_repL, w_sortV, w_asI, w_slE0, w_slE1, w_sl, q_srcT, q_srcS, q_srcR, q_zipT, q_slT, w_lc, w_forS, Int.toNat_natCast, v_0, v_S, List.replicate_succ, List.replicate_zero, Nat.reduceSub, List.getElem?_cons_zero, List.getElem?_cons_succ, List.set_cons_zero, List.set_cons_succ, if_true, if_false, Bool.false_eq_true, Bool.not_true, Bool.not_false, q_add, q_addT, q_addS, q_sub, q_eq, q_eqS, q_eqB, q_ne, q_neS, q_neB, q_lt, q_ltS, q_le, q_gt, q_ge, q_in1, q_nin1, q_isN, q_isnN, q_isB, q_isnB, q_isiI0, q_isiI1, q_isiI2, q_isiI3, q_isiI4, q_isiI5, q_isiB0, q_isiB1, q_isiB2, q_isiB3, q_isiB4, q_isiB5, q_isiS0, q_isiS1, q_isiS2, q_isiS3, q_isiS4, q_isiS5, q_isiT0, q_isiT1, q_isiT2, q_isiT3, q_isiT4, q_isiT5, q_isiR0, q_isiR1, q_isiR2, q_isiR3, q_isiR4, q_isiR5, q_isiN0, q_isiN1, q_isiN2, q_isiN3, q_isiN4, q_isiN5, q_lenS, q_lenT, q_lenR, q_min2, q_max2, q_strS, q_tupP, ix_0, ix_1, ix_2, ix_3, s_numberOf fun c h => hc c (splC_mem hw c h), and_self]), w_ok]
  exact ⟨rfl, rfl⟩)
theorem take_1 {s : Sg} (h : MH) (hl : s.length ≤ 1000) : slM (.str s) none (some (1 : Int)) h = .ok (.str (s.take 1)) h := by
  have := q_slS (s := s) (h := h) (l := none) (u := some ((1 : Nat) : Int)) (by simp only [LIM]; omega)
  rw [cut_take] at this
  exact this
theorem drop_1 {s : Sg} (h : MH) (hl : s.length ≤ 1000) : slM (.str s) (some (1 : Int)) none h = .ok (.str (s.drop 1)) h := by
  have := q_slS (s := s) (h := h) (l := some ((1 : Nat) : Int)) (u := none) (by simp only [LIM]; omega)
  rw [cut_drop] at this
  exact this
theorem take_n {s : Sg} (h : MH) (n : Nat) (hl : s.length ≤ 1000) : slM (.str s) none (some (n : Int)) h = .ok (.str (s.take n)) h := by
  have := q_slS (s := s) (h := h) (l := none) (u := some ((n : Nat) : Int)) (by simp only [LIM]; omega)
  rw [cut_take] at this
  exact this
theorem drop_n {s : Sg} (h : MH) (n : Nat) (hl : s.length ≤ 1000) : slM (.str s) (some (n : Int)) none h = .ok (.str (s.drop n)) h := by
  have := q_slS (s := s) (h := h) (l := some ((n : Nat) : Int)) (u := none) (by simp only [LIM]; omega)
  rw [cut_drop] at this
  exact this
theorem get_name {p : Sg} : getDM (.obj h.length) (.str (p.take 1)) (.str []) (h ++ [.dic [(.str [100], .str kDigits), (.str [108], .str kLetters)]]) = .ok (.str (nameOf p)) (h ++ [.dic [(.str [100], .str kDigits), (.str [108], .str kLetters)]]) := by
  have e1 : ∀ a b : Sg, ((some (Sum.inr (⟨a.toArray⟩ : Str)) : Option Key) = some (Sum.inr ⟨b.toArray⟩)) = (b = a) := by
    intro a b
    apply propext
    constructor
    · intro z
      injection z with z
      injection z with z
      have := congrArg Str.cps z
      simpa using this.symm
    · rintro rfl; rfl
  simp only [getDM, dGetM, getElem?_app, kOf, Option.map_some, dLook, e1, nameOf]
  by_cases c1 : p.take 1 = [100]
  · simp only [c1, if_true, Option.getD_some]
  · by_cases c2 : p.take 1 = [108]
    · simp only [c2, if_true]
      simp
    · simp only [c1, c2, if_false, Option.getD_none]
theorem isDic_app {kvs : List (D × D)} : isDic (.obj h.length) (h ++ [.dic kvs]) = true := by simp [isDic]
theorem cat_tup {a b : List D} : addM (.tup a) (.tup b) h = if a.length + b.length ≤ LIM then .ok (.tup (a ++ b)) h else .err := rfl
theorem nums_len {s : Sg} : (nums s).length ≤ s.length + 1 := by unfold nums; rw [List.length_map]; exact splC_len 44 s
theorem s_readS {p : Sg} (hl : p.length ≤ 1000) (hc : ∀ c ∈ p, c < 1114112) (hs : 42 ∉ p) : OkX noE (run (k + 3) I_read_field [.str p] h) fun v h' => v = readS p ∧ Px h h' := by
  rw [e_read_field]
  unfold m_read_field
  have hd : ∀ c ∈ p.drop 1, c < 1114112 := fun c h => hc c (List.mem_of_mem_drop h)
  have hdl : (p.drop 1).length ≤ 1000 := by simp; omega
  simp only [w_raise, w_try, w_vMS, w_vML, w_fmt, w_js, w_fj0, w_fj1, w_disp2, w_get2, w_idxC, w_split, w_par, w_unpL, w_unpV, w_dnew, w_dnewN, w_subD, w_bind, w_noX, w_ok, w_C, w_op2, w_asB, w_op3, w_and, w_or, w_not, w_test, w_bAnd, w_bOr, w_bNot, w_if, w_lif, w_tup, w_lst, w_alloc, w_vL, w_call, w_aNil, w_aCons, w_lCall, w_append, w_nil, w_lnil, w_seq, w_next, w_ret, w_set, w_expr, w_sif, w_sub, w_unp, w_fn1, w_fn2, w_fn3, w_fn4, w_fn5, w_join, w_vSrc, w_aSrc, w_lSrc, w_catLL, w_catOL, w_repL, w_sortV, w_asI, w_slE0, w_slE1, w_sl, q_srcT, q_srcS, q_srcR, q_zipT, q_slT, w_lc, w_forS, Int.toNat_natCast, v_0, v_S, List.replicate_succ, List.replicate_zero, Nat.reduceSub, List.getElem?_cons_zero, List.getElem?_cons_succ, List.set_cons_zero, List.set_cons_succ, if_true, if_false, Bool.false_eq_true, Bool.not_true, Bool.not_false, q_add, q_addT, q_addS, q_sub, q_eq, q_eqS, q_eqB, q_ne, q_neS, q_neB, q_lt, q_ltS, q_le, q_gt, q_ge, q_in1, q_nin1, q_isN, q_isnN, q_isB, q_isnB, q_isiI0, q_isiI1, q_isiI2, q_isiI3, q_isiI4, q_isiI5, q_isiB0, q_isiB1, q_isiB2, q_isiB3, q_isiB4, q_isiB5, q_isiS0, q_isiS1, q_isiS2, q_isiS3, q_isiS4, q_isiS5, q_isiT0, q_isiT1, q_isiT2, q_isiT3, q_isiT4, q_isiT5, q_isiR0, q_isiR1, q_isiR2, q_isiR3, q_isiR4, q_isiR5, q_isiN0, q_isiN1, q_isiN2, q_isiN3, q_isiN4, q_isiN5, q_lenS, q_lenT, q_lenR, q_min2, q_max2, q_strS, q_tupP, ix_0, ix_1, ix_2, ix_3, hs, decide_true, decide_false, List.cons.injEq, reduceCtorEq, and_false, false_and, and_true, true_and, Nat.reduceEqDiff, Int.reduceLE, Int.reduceEq, Int.reduceLT, take_1 _ hl, drop_1 _ hl]
  unfold readS
  by_cases c1 : p.take 1 = [61]
  · simp only [c1, w_raise, w_try, w_vMS, w_vML, w_fmt, w_js, w_fj0, w_fj1, w_disp2, w_get2, w_idxC, w_split, w_par, w_unpL, w_unpV, w_dnew, w_dnewN, w_subD, w_bind, w_noX, w_ok, w_C, w_op2, w_asB, w_op3, w_and, w_or, w_not, w_test, w_bAnd, w_bOr, w_bNot, w_if, w_lif, w_tup, w_lst, w_alloc, w_vL, w_call, w_aNil, w_aCons, w_lCall, w_append, w_nil, w_lnil, w_seq, w_next, w_ret, w_set, w_expr, w_sif, w_sub, w_unp, w_fn1, w_fn2, w_fn3, w_fn4, w_fn5, w_join, w_vSrc, w_aSrc, w_lSrc, w_catLL, w_catOL, w_repL, w_sortV, w_asI, w_slE0, w_slE1, w_sl, q_srcT, q_srcS, q_srcR, q_zipT, q_slT, w_lc, w_forS, Int.toNat_natCast, v_0, v_S, List.replicate_succ, List.replicate_zero, Nat.reduceSub, List.getElem?_cons_zero, List.getElem?_cons_succ, List.set_cons_zero, List.set_cons_succ, if_true, if_false, Bool.false_eq_true, Bool.not_true, Bool.not_false, q_add, q_addT, q_addS, q_sub, q_eq, q_eqS, q_eqB, q_ne, q_neS, q_neB, q_lt, q_ltS, q_le, q_gt, q_ge, q_in1, q_nin1, q_isN, q_isnN, q_isB, q_isnB, q_isiI0, q_isiI1, q_isiI2, q_isiI3, q_isiI4, q_isiI5, q_isiB0, q_isiB1, q_isiB2, q_isiB3, q_isiB4, q_isiB5, q_isiS0, q_isiS1, q_isiS2, q_isiS3, q_isiS4, q_isiS5, q_isiT0, q_isiT1, q_isiT2, q_isiT3, q_isiT4, q_isiT5, q_isiR0, q_isiR1, q_isiR2, q_isiR3, q_isiR4, q_isiR5, q_isiN0, q_isiN1, q_isiN2, q_isiN3, q_isiN4, q_isiN5, q_lenS, q_lenT, q_lenR, q_min2, q_max2, q_strS, q_tupP, ix_0, ix_1, ix_2, ix_3, decide_true, decide_false, List.cons.injEq, reduceCtorEq, and_false, false_and, and_true, true_and, Nat.reduceEqDiff, Int.reduceLE, Int.reduceEq, Int.reduceLT, List.length_cons, List.length_nil, lim_0, lim_1, lim_2, lim_3, lim_4, lim_5, lim_6, lim_7, lim_8, lim_9, lim_10, lim_11, lim_12, lim_13, lim_14, lim_15, lim_16, lim_17, lim_18, lim_19, lim_20, lim_21, lim_22, lim_23, Nat.reduceAdd, Nat.reduceLeDiff, if_true, true_and]
    exact Px.refl
  simp only [c1, w_raise, w_try, w_vMS, w_vML, w_fmt, w_js, w_fj0, w_fj1, w_disp2, w_get2, w_idxC, w_split, w_par, w_unpL, w_unpV, w_dnew, w_dnewN, w_subD, w_bind, w_noX, w_ok, w_C, w_op2, w_asB, w_op3, w_and, w_or, w_not, w_test, w_bAnd, w_bOr, w_bNot, w_if, w_lif, w_tup, w_lst, w_alloc, w_vL, w_call, w_aNil, w_aCons, w_lCall, w_append, w_nil, w_lnil, w_seq, w_next, w_ret, w_set, w_expr, w_sif, w_sub, w_unp, w_fn1, w_fn2, w_fn3, w_fn4, w_fn5, w_join, w_vSrc, w_aSrc, w_lSrc, w_catLL, w_catOL, w_repL, w_sortV, w_asI, w_slE0, w_slE1, w_sl, q_srcT, q_srcS, q_srcR, q_zipT, q_slT, w_lc, w_forS, Int.toNat_natCast, v_0, v_S, List.replicate_succ, List.replicate_zero, Nat.reduceSub, List.getElem?_cons_zero, List.getElem?_cons_succ, List.set_cons_zero, List.set_cons_succ, if_true, if_false, Bool.false_eq_true, Bool.not_true, Bool.not_false, q_add, q_addT, q_addS, q_sub, q_eq, q_eqS, q_eqB, q_ne, q_neS, q_neB, q_lt, q_ltS, q_le, q_gt, q_ge, q_in1, q_nin1, q_isN, q_isnN, q_isB, q_isnB, q_isiI0, q_isiI1, q_isiI2, q_isiI3, q_isiI4, q_isiI5, q_isiB0, q_isiB1, q_isiB2, q_isiB3, q_isiB4, q_isiB5, q_isiS0, q_isiS1, q_isiS2, q_isiS3, q_isiS4, q_isiS5, q_isiT0, q_isiT1, q_isiT2, q_isiT3, q_isiT4, q_isiT5, q_isiR0, q_isiR1, q_isiR2, q_isiR3, q_isiR4, q_isiR5, q_isiN0, q_isiN1, q_isiN2, q_isiN3, q_isiN4, q_isiN5, q_lenS, q_lenT, q_lenR, q_min2, q_max2, q_strS, q_tupP, ix_0, ix_1, ix_2, ix_3, decide_true, decide_false, List.cons.injEq, reduceCtorEq, and_false, false_and, and_true, true_and, Nat.reduceEqDiff, Int.reduceLE, Int.reduceEq, Int.reduceLT, if_false]
  by_cases c2 : p.take 1 = [124]
  · simp only [c2, w_raise, w_try, w_vMS, w_vML, w_fmt, w_js, w_fj0, w_fj1, w_disp2, w_get2, w_idxC, w_split, w_par, w_unpL, w_unpV, w_dnew, w_dnewN, w_subD, w_bind, w_noX, w_ok, w_C, w_op2, w_asB, w_op3, w_and, w_or, w_not, w_test, w_bAnd, w_bOr, w_bNot, w_if, w_lif, w_tup, w_lst, w_alloc, w_vL, w_call, w_aNil, w_aCons, w_lCall, w_append, w_nil, w_lnil, w_seq, w_next, w_ret, w_set, w_expr, w_sif, w_sub, w_unp, w_fn1, w_fn2, w_fn3, w_fn4, w_fn5, w_join, w_vSrc, w_aSrc, w_lSrc, w_catLL, w_catOL, w_repL, w_sortV, w_asI, w_slE0, w_slE1, w_sl, q_srcT, q_srcS, q_srcR, q_zipT, q_slT, w_lc, w_forS, Int.toNat_natCast, v_0, v_S, List.replicate_succ, List.replicate_zero, Nat.reduceSub, List.getElem?_cons_zero, List.getElem?_cons_succ, List.set_cons_zero, List.set_cons_succ, if_true, if_false, Bool.false_eq_true, Bool.not_true, Bool.not_false, q_add, q_addT, q_addS, q_sub, q_eq, q_eqS, q_eqB, q_ne, q_neS, q_neB, q_lt, q_ltS, q_le, q_gt, q_ge, q_in1, q_nin1, q_isN, q_isnN, q_isB, q_isnB, q_isiI0, q_isiI1, q_isiI2, q_isiI3, q_isiI4, q_isiI5, q_isiB0, q_isiB1, q_isiB2, q_isiB3, q_isiB4, q_isiB5, q_isiS0, q_isiS1, q_isiS2, q_isiS3, q_isiS4, q_isiS5, q_isiT0, q_isiT1, q_isiT2, q_isiT3, q_isiT4, q_isiT5, q_isiR0, q_isiR1, q_isiR2, q_isiR3, q_isiR4, q_isiR5, q_isiN0, q_isiN1, q_isiN2, q_isiN3, q_isiN4, q_isiN5, q_lenS, q_lenT, q_lenR, q_min2, q_max2, q_strS, q_tupP, ix_0, ix_1, ix_2, ix_3, decide_true, decide_false, List.cons.injEq, reduceCtorEq, and_false, false_and, and_true, true_and, Nat.reduceEqDiff, Int.reduceLE, Int.reduceEq, Int.reduceLT, List.length_cons, List.length_nil, lim_0, lim_1, lim_2, lim_3, lim_4, lim_5, lim_6, lim_7, lim_8, lim_9, lim_10, lim_11, lim_12, lim_13, lim_14, lim_15, lim_16, lim_17, lim_18, lim_19, lim_20, lim_21, lim_22, lim_23, Nat.reduceAdd, Nat.reduceLeDiff, if_true, q_split (show (p.drop 1).length + 2 ≤ LIM by simp only [LIM]; omega) (show 124 < 256 by decide), true_and]
    exact Px.refl
  simp only [c2, w_raise, w_try, w_vMS, w_vML, w_fmt, w_js, w_fj0, w_fj1, w_disp2, w_get2, w_idxC, w_split, w_par, w_unpL, w_unpV, w_dnew, w_dnewN, w_subD, w_bind, w_noX, w_ok, w_C, w_op2, w_asB, w_op3, w_and, w_or, w_not, w_test, w_bAnd, w_bOr, w_bNot, w_if, w_lif, w_tup, w_lst, w_alloc, w_vL, w_call, w_aNil, w_aCons, w_lCall, w_append, w_nil, w_lnil, w_seq, w_next, w_ret, w_set, w_expr, w_sif, w_sub, w_unp, w_fn1, w_fn2, w_fn3, w_fn4, w_fn5, w_join, w_vSrc, w_aSrc, w_lSrc, w_catLL, w_catOL, w_repL, w_sortV, w_asI, w_slE0, w_slE1, w_sl, q_srcT, q_srcS, q_srcR, q_zipT, q_slT, w_lc, w_forS, Int.toNat_natCast, v_0, v_S, List.replicate_succ, List.replicate_zero, Nat.reduceSub, List.getElem?_cons_zero, List.getElem?_cons_succ, List.set_cons_zero, List.set_cons_succ, if_true, if_false, Bool.false_eq_true, Bool.not_true, Bool.not_false, q_add, q_addT, q_addS, q_sub, q_eq, q_eqS, q_eqB, q_ne, q_neS, q_neB, q_lt, q_ltS, q_le, q_gt, q_ge, q_in1, q_nin1, q_isN, q_isnN, q_isB, q_isnB, q_isiI0, q_isiI1, q_isiI2, q_isiI3, q_isiI4, q_isiI5, q_isiB0, q_isiB1, q_isiB2, q_isiB3, q_isiB4, q_isiB5, q_isiS0, q_isiS1, q_isiS2, q_isiS3, q_isiS4, q_isiS5, q_isiT0, q_isiT1, q_isiT2, q_isiT3, q_isiT4, q_isiT5, q_isiR0, q_isiR1, q_isiR2, q_isiR3, q_isiR4, q_isiR5, q_isiN0, q_isiN1, q_isiN2, q_isiN3, q_isiN4, q_isiN5, q_lenS, q_lenT, q_lenR, q_min2, q_max2, q_strS, q_tupP, ix_0, ix_1, ix_2, ix_3, decide_true, decide_false, List.cons.injEq, reduceCtorEq, and_false, false_and, and_true, true_and, Nat.reduceEqDiff, Int.reduceLE, Int.reduceEq, Int.reduceLT, if_false]
  by_cases c3 : p.take 1 = [110]
  · simp only [c3, w_raise, w_try, w_vMS, w_vML, w_fmt, w_js, w_fj0, w_fj1, w_disp2, w_get2, w_idxC, w_split, w_par, w_unpL, w_unpV, w_dnew, w_dnewN, w_subD, w_bind, w_noX, w_ok, w_C, w_op2, w_asB, w_op3, w_and, w_or, w_not, w_test, w_bAnd, w_bOr, w_bNot, w_if, w_lif, w_tup, w_lst, w_alloc, w_vL, w_call, w_aNil, w_aCons, w_lCall, w_append, w_nil, w_lnil, w_seq, w_next, w_ret, w_set, w_expr, w_sif, w_sub, w_unp, w_fn1, w_fn2, w_fn3, w_fn4, w_fn5, w_join, w_vSrc, w_aSrc, w_lSrc, w_catLL, w_catOL, w_repL, w_sortV, w_asI, w_slE0, w_slE1, w_sl, q_srcT, q_srcS, q_srcR, q_zipT, q_slT, w_lc, w_forS, Int.toNat_natCast, v_0, v_S, List.replicate_succ, List.replicate_zero, Nat.reduceSub, List.getElem?_cons_zero, List.getElem?_cons_succ, List.set_cons_zero, List.set_cons_succ, if_true, if_false, Bool.false_eq_true, Bool.not_true, Bool.not_false, q_add, q_addT, q_addS, q_sub, q_eq, q_eqS, q_eqB, q_ne, q_neS, q_neB, q_lt, q_ltS, q_le, q_gt, q_ge, q_in1, q_nin1, q_isN, q_isnN, q_isB, q_isnB, q_isiI0, q_isiI1, q_isiI2, q_isiI3, q_isiI4, q_isiI5, q_isiB0, q_isiB1, q_isiB2, q_isiB3, q_isiB4, q_isiB5, q_isiS0, q_isiS1, q_isiS2, q_isiS3, q_isiS4, q_isiS5, q_isiT0, q_isiT1, q_isiT2, q_isiT3, q_isiT4, q_isiT5, q_isiR0, q_isiR1, q_isiR2, q_isiR3, q_isiR4, q_isiR5, q_isiN0, q_isiN1, q_isiN2, q_isiN3, q_isiN4, q_isiN5, q_lenS, q_lenT, q_lenR, q_min2, q_max2, q_strS, q_tupP, ix_0, ix_1, ix_2, ix_3, decide_true, decide_false, List.cons.injEq, reduceCtorEq, and_false, false_and, and_true, true_and, Nat.reduceEqDiff, Int.reduceLE, Int.reduceEq, Int.reduceLT, List.length_cons, List.length_nil, lim_0, lim_1, lim_2, lim_3, lim_4, lim_5, lim_6, lim_7, lim_8, lim_9, lim_10, lim_11, lim_12, lim_13, lim_14, lim_15, lim_16, lim_17, lim_18, lim_19, lim_20, lim_21, lim_22, lim_23, Nat.reduceAdd, Nat.reduceLeDiff, if_true, s_numberOf hd, true_and]
    exact Px.refl
  simp only [c3, w_raise, w_try, w_vMS, w_vML, w_fmt, w_js, w_fj0, w_fj1, w_disp2, w_get2, w_idxC, w_split, w_par, w_unpL, w_unpV, w_dnew, w_dnewN, w_subD, w_bind, w_noX, w_ok, w_C, w_op2, w_asB, w_op3, w_and, w_or, w_not, w_test, w_bAnd, w_bOr, w_bNot, w_if, w_lif, w_tup, w_lst, w_alloc, w_vL, w_call, w_aNil, w_aCons, w_lCall, w_append, w_nil, w_lnil, w_seq, w_next, w_ret, w_set, w_expr, w_sif, w_sub, w_unp, w_fn1, w_fn2, w_fn3, w_fn4, w_fn5, w_join, w_vSrc, w_aSrc, w_lSrc, w_catLL, w_catOL, w_repL, w_sortV, w_asI, w_slE0, w_slE1, w_sl, q_srcT, q_srcS, q_srcR, q_zipT, q_slT, w_lc, w_forS, Int.toNat_natCast, v_0, v_S, List.replicate_succ, List.replicate_zero, Nat.reduceSub, List.getElem?_cons_zero, List.getElem?_cons_succ, List.set_cons_zero, List.set_cons_succ, if_true, if_false, Bool.false_eq_true, Bool.not_true, Bool.not_false, q_add, q_addT, q_addS, q_sub, q_eq, q_eqS, q_eqB, q_ne, q_neS, q_neB, q_lt, q_ltS, q_le, q_gt, q_ge, q_in1, q_nin1, q_isN, q_isnN, q_isB, q_isnB, q_isiI0, q_isiI1, q_isiI2, q_isiI3, q_isiI4, q_isiI5, q_isiB0, q_isiB1, q_isiB2, q_isiB3, q_isiB4, q_isiB5, q_isiS0, q_isiS1, q_isiS2, q_isiS3, q_isiS4, q_isiS5, q_isiT0, q_isiT1, q_isiT2, q_isiT3, q_isiT4, q_isiT5, q_isiR0, q_isiR1, q_isiR2, q_isiR3, q_isiR4, q_isiR5, q_isiN0, q_isiN1, q_isiN2, q_isiN3, q_isiN4, q_isiN5, q_lenS, q_lenT, q_lenR, q_min2, q_max2, q_strS, q_tupP, ix_0, ix_1, ix_2, ix_3, decide_true, decide_false, List.cons.injEq, reduceCtorEq, and_false, false_and, and_true, true_and, Nat.reduceEqDiff, Int.reduceLE, Int.reduceEq, Int.reduceLT, List.length_cons, List.length_nil, lim_0, lim_1, lim_2, lim_3, lim_4, lim_5, lim_6, lim_7, lim_8, lim_9, lim_10, lim_11, lim_12, lim_13, lim_14, lim_15, lim_16, lim_17, lim_18, lim_19, lim_20, lim_21, lim_22, lim_23, Nat.reduceAdd, Nat.reduceLeDiff, if_false, isDic_app, get_name, s_numbersIn hdl hd, cat_tup]
  have := nums_len (s := p.drop 1)
  rw [if_pos (by simp only [List.length_cons, List.length_nil, LIM]; omega), w_ok]
  exact ⟨rfl, Px.app⟩
theorem s_readField {p : Sg} (hl : p.length ≤ 1000) (hc : ∀ c ∈ p, c < 1114112) : OkX noE (run (k + 4) I_read_field [.str p] h) fun v h' => v = readF p ∧ Px h h' := by
  by_cases hs : 42 ∈ p
  · rw [e_read_field]
    unfold m_read_field
    have q1 : indexM (.str p) (.str [42]) h = .ok (.int (p.idxOf 42 : Nat)) h := if_pos hs
    have il : p.idxOf 42 < p.length := List.idxOf_lt_length_iff.mpr hs
    have h1 : ∀ c ∈ p.take (p.idxOf 42), c < 1114112 := fun c h => hc c (List.mem_of_mem_take h)
    have h2 : ∀ c ∈ p.drop (p.idxOf 42 + 1), c < 1114112 := fun c h => hc c (List.mem_of_mem_drop h)
    have n1 : 42 ∉ p.take (p.idxOf 42) := fun m => by
      obtain ⟨i, hi, e⟩ := List.mem_iff_getElem.mp m
      have hi2 : i < p.idxOf 42 := by simp at hi; omega
      have := List.not_of_lt_findIdx (p := (· == 42)) (xs := p) (i := i) hi2
      simp at e
      simp [e] at this
    simp only [w_raise, w_try, w_vMS, w_vML, w_fmt, w_js, w_fj0, w_fj1, w_disp2, w_get2, w_idxC, w_split, w_par, w_unpL, w_unpV, w_dnew, w_dnewN, w_subD, w_bind, w_noX, w_ok, w_C, w_op2, w_asB, w_op3, w_and, w_or, w_not, w_test, w_bAnd, w_bOr, w_bNot, w_if, w_lif, w_tup, w_lst, w_alloc, w_vL, w_call, w_aNil, w_aCons, w_lCall, w_append, w_nil, w_lnil, w_seq, w_next, w_ret, w_set, w_expr, w_sif, w_sub, w_unp, w_fn1, w_fn2, w_fn3, w_fn4, w_fn5, w_join, w_vSrc, w_aSrc, w_lSrc, w_catLL, w_catOL, w_repL, w_sortV, w_asI, w_slE0, w_slE1, w_sl, q_srcT, q_srcS, q_srcR, q_zipT, q_slT, w_lc, w_forS, Int.toNat_natCast, v_0, v_S, List.replicate_succ, List.replicate_zero, Nat.reduceSub, List.getElem?_cons_zero, List.getElem?_cons_succ, List.set_cons_zero, List.set_cons_succ, if_true, if_false, Bool.false_eq_true, Bool.not_true, Bool.not_false, q_add, q_addT, q_addS, q_sub, q_eq, q_eqS, q_eqB, q_ne, q_neS, q_neB, q_lt, q_ltS, q_le, q_gt, q_ge, q_in1, q_nin1, q_isN, q_isnN, q_isB, q_isnB, q_isiI0, q_isiI1, q_isiI2, q_isiI3, q_isiI4, q_isiI5, q_isiB0, q_isiB1, q_isiB2, q_isiB3, q_isiB4, q_isiB5, q_isiS0, q_isiS1, q_isiS2, q_isiS3, q_isiS4, q_isiS5, q_isiT0, q_isiT1, q_isiT2, q_isiT3, q_isiT4, q_isiT5, q_isiR0, q_isiR1, q_isiR2, q_isiR3, q_isiR4, q_isiR5, q_isiN0, q_isiN1, q_isiN2, q_isiN3, q_isiN4, q_isiN5, q_lenS, q_lenT, q_lenR, q_min2, q_max2, q_strS, q_tupP, ix_0, ix_1, ix_2, ix_3, hs, decide_true, decide_false, List.cons.injEq, reduceCtorEq, and_false, false_and, and_true, true_and, Nat.reduceEqDiff, Int.reduceLE, Int.reduceEq, Int.reduceLT, q1, take_n _ _ hl]
    refine (s_readS (k := k) (by simp; omega) h1 n1).imp fun v h' q => ?_
    obtain ⟨rfl, p1⟩ := q
    have e1 : ((p.idxOf 42 : Nat) : Int) + 1 = ((p.idxOf 42 + 1 : Nat) : Int) := by omega
    simp only [w_raise, w_try, w_vMS, w_vML, w_fmt, w_js, w_fj0, w_fj1, w_disp2, w_get2, w_idxC, w_split, w_par, w_unpL, w_unpV, w_dnew, w_dnewN, w_subD, w_bind, w_noX, w_ok, w_C, w_op2, w_asB, w_op3, w_and, w_or, w_not, w_test, w_bAnd, w_bOr, w_bNot, w_if, w_lif, w_tup, w_lst, w_alloc, w_vL, w_call, w_aNil, w_aCons, w_lCall, w_append, w_nil, w_lnil, w_seq, w_next, w_ret, w_set, w_expr, w_sif, w_sub, w_unp, w_fn1, w_fn2, w_fn3, w_fn4, w_fn5, w_join, w_vSrc, w_aSrc, w_lSrc, w_catLL, w_catOL, w_repL, w_sortV, w_asI, w_slE0, w_slE1, w_sl, q_srcT, q_srcS, q_srcR, q_zipT, q_slT, w_lc, w_forS, Int.toNat_natCast, v_0, v_S, List.replicate_succ, List.replicate_zero, Nat.reduceSub, List.getElem?_cons_zero, List.getElem?_cons_succ, List.set_cons_zero, List.set_cons_succ, if_true, if_false, Bool.false_eq_true, Bool.not_true, Bool.not_false, q_add, q_addT, q_addS, q_sub, q_eq, q_eqS, q_eqB, q_ne, q_neS, q_neB, q_lt, q_ltS, q_le, q_gt, q_ge, q_in1, q_nin1, q_isN, q_isnN, q_isB, q_isnB, q_isiI0, q_isiI1, q_isiI2, q_isiI3, q_isiI4, q_isiI5, q_isiB0, q_isiB1, q_isiB2, q_isiB3, q_isiB4, q_isiB5, q_isiS0, q_isiS1, q_isiS2, q_isiS3, q_isiS4, q_isiS5, q_isiT0, q_isiT1, q_isiT2, q_isiT3, q_isiT4, q_isiT5, q_isiR0, q_isiR1, q_isiR2, q_isiR3, q_isiR4, q_isiR5, q_isiN0, q_isiN1, q_isiN2, q_isiN3, q_isiN4, q_isiN5, q_lenS, q_lenT, q_lenR, q_min2, q_max2, q_strS, q_tupP, ix_0, ix_1, ix_2, ix_3, List.length_cons, List.length_nil, lim_0, lim_1, lim_2, lim_3, lim_4, lim_5, lim_6, lim_7, lim_8, lim_9, lim_10, lim_11, lim_12, lim_13, lim_14, lim_15, lim_16, lim_17, lim_18, lim_19, lim_20, lim_21, lim_22, lim_23, Nat.reduceAdd, Nat.reduceLeDiff, e1, drop_n _ _ hl, s_numbersIn (show (p.drop (p.idxOf 42 + 1)).length ≤ 1000 by simp; omega) h2, cat_tup]
    have := nums_len (s := p.drop (p.idxOf 42 + 1))
    rw [if_pos (by simp only [List.length_cons, List.length_nil, List.length_drop, LIM] at this ⊢; omega), w_ok]
    refine ⟨?_, p1⟩
    simp only [readF, hs, if_true]
    rfl
  · refine (s_readS (k := k + 1) hl hc hs).imp fun v h' q => ⟨?_, q.2⟩
    rw [q.1]
    simp only [readF, hs, if_false]
end
end FT
end
section
set_option maxRecDepth 100000
namespace FT
open PySem L2
set_option autoImplicit false
section
variable {k : Nat} {h : MH}
theorem int_1 : ∀ w ∈ cNums, intP [.str w] h = .ok (.int ((cNums.idxOf w : Nat) : Int)) h := by
  intro w hw
  simp only [cNums, List.mem_cons, List.not_mem_nil, or_false] at hw
  rcases hw with rfl | rfl | rfl | rfl | rfl <;> rfl
theorem s_lawNumber {w : Sg} (hw : ∀ c ∈ w, c < 1114112) : run (k + 1) I__law_number [.str w] h = .ok (.int (numOf w)) h := Ok.eq (by
  rw [e__law_number]
  unfold m__law_number
  simp only [w_raise, w_try, w_vMS, w_vML, w_fmt, w_js, w_fj0, w_fj1, w_disp2, w_get2, w_idxC, w_split, w_par, w_unpL, w_unpV, w_dnew, w_dnewN, w_subD, w_bind, w_noX, w_ok, w_C, w_op2, w_asB, w_op3, w_and, w_or, w_not, w_test, w_bAnd, w_bOr, w_bNot, w_if, w_lif, w_tup, w_lst, w_alloc, w_vL, w_call, w_aNil, w_aCons, w_lCall, w_append, w_nil, w_lnil, w_seq, w_next, w_ret, w_set, w_expr, w_sif, w_sub, w_unp, w_fn1, w_fn2, w_fn3, w_fn4, w_fn5, w_join, w_vSrc, w_aSrc, w_lSrc, w_catLL, w_catOL, w_repL, w_sortV, w_asI, w_slE0, w_slE1, w_sl, q_srcT, q_srcS, q_srcR, q_zipT, q_slT, w_lc, w_forS, Int.toNat_natCast, v_0, v_S, List.replicate_succ, List.replicate_zero, Nat.reduceSub, List.getElem?_cons_zero, List.getElem?_cons_succ, List.set_cons_zero, List.set_cons_succ, if_true, if_false, Bool.false_eq_true, Bool.not_true, Bool.not_false, q_add, q_addT, q_addS, q_sub, q_eq, q_eqS, q_eqB, q_ne, q_neS, q_neB, q_lt, q_ltS, q_le, q_gt, q_ge, q_in1, q_nin1, q_isN, q_isnN, q_isB, q_isnB, q_isiI0, q_isiI1, q_isiI2, q_isiI3, q_isiI4, q_isiI5, q_isiB0, q_isiB1, q_isiB2, q_isiB3, q_isiB4, q_isiB5, q_isiS0, q_isiS1, q_isiS2, q_isiS3, q_isiS4, q_isiS5, q_isiT0, q_isiT1, q_isiT2, q_isiT3, q_isiT4, q_isiT5, q_isiR0, q_isiR1, q_isiR2, q_isiR3, q_isiR4, q_isiR5, q_isiN0, q_isiN1, q_isiN2, q_isiN3, q_isiN4, q_isiN5, q_lenS, q_lenT, q_lenR, q_min2, q_max2, q_strS, q_tupP, ix_0, ix_1, ix_2, ix_3, List.length_cons, List.length_nil, lim_0, lim_1, lim_2, lim_3, lim_4, lim_5, lim_6, lim_7, lim_8, lim_9, lim_10, lim_11, lim_12, lim_13, lim_14, lim_15, lim_16, lim_17, lim_18, lim_19, lim_20, lim_21, lim_22, lim_23, Nat.reduceAdd, Nat.reduceLeDiff]
  have it : inM (.str w) (.tup [.str [48], .str [49], .str [50], .str [51], .str [52]]) h = .ok (.bl (decide (w ∈ cNums))) h := by
    have := in_tup (h := h) (x := .str w) (ds := cNums.map .str) (pl_str hw) (pl_strs (by decide))
    rw [inD_strs] at this
    exact this
  rw [it, w_ok, num_is]
  by_cases c : w ∈ cNums
  · simp only [c, w_raise, w_try, w_vMS, w_vML, w_fmt, w_js, w_fj0, w_fj1, w_disp2, w_get2, w_idxC, w_split, w_par, w_unpL, w_unpV, w_dnew, w_dnewN, w_subD, w_bind, w_noX, w_ok, w_C, w_op2, w_asB, w_op3, w_and, w_or, w_not, w_test, w_bAnd, w_bOr, w_bNot, w_if, w_lif, w_tup, w_lst, w_alloc, w_vL, w_call, w_aNil, w_aCons, w_lCall, w_append, w_nil, w_lnil, w_seq, w_next, w_ret, w_set, w_expr, w_sif, w_sub, w_unp, w_fn1, w_fn2, w_fn3, w_fn4, w_fn5, w_join, w_vSrc, w_aSrc, w_lSrc, w_catLL, w_catOL, w_repL, w_sortV, w_asI, w_slE0, w_slE1, w_sl, q_srcT, q_srcS, q_srcR, q_zipT, q_slT, w_lc, w_forS, Int.toNat_natCast, v_0, v_S, List.replicate_succ, List.replicate_zero, Nat.reduceSub, List.getElem?_cons_zero, List.getElem?_cons_succ, List.set_cons_zero, List.set_cons_succ, if_true, if_false, Bool.false_eq_true, Bool.not_true, Bool.not_false, q_add, q_addT, q_addS, q_sub, q_eq, q_eqS, q_eqB, q_ne, q_neS, q_neB, q_lt, q_ltS, q_le, q_gt, q_ge, q_in1, q_nin1, q_isN, q_isnN, q_isB, q_isnB, q_isiI0, q_isiI1, q_isiI2, q_isiI3, q_isiI4, q_isiI5, q_isiB0, q_isiB1, q_isiB2, q_isiB3, q_isiB4, q_isiB5, q_isiS0, q_isiS1, q_isiS2, q_isiS3, q_isiS4, q_isiS5, q_isiT0, q_isiT1, q_isiT2, q_isiT3, q_isiT4, q_isiT5, q_isiR0, q_isiR1, q_isiR2, q_isiR3, q_isiR4, q_isiR5, q_isiN0, q_isiN1, q_isiN2, q_isiN3, q_isiN4, q_isiN5, q_lenS, q_lenT, q_lenR, q_min2, q_max2, q_strS, q_tupP, ix_0, ix_1, ix_2, ix_3, decide_true, decide_false, List.cons.injEq, reduceCtorEq, and_false, false_and, and_true, true_and, Nat.reduceEqDiff, Int.reduceLE, Int.reduceEq, Int.reduceLT, int_1 w c, if_true, and_self]
  · simp only [c, w_raise, w_try, w_vMS, w_vML, w_fmt, w_js, w_fj0, w_fj1, w_disp2, w_get2, w_idxC, w_split, w_par, w_unpL, w_unpV, w_dnew, w_dnewN, w_subD, w_bind, w_noX, w_ok, w_C, w_op2, w_asB, w_op3, w_and, w_or, w_not, w_test, w_bAnd, w_bOr, w_bNot, w_if, w_lif, w_tup, w_lst, w_alloc, w_vL, w_call, w_aNil, w_aCons, w_lCall, w_append, w_nil, w_lnil, w_seq, w_next, w_ret, w_set, w_expr, w_sif, w_sub, w_unp, w_fn1, w_fn2, w_fn3, w_fn4, w_fn5, w_join, w_vSrc, w_aSrc, w_lSrc, w_catLL, w_catOL, w_repL, w_sortV, w_asI, w_slE0, w_slE1, w_sl, q_srcT, q_srcS, q_srcR, q_zipT, q_slT, w_lc, w_forS, Int.toNat_natCast, v_0, v_S, List.replicate_succ, List.replicate_zero, Nat.reduceSub, List.getElem?_cons_zero, List.getElem?_cons_succ, List.set_cons_zero, List.set_cons_succ, if_true, if_false, Bool.false_eq_true, Bool.not_true, Bool.not_false, q_add, q_addT, q_addS, q_sub, q_eq, q_eqS, q_eqB, q_ne, q_neS, q_neB, q_lt, q_ltS, q_le, q_gt, q_ge, q_in1, q_nin1, q_isN, q_isnN, q_isB, q_isnB, q_isiI0, q_isiI1, q_isiI2, q_isiI3, q_isiI4, q_isiI5, q_isiB0, q_isiB1, q_isiB2, q_isiB3, q_isiB4, q_isiB5, q_isiS0, q_isiS1, q_isiS2, q_isiS3, q_isiS4, q_isiS5, q_isiT0, q_isiT1, q_isiT2, q_isiT3, q_isiT4, q_isiT5, q_isiR0, q_isiR1, q_isiR2, q_isiR3, q_isiR4, q_isiR5, q_isiN0, q_isiN1, q_isiN2, q_isiN3, q_isiN4, q_isiN5, q_lenS, q_lenT, q_lenR, q_min2, q_max2, q_strS, q_tupP, ix_0, ix_1, ix_2, ix_3, decide_true, decide_false, List.cons.injEq, reduceCtorEq, and_false, false_and, and_true, true_and, Nat.reduceEqDiff, Int.reduceLE, Int.reduceEq, Int.reduceLT, if_false, and_self])
theorem lnums {s : Sg} {env : Ev} {i : Nat} (hl : s.length ≤ 1000) (hc : ∀ c ∈ s, c < 1114112) (hi : i = 4) (he : ∀ x, env.set i x = [env[0]?.join, env[1]?.join, env[2]?.join, env[3]?.join, x]) :
    lcL (.nm i) bTrue (vCall (run (k + 1) I__law_number) (aCons (vVar 4) aNil)) env ((splC 44 s).map .str) h = .ok (nums s) h := by
  rw [lcL_map (fun w => .int (numOf w)) fun w hw => Ok.eq (by
    rw [he]
    simp only [w_raise, w_try, w_vMS, w_vML, w_fmt, w_js, w_fj0, w_fj1, w_disp2, w_get2, w_idxC, w_split, w_par, w_unpL, w_unpV, w_dnew, w_dnewN, w_subD, w_bind, w_noX, w_ok, w_C, w_op2, w_asB, w_op3, w_and, w_or, w_not, w_test, w_bAnd, w_bOr, w_bNot, w_if, w_lif, w_tup, w_lst, w_alloc, w_vL, w_call, w_aNil, w_aCons, w_lCall, w_append, w_nil, w_lnil, w_seq, w_next, w_ret, w_set, w_expr, w_sif, w_sub, w_unp, w_fn1, w_fn2, w_fn3, w_fn4, w_fn5, w_join, w_vSrc, w_aSrc, w_lSrc, w_catLL, w_catOL, w_repL, w_sortV, w_asI, w_slE0, w_slE1, w_sl, q_srcT, q_srcS, q_srcR, q_zipT, q_slT, w_lc, w_forS, Int.toNat_natCast, v_0, v_S, List.replicate_succ, List.replicate_zero, Nat.reduceSub, List.getElem?_cons_zero, List.getElem?_cons_succ, List.set_cons_zero, List.set_cons_succ, if_true, if_false, Bool.false_eq_true, Bool.not_true, Bool.not_false, q_add, q_addT, q_addS, q_sub, q_eq, q_eqS, q_eqB, q_ne, q_neS, q_neB, q_lt, q_ltS, q_le, q_gt, q_ge, q_in1, q_nin1, q_isN, q_isnN, q_isB, q_isnB, q_isiI0, q_isiI1, q_isiI2, q_isiI3, q_isiI4, q_isiI5, q_isiB0, q_isiB1, q_isiB2, q_isiB3, q_isiB4, q_isiB5, q_isiS0, q_isiS1, q_isiS2, q_isiS3, q_isiS4, q_isiS5, q_isiT0, q_isiT1, q_isiT2, q_isiT3, q_isiT4, q_isiT5, q_isiR0, q_isiR1, q_isiR2, q_isiR3, q_isiR4, q_isiR5, q_isiN0, q_isiN1, q_isiN2, q_isiN3, q_isiN4, q_isiN5, q_lenS, q_lenT, q_lenR, q_min2, q_max2, q_strS, q_tupP, ix_0, ix_1, ix_2, ix_3, s_lawNumber fun c h => hc c (splC_mem hw c h), and_self])]
  rfl
theorem s_lawS {p : Sg} (hl : p.length ≤ 1000) (hc : ∀ c ∈ p, c < 1114112) (hs : ¬ p.count 42 = 1) : OkX noE (run (k + 3) I__law_part [.str p] h) fun v h' => v = readS p ∧ Px h h' := by
  rw [e__law_part]
  unfold m__law_part
  have hd : ∀ c ∈ p.drop 1, c < 1114112 := fun c h => hc c (List.mem_of_mem_drop h)
  have hdl : (p.drop 1).length ≤ 1000 := by simp; omega
  have c0 : ¬ ((p.count 42 : Nat) : Int) = 1 := by omega
  simp only [w_raise, w_try, w_vMS, w_vML, w_fmt, w_js, w_fj0, w_fj1, w_disp2, w_get2, w_idxC, w_split, w_par, w_unpL, w_unpV, w_dnew, w_dnewN, w_subD, w_bind, w_noX, w_ok, w_C, w_op2, w_asB, w_op3, w_and, w_or, w_not, w_test, w_bAnd, w_bOr, w_bNot, w_if, w_lif, w_tup, w_lst, w_alloc, w_vL, w_call, w_aNil, w_aCons, w_lCall, w_append, w_nil, w_lnil, w_seq, w_next, w_ret, w_set, w_expr, w_sif, w_sub, w_unp, w_fn1, w_fn2, w_fn3, w_fn4, w_fn5, w_join, w_vSrc, w_aSrc, w_lSrc, w_catLL, w_catOL, w_repL, w_sortV, w_asI, w_slE0, w_slE1, w_sl, q_srcT, q_srcS, q_srcR, q_zipT, q_slT, w_lc, w_forS, Int.toNat_natCast, v_0, v_S, List.replicate_succ, List.replicate_zero, Nat.reduceSub, List.getElem?_cons_zero, List.getElem?_cons_succ, List.set_cons_zero, List.set_cons_succ, if_true, if_false, Bool.false_eq_true, Bool.not_true, Bool.not_false, q_add, q_addT, q_addS, q_sub, q_eq, q_eqS, q_eqB, q_ne, q_neS, q_neB, q_lt, q_ltS, q_le, q_gt, q_ge, q_in1, q_nin1, q_isN, q_isnN, q_isB, q_isnB, q_isiI0, q_isiI1, q_isiI2, q_isiI3, q_isiI4, q_isiI5, q_isiB0, q_isiB1, q_isiB2, q_isiB3, q_isiB4, q_isiB5, q_isiS0, q_isiS1, q_isiS2, q_isiS3, q_isiS4, q_isiS5, q_isiT0, q_isiT1, q_isiT2, q_isiT3, q_isiT4, q_isiT5, q_isiR0, q_isiR1, q_isiR2, q_isiR3, q_isiR4, q_isiR5, q_isiN0, q_isiN1, q_isiN2, q_isiN3, q_isiN4, q_isiN5, q_lenS, q_lenT, q_lenR, q_min2, q_max2, q_strS, q_tupP, ix_0, ix_1, ix_2, ix_3, countM, c0, decide_true, decide_false, List.cons.injEq, reduceCtorEq, and_false, false_and, and_true, true_and, Nat.reduceEqDiff, Int.reduceLE, Int.reduceEq, Int.reduceLT, take_1 _ hl, drop_1 _ hl]
  unfold readS
  by_cases c1 : p.take 1 = [61]
  · simp only [c1, w_raise, w_try, w_vMS, w_vML, w_fmt, w_js, w_fj0, w_fj1, w_disp2, w_get2, w_idxC, w_split, w_par, w_unpL, w_unpV, w_dnew, w_dnewN, w_subD, w_bind, w_noX, w_ok, w_C, w_op2, w_asB, w_op3, w_and, w_or, w_not, w_test, w_bAnd, w_bOr, w_bNot, w_if, w_lif, w_tup, w_lst, w_alloc, w_vL, w_call, w_aNil, w_aCons, w_lCall, w_append, w_nil, w_lnil, w_seq, w_next, w_ret, w_set, w_expr, w_sif, w_sub, w_unp, w_fn1, w_fn2, w_fn3, w_fn4, w_fn5, w_join, w_vSrc, w_aSrc, w_lSrc, w_catLL, w_catOL, w_repL, w_sortV, w_asI, w_slE0, w_slE1, w_sl, q_srcT, q_srcS, q_srcR, q_zipT, q_slT, w_lc, w_forS, Int.toNat_natCast, v_0, v_S, List.replicate_succ, List.replicate_zero, Nat.reduceSub, List.getElem?_cons_zero, List.getElem?_cons_succ, List.set_cons_zero, List.set_cons_succ, if_true, if_false, Bool.false_eq_true, Bool.not_true, Bool.not_false, q_add, q_addT, q_addS, q_sub, q_eq, q_eqS, q_eqB, q_ne, q_neS, q_neB, q_lt, q_ltS, q_le, q_gt, q_ge, q_in1, q_nin1, q_isN, q_isnN, q_isB, q_isnB, q_isiI0, q_isiI1, q_isiI2, q_isiI3, q_isiI4, q_isiI5, q_isiB0, q_isiB1, q_isiB2, q_isiB3, q_isiB4, q_isiB5, q_isiS0, q_isiS1, q_isiS2, q_isiS3, q_isiS4, q_isiS5, q_isiT0, q_isiT1, q_isiT2, q_isiT3, q_isiT4, q_isiT5, q_isiR0, q_isiR1, q_isiR2, q_isiR3, q_isiR4, q_isiR5, q_isiN0, q_isiN1, q_isiN2, q_isiN3, q_isiN4, q_isiN5, q_lenS, q_lenT, q_lenR, q_min2, q_max2, q_strS, q_tupP, ix_0, ix_1, ix_2, ix_3, decide_true, decide_false, List.cons.injEq, reduceCtorEq, and_false, false_and, and_true, true_and, Nat.reduceEqDiff, Int.reduceLE, Int.reduceEq, Int.reduceLT, List.length_cons, List.length_nil, lim_0, lim_1, lim_2, lim_3, lim_4, lim_5, lim_6, lim_7, lim_8, lim_9, lim_10, lim_11, lim_12, lim_13, lim_14, lim_15, lim_16, lim_17, lim_18, lim_19, lim_20, lim_21, lim_22, lim_23, Nat.reduceAdd, Nat.reduceLeDiff, if_true, drop_1 _ hl, true_and]
    exact Px.refl
  simp only [c1, w_raise, w_try, w_vMS, w_vML, w_fmt, w_js, w_fj0, w_fj1, w_disp2, w_get2, w_idxC, w_split, w_par, w_unpL, w_unpV, w_dnew, w_dnewN, w_subD, w_bind, w_noX, w_ok, w_C, w_op2, w_asB, w_op3, w_and, w_or, w_not, w_test, w_bAnd, w_bOr, w_bNot, w_if, w_lif, w_tup, w_lst, w_alloc, w_vL, w_call, w_aNil, w_aCons, w_lCall, w_append, w_nil, w_lnil, w_seq, w_next, w_ret, w_set, w_expr, w_sif, w_sub, w_unp, w_fn1, w_fn2, w_fn3, w_fn4, w_fn5, w_join, w_vSrc, w_aSrc, w_lSrc, w_catLL, w_catOL, w_repL, w_sortV, w_asI, w_slE0, w_slE1, w_sl, q_srcT, q_srcS, q_srcR, q_zipT, q_slT, w_lc, w_forS, Int.toNat_natCast, v_0, v_S, List.replicate_succ, List.replicate_zero, Nat.reduceSub, List.getElem?_cons_zero, List.getElem?_cons_succ, List.set_cons_zero, List.set_cons_succ, if_true, if_false, Bool.false_eq_true, Bool.not_true, Bool.not_false, q_add, q_addT, q_addS, q_sub, q_eq, q_eqS, q_eqB, q_ne, q_neS, q_neB, q_lt, q_ltS, q_le, q_gt, q_ge, q_in1, q_nin1, q_isN, q_isnN, q_isB, q_isnB, q_isiI0, q_isiI1, q_isiI2, q_isiI3, q_isiI4, q_isiI5, q_isiB0, q_isiB1, q_isiB2, q_isiB3, q_isiB4, q_isiB5, q_isiS0, q_isiS1, q_isiS2, q_isiS3, q_isiS4, q_isiS5, q_isiT0, q_isiT1, q_isiT2, q_isiT3, q_isiT4, q_isiT5, q_isiR0, q_isiR1, q_isiR2, q_isiR3, q_isiR4, q_isiR5, q_isiN0, q_isiN1, q_isiN2, q_isiN3, q_isiN4, q_isiN5, q_lenS, q_lenT, q_lenR, q_min2, q_max2, q_strS, q_tupP, ix_0, ix_1, ix_2, ix_3, decide_true, decide_false, List.cons.injEq, reduceCtorEq, and_false, false_and, and_true, true_and, Nat.reduceEqDiff, Int.reduceLE, Int.reduceEq, Int.reduceLT, if_false, take_1 _ hl]
  by_cases c2 : p.take 1 = [124]
  · simp only [c2, w_raise, w_try, w_vMS, w_vML, w_fmt, w_js, w_fj0, w_fj1, w_disp2, w_get2, w_idxC, w_split, w_par, w_unpL, w_unpV, w_dnew, w_dnewN, w_subD, w_bind, w_noX, w_ok, w_C, w_op2, w_asB, w_op3, w_and, w_or, w_not, w_test, w_bAnd, w_bOr, w_bNot, w_if, w_lif, w_tup, w_lst, w_alloc, w_vL, w_call, w_aNil, w_aCons, w_lCall, w_append, w_nil, w_lnil, w_seq, w_next, w_ret, w_set, w_expr, w_sif, w_sub, w_unp, w_fn1, w_fn2, w_fn3, w_fn4, w_fn5, w_join, w_vSrc, w_aSrc, w_lSrc, w_catLL, w_catOL, w_repL, w_sortV, w_asI, w_slE0, w_slE1, w_sl, q_srcT, q_srcS, q_srcR, q_zipT, q_slT, w_lc, w_forS, Int.toNat_natCast, v_0, v_S, List.replicate_succ, List.replicate_zero, Nat.reduceSub, List.getElem?_cons_zero, List.getElem?_cons_succ, List.set_cons_zero, List.set_cons_succ, if_true, if_false, Bool.false_eq_true, Bool.not_true, Bool.not_false, q_add, q_addT, q_addS, q_sub, q_eq, q_eqS, q_eqB, q_ne, q_neS, q_neB, q_lt, q_ltS, q_le, q_gt, q_ge, q_in1, q_nin1, q_isN, q_isnN, q_isB, q_isnB, q_isiI0, q_isiI1, q_isiI2, q_isiI3, q_isiI4, q_isiI5, q_isiB0, q_isiB1, q_isiB2, q_isiB3, q_isiB4, q_isiB5, q_isiS0, q_isiS1, q_isiS2, q_isiS3, q_isiS4, q_isiS5, q_isiT0, q_isiT1, q_isiT2, q_isiT3, q_isiT4, q_isiT5, q_isiR0, q_isiR1, q_isiR2, q_isiR3, q_isiR4, q_isiR5, q_isiN0, q_isiN1, q_isiN2, q_isiN3, q_isiN4, q_isiN5, q_lenS, q_lenT, q_lenR, q_min2, q_max2, q_strS, q_tupP, ix_0, ix_1, ix_2, ix_3, decide_true, decide_false, List.cons.injEq, reduceCtorEq, and_false, false_and, and_true, true_and, Nat.reduceEqDiff, Int.reduceLE, Int.reduceEq, Int.reduceLT, List.length_cons, List.length_nil, lim_0, lim_1, lim_2, lim_3, lim_4, lim_5, lim_6, lim_7, lim_8, lim_9, lim_10, lim_11, lim_12, lim_13, lim_14, lim_15, lim_16, lim_17, lim_18, lim_19, lim_20, lim_21, lim_22, lim_23, Nat.reduceAdd, Nat.reduceLeDiff, if_true, drop_1 _ hl, q_split (show (p.drop 1).length + 2 ≤ LIM by simp only [LIM]; omega) (show 124 < 256 by decide), true_and]
    exact Px.refl
  simp only [c2, w_raise, w_try, w_vMS, w_vML, w_fmt, w_js, w_fj0, w_fj1, w_disp2, w_get2, w_idxC, w_split, w_par, w_unpL, w_unpV, w_dnew, w_dnewN, w_subD, w_bind, w_noX, w_ok, w_C, w_op2, w_asB, w_op3, w_and, w_or, w_not, w_test, w_bAnd, w_bOr, w_bNot, w_if, w_lif, w_tup, w_lst, w_alloc, w_vL, w_call, w_aNil, w_aCons, w_lCall, w_append, w_nil, w_lnil, w_seq, w_next, w_ret, w_set, w_expr, w_sif, w_sub, w_unp, w_fn1, w_fn2, w_fn3, w_fn4, w_fn5, w_join, w_vSrc, w_aSrc, w_lSrc, w_catLL, w_catOL, w_repL, w_sortV, w_asI, w_slE0, w_slE1, w_sl, q_srcT, q_srcS, q_srcR, q_zipT, q_slT, w_lc, w_forS, Int.toNat_natCast, v_0, v_S, List.replicate_succ, List.replicate_zero, Nat.reduceSub, List.getElem?_cons_zero, List.getElem?_cons_succ, List.set_cons_zero, List.set_cons_succ, if_true, if_false, Bool.false_eq_true, Bool.not_true, Bool.not_false, q_add, q_addT, q_addS, q_sub, q_eq, q_eqS, q_eqB, q_ne, q_neS, q_neB, q_lt, q_ltS, q_le, q_gt, q_ge, q_in1, q_nin1, q_isN, q_isnN, q_isB, q_isnB, q_isiI0, q_isiI1, q_isiI2, q_isiI3, q_isiI4, q_isiI5, q_isiB0, q_isiB1, q_isiB2, q_isiB3, q_isiB4, q_isiB5, q_isiS0, q_isiS1, q_isiS2, q_isiS3, q_isiS4, q_isiS5, q_isiT0, q_isiT1, q_isiT2, q_isiT3, q_isiT4, q_isiT5, q_isiR0, q_isiR1, q_isiR2, q_isiR3, q_isiR4, q_isiR5, q_isiN0, q_isiN1, q_isiN2, q_isiN3, q_isiN4, q_isiN5, q_lenS, q_lenT, q_lenR, q_min2, q_max2, q_strS, q_tupP, ix_0, ix_1, ix_2, ix_3, decide_true, decide_false, List.cons.injEq, reduceCtorEq, and_false, false_and, and_true, true_and, Nat.reduceEqDiff, Int.reduceLE, Int.reduceEq, Int.reduceLT, if_false, take_1 _ hl]
  by_cases c3 : p.take 1 = [110]
  · simp only [c3, w_raise, w_try, w_vMS, w_vML, w_fmt, w_js, w_fj0, w_fj1, w_disp2, w_get2, w_idxC, w_split, w_par, w_unpL, w_unpV, w_dnew, w_dnewN, w_subD, w_bind, w_noX, w_ok, w_C, w_op2, w_asB, w_op3, w_and, w_or, w_not, w_test, w_bAnd, w_bOr, w_bNot, w_if, w_lif, w_tup, w_lst, w_alloc, w_vL, w_call, w_aNil, w_aCons, w_lCall, w_append, w_nil, w_lnil, w_seq, w_next, w_ret, w_set, w_expr, w_sif, w_sub, w_unp, w_fn1, w_fn2, w_fn3, w_fn4, w_fn5, w_join, w_vSrc, w_aSrc, w_lSrc, w_catLL, w_catOL, w_repL, w_sortV, w_asI, w_slE0, w_slE1, w_sl, q_srcT, q_srcS, q_srcR, q_zipT, q_slT, w_lc, w_forS, Int.toNat_natCast, v_0, v_S, List.replicate_succ, List.replicate_zero, Nat.reduceSub, List.getElem?_cons_zero, List.getElem?_cons_succ, List.set_cons_zero, List.set_cons_succ, if_true, if_false, Bool.false_eq_true, Bool.not_true, Bool.not_false, q_add, q_addT, q_addS, q_sub, q_eq, q_eqS, q_eqB, q_ne, q_neS, q_neB, q_lt, q_ltS, q_le, q_gt, q_ge, q_in1, q_nin1, q_isN, q_isnN, q_isB, q_isnB, q_isiI0, q_isiI1, q_isiI2, q_isiI3, q_isiI4, q_isiI5, q_isiB0, q_isiB1, q_isiB2, q_isiB3, q_isiB4, q_isiB5, q_isiS0, q_isiS1, q_isiS2, q_isiS3, q_isiS4, q_isiS5, q_isiT0, q_isiT1, q_isiT2, q_isiT3, q_isiT4, q_isiT5, q_isiR0, q_isiR1, q_isiR2, q_isiR3, q_isiR4, q_isiR5, q_isiN0, q_isiN1, q_isiN2, q_isiN3, q_isiN4, q_isiN5, q_lenS, q_lenT, q_lenR, q_min2, q_max2, q_strS, q_tupP, ix_0, ix_1, ix_2, ix_3, decide_true, decide_false, List.cons.injEq, reduceCtorEq, and_false, false_and, and_true, true_and, Nat.reduceEqDiff, Int.reduceLE, Int.reduceEq, Int.reduceLT, List.length_cons, List.length_nil, lim_0, lim_1, lim_2, lim_3, lim_4, lim_5, lim_6, lim_7, lim_8, lim_9, lim_10, lim_11, lim_12, lim_13, lim_14, lim_15, lim_16, lim_17, lim_18, lim_19, lim_20, lim_21, lim_22, lim_23, Nat.reduceAdd, Nat.reduceLeDiff, if_true, drop_1 _ hl, s_lawNumber hd, true_and]
    exact Px.refl
  simp only [c3, w_raise, w_try, w_vMS, w_vML, w_fmt, w_js, w_fj0, w_fj1, w_disp2, w_get2, w_idxC, w_split, w_par, w_unpL, w_unpV, w_dnew, w_dnewN, w_subD, w_bind, w_noX, w_ok, w_C, w_op2, w_asB, w_op3, w_and, w_or, w_not, w_test, w_bAnd, w_bOr, w_bNot, w_if, w_lif, w_tup, w_lst, w_alloc, w_vL, w_call, w_aNil, w_aCons, w_lCall, w_append, w_nil, w_lnil, w_seq, w_next, w_ret, w_set, w_expr, w_sif, w_sub, w_unp, w_fn1, w_fn2, w_fn3, w_fn4, w_fn5, w_join, w_vSrc, w_aSrc, w_lSrc, w_catLL, w_catOL, w_repL, w_sortV, w_asI, w_slE0, w_slE1, w_sl, q_srcT, q_srcS, q_srcR, q_zipT, q_slT, w_lc, w_forS, Int.toNat_natCast, v_0, v_S, List.replicate_succ, List.replicate_zero, Nat.reduceSub, List.getElem?_cons_zero, List.getElem?_cons_succ, List.set_cons_zero, List.set_cons_succ, if_true, if_false, Bool.false_eq_true, Bool.not_true, Bool.not_false, q_add, q_addT, q_addS, q_sub, q_eq, q_eqS, q_eqB, q_ne, q_neS, q_neB, q_lt, q_ltS, q_le, q_gt, q_ge, q_in1, q_nin1, q_isN, q_isnN, q_isB, q_isnB, q_isiI0, q_isiI1, q_isiI2, q_isiI3, q_isiI4, q_isiI5, q_isiB0, q_isiB1, q_isiB2, q_isiB3, q_isiB4, q_isiB5, q_isiS0, q_isiS1, q_isiS2, q_isiS3, q_isiS4, q_isiS5, q_isiT0, q_isiT1, q_isiT2, q_isiT3, q_isiT4, q_isiT5, q_isiR0, q_isiR1, q_isiR2, q_isiR3, q_isiR4, q_isiR5, q_isiN0, q_isiN1, q_isiN2, q_isiN3, q_isiN4, q_isiN5, q_lenS, q_lenT, q_lenR, q_min2, q_max2, q_strS, q_tupP, ix_0, ix_1, ix_2, ix_3, decide_true, decide_false, List.cons.injEq, reduceCtorEq, and_false, false_and, and_true, true_and, Nat.reduceEqDiff, Int.reduceLE, Int.reduceEq, Int.reduceLT, List.length_cons, List.length_nil, lim_0, lim_1, lim_2, lim_3, lim_4, lim_5, lim_6, lim_7, lim_8, lim_9, lim_10, lim_11, lim_12, lim_13, lim_14, lim_15, lim_16, lim_17, lim_18, lim_19, lim_20, lim_21, lim_22, lim_23, Nat.reduceAdd, Nat.reduceLeDiff, if_false, isDic_app, get_name, take_1 _ hl, drop_1 _ hl, q_split (show (p.drop 1).length + 2 ≤ LIM by simp only [LIM]; omega) (show 44 < 256 by decide), true_and]
  have sl := splC_len 44 (p.drop 1)
  rw [w_lcI (by simp only [List.length_map, LIM]; omega)]
  simp only [wipeE, List.set_cons_zero, List.set_cons_succ]
  rw [lnums (k := k + 1) hdl hd rfl (fun x => rfl), w_ok]
  simp only [w_raise, w_try, w_vMS, w_vML, w_fmt, w_js, w_fj0, w_fj1, w_disp2, w_get2, w_idxC, w_split, w_par, w_unpL, w_unpV, w_dnew, w_dnewN, w_subD, w_bind, w_noX, w_ok, w_C, w_op2, w_asB, w_op3, w_and, w_or, w_not, w_test, w_bAnd, w_bOr, w_bNot, w_if, w_lif, w_tup, w_lst, w_alloc, w_vL, w_call, w_aNil, w_aCons, w_lCall, w_append, w_nil, w_lnil, w_seq, w_next, w_ret, w_set, w_expr, w_sif, w_sub, w_unp, w_fn1, w_fn2, w_fn3, w_fn4, w_fn5, w_join, w_vSrc, w_aSrc, w_lSrc, w_catLL, w_catOL, w_repL, w_sortV, w_asI, w_slE0, w_slE1, w_sl, q_srcT, q_srcS, q_srcR, q_zipT, q_slT, w_lc, w_forS, Int.toNat_natCast, v_0, v_S, List.replicate_succ, List.replicate_zero, Nat.reduceSub, List.getElem?_cons_zero, List.getElem?_cons_succ, List.set_cons_zero, List.set_cons_succ, if_true, if_false, Bool.false_eq_true, Bool.not_true, Bool.not_false, q_add, q_addT, q_addS, q_sub, q_eq, q_eqS, q_eqB, q_ne, q_neS, q_neB, q_lt, q_ltS, q_le, q_gt, q_ge, q_in1, q_nin1, q_isN, q_isnN, q_isB, q_isnB, q_isiI0, q_isiI1, q_isiI2, q_isiI3, q_isiI4, q_isiI5, q_isiB0, q_isiB1, q_isiB2, q_isiB3, q_isiB4, q_isiB5, q_isiS0, q_isiS1, q_isiS2, q_isiS3, q_isiS4, q_isiS5, q_isiT0, q_isiT1, q_isiT2, q_isiT3, q_isiT4, q_isiT5, q_isiR0, q_isiR1, q_isiR2, q_isiR3, q_isiR4, q_isiR5, q_isiN0, q_isiN1, q_isiN2, q_isiN3, q_isiN4, q_isiN5, q_lenS, q_lenT, q_lenR, q_min2, q_max2, q_strS, q_tupP, ix_0, ix_1, ix_2, ix_3, cat_tup]
  have := nums_len (s := p.drop 1)
  rw [if_pos (by simp only [List.length_cons, List.length_nil, LIM]; omega), w_ok]
  exact ⟨rfl, Px.app⟩
theorem s_lawPart {p : Sg} (hl : p.length ≤ 1000) (hc : ∀ c ∈ p, c < 1114112) : OkX noE (run (k + 4) I__law_part [.str p] h) fun v h' => v = lawF p ∧ Px h h' := by
  by_cases hs : p.count 42 = 1
  · rw [e__law_part]
    unfold m__law_part
    have hm : 42 ∈ p := List.count_pos_iff.mp (by omega)
    have il : p.idxOf 42 < p.length := List.idxOf_lt_length_iff.mpr hm
    have h1 : ∀ c ∈ p.take (p.idxOf 42), c < 1114112 := fun c h => hc c (List.mem_of_mem_take h)
    have h2 : ∀ c ∈ p.drop (p.idxOf 42 + 1), c < 1114112 := fun c h => hc c (List.mem_of_mem_drop h)
    have n1 : ¬ (p.take (p.idxOf 42)).count 42 = 1 := by
      have : 42 ∉ p.take (p.idxOf 42) := fun m => by
        obtain ⟨i, hi, e⟩ := List.mem_iff_getElem.mp m
        have hi2 : i < p.idxOf 42 := by simp at hi; omega
        have := List.not_of_lt_findIdx (p := (· == 42)) (xs := p) (i := i) hi2
        simp at e
        simp [e] at this
      rw [List.count_eq_zero_of_not_mem this]
      omega
    have c0 : ((p.count 42 : Nat) : Int) = 1 := by omega
    simp only [w_raise, w_try, w_vMS, w_vML, w_fmt, w_js, w_fj0, w_fj1, w_disp2, w_get2, w_idxC, w_split, w_par, w_unpL, w_unpV, w_dnew, w_dnewN, w_subD, w_bind, w_noX, w_ok, w_C, w_op2, w_asB, w_op3, w_and, w_or, w_not, w_test, w_bAnd, w_bOr, w_bNot, w_if, w_lif, w_tup, w_lst, w_alloc, w_vL, w_call, w_aNil, w_aCons, w_lCall, w_append, w_nil, w_lnil, w_seq, w_next, w_ret, w_set, w_expr, w_sif, w_sub, w_unp, w_fn1, w_fn2, w_fn3, w_fn4, w_fn5, w_join, w_vSrc, w_aSrc, w_lSrc, w_catLL, w_catOL, w_repL, w_sortV, w_asI, w_slE0, w_slE1, w_sl, q_srcT, q_srcS, q_srcR, q_zipT, q_slT, w_lc, w_forS, Int.toNat_natCast, v_0, v_S, List.replicate_succ, List.replicate_zero, Nat.reduceSub, List.getElem?_cons_zero, List.getElem?_cons_succ, List.set_cons_zero, List.set_cons_succ, if_true, if_false, Bool.false_eq_true, Bool.not_true, Bool.not_false, q_add, q_addT, q_addS, q_sub, q_eq, q_eqS, q_eqB, q_ne, q_neS, q_neB, q_lt, q_ltS, q_le, q_gt, q_ge, q_in1, q_nin1, q_isN, q_isnN, q_isB, q_isnB, q_isiI0, q_isiI1, q_isiI2, q_isiI3, q_isiI4, q_isiI5, q_isiB0, q_isiB1, q_isiB2, q_isiB3, q_isiB4, q_isiB5, q_isiS0, q_isiS1, q_isiS2, q_isiS3, q_isiS4, q_isiS5, q_isiT0, q_isiT1, q_isiT2, q_isiT3, q_isiT4, q_isiT5, q_isiR0, q_isiR1, q_isiR2, q_isiR3, q_isiR4, q_isiR5, q_isiN0, q_isiN1, q_isiN2, q_isiN3, q_isiN4, q_isiN5, q_lenS, q_lenT, q_lenR, q_min2, q_max2, q_strS, q_tupP, ix_0, ix_1, ix_2, ix_3, countM, c0, decide_true, decide_false, List.cons.injEq, reduceCtorEq, and_false, false_and, and_true, true_and, Nat.reduceEqDiff, Int.reduceLE, Int.reduceEq, Int.reduceLT, q_split (show p.length + 2 ≤ LIM by simp only [LIM]; omega) (show 42 < 256 by decide), count_split hs, List.map_cons, List.map_nil, setAll]
    refine (s_lawS (k := k) (by simp; omega) h1 n1).imp fun v h' q => ?_
    obtain ⟨rfl, p1⟩ := q
    have dl : (p.drop (p.idxOf 42 + 1)).length ≤ 1000 := by simp; omega
    have sl := splC_len 44 (p.drop (p.idxOf 42 + 1))
    simp only [w_raise, w_try, w_vMS, w_vML, w_fmt, w_js, w_fj0, w_fj1, w_disp2, w_get2, w_idxC, w_split, w_par, w_unpL, w_unpV, w_dnew, w_dnewN, w_subD, w_bind, w_noX, w_ok, w_C, w_op2, w_asB, w_op3, w_and, w_or, w_not, w_test, w_bAnd, w_bOr, w_bNot, w_if, w_lif, w_tup, w_lst, w_alloc, w_vL, w_call, w_aNil, w_aCons, w_lCall, w_append, w_nil, w_lnil, w_seq, w_next, w_ret, w_set, w_expr, w_sif, w_sub, w_unp, w_fn1, w_fn2, w_fn3, w_fn4, w_fn5, w_join, w_vSrc, w_aSrc, w_lSrc, w_catLL, w_catOL, w_repL, w_sortV, w_asI, w_slE0, w_slE1, w_sl, q_srcT, q_srcS, q_srcR, q_zipT, q_slT, w_lc, w_forS, Int.toNat_natCast, v_0, v_S, List.replicate_succ, List.replicate_zero, Nat.reduceSub, List.getElem?_cons_zero, List.getElem?_cons_succ, List.set_cons_zero, List.set_cons_succ, if_true, if_false, Bool.false_eq_true, Bool.not_true, Bool.not_false, q_add, q_addT, q_addS, q_sub, q_eq, q_eqS, q_eqB, q_ne, q_neS, q_neB, q_lt, q_ltS, q_le, q_gt, q_ge, q_in1, q_nin1, q_isN, q_isnN, q_isB, q_isnB, q_isiI0, q_isiI1, q_isiI2, q_isiI3, q_isiI4, q_isiI5, q_isiB0, q_isiB1, q_isiB2, q_isiB3, q_isiB4, q_isiB5, q_isiS0, q_isiS1, q_isiS2, q_isiS3, q_isiS4, q_isiS5, q_isiT0, q_isiT1, q_isiT2, q_isiT3, q_isiT4, q_isiT5, q_isiR0, q_isiR1, q_isiR2, q_isiR3, q_isiR4, q_isiR5, q_isiN0, q_isiN1, q_isiN2, q_isiN3, q_isiN4, q_isiN5, q_lenS, q_lenT, q_lenR, q_min2, q_max2, q_strS, q_tupP, ix_0, ix_1, ix_2, ix_3, List.length_cons, List.length_nil, lim_0, lim_1, lim_2, lim_3, lim_4, lim_5, lim_6, lim_7, lim_8, lim_9, lim_10, lim_11, lim_12, lim_13, lim_14, lim_15, lim_16, lim_17, lim_18, lim_19, lim_20, lim_21, lim_22, lim_23, Nat.reduceAdd, Nat.reduceLeDiff, q_split (show (p.drop (p.idxOf 42 + 1)).length + 2 ≤ LIM by simp only [LIM]; omega) (show 44 < 256 by decide)]
    rw [w_lcI (by simp only [List.length_map, LIM]; omega)]
    simp only [wipeE, List.set_cons_zero, List.set_cons_succ]
    rw [lnums (k := k + 2) dl h2 rfl (fun x => rfl), w_ok]
    simp only [w_raise, w_try, w_vMS, w_vML, w_fmt, w_js, w_fj0, w_fj1, w_disp2, w_get2, w_idxC, w_split, w_par, w_unpL, w_unpV, w_dnew, w_dnewN, w_subD, w_bind, w_noX, w_ok, w_C, w_op2, w_asB, w_op3, w_and, w_or, w_not, w_test, w_bAnd, w_bOr, w_bNot, w_if, w_lif, w_tup, w_lst, w_alloc, w_vL, w_call, w_aNil, w_aCons, w_lCall, w_append, w_nil, w_lnil, w_seq, w_next, w_ret, w_set, w_expr, w_sif, w_sub, w_unp, w_fn1, w_fn2, w_fn3, w_fn4, w_fn5, w_join, w_vSrc, w_aSrc, w_lSrc, w_catLL, w_catOL, w_repL, w_sortV, w_asI, w_slE0, w_slE1, w_sl, q_srcT, q_srcS, q_srcR, q_zipT, q_slT, w_lc, w_forS, Int.toNat_natCast, v_0, v_S, List.replicate_succ, List.replicate_zero, Nat.reduceSub, List.getElem?_cons_zero, List.getElem?_cons_succ, List.set_cons_zero, List.set_cons_succ, if_true, if_false, Bool.false_eq_true, Bool.not_true, Bool.not_false, q_add, q_addT, q_addS, q_sub, q_eq, q_eqS, q_eqB, q_ne, q_neS, q_neB, q_lt, q_ltS, q_le, q_gt, q_ge, q_in1, q_nin1, q_isN, q_isnN, q_isB, q_isnB, q_isiI0, q_isiI1, q_isiI2, q_isiI3, q_isiI4, q_isiI5, q_isiB0, q_isiB1, q_isiB2, q_isiB3, q_isiB4, q_isiB5, q_isiS0, q_isiS1, q_isiS2, q_isiS3, q_isiS4, q_isiS5, q_isiT0, q_isiT1, q_isiT2, q_isiT3, q_isiT4, q_isiT5, q_isiR0, q_isiR1, q_isiR2, q_isiR3, q_isiR4, q_isiR5, q_isiN0, q_isiN1, q_isiN2, q_isiN3, q_isiN4, q_isiN5, q_lenS, q_lenT, q_lenR, q_min2, q_max2, q_strS, q_tupP, ix_0, ix_1, ix_2, ix_3, cat_tup]
    have := nums_len (s := p.drop (p.idxOf 42 + 1))
    rw [if_pos (by simp only [List.length_cons, List.length_nil, LIM]; omega), w_ok]
    refine ⟨?_, p1⟩
    simp only [lawF, readF, hs, hm, if_true]
    rfl
  · refine (s_lawS (k := k + 1) hl hc hs).imp fun v h' q => ⟨?_, q.2⟩
    rw [q.1]
    simp only [lawF, hs, if_false]
/-! lines -/
theorem add_str {a b : Sg} (hl : a.length + b.length ≤ LIM) : addM (.str a) (.str b) h = .ok (.str (a ++ b)) h := if_pos hl
theorem str_int {n : Nat} (hl : n ≤ 100) : strP [.int n] h = .ok (.str (decL n)) h := by
  have := Nat.log2_le_self n
  have e : (n : Int).natAbs = n := by simp
  simp only [strP]
  rw [if_pos (by rw [e]; omega), Int.toNat_natCast]
theorem ix_d : ixM (.str kDigits) (.int 0) h = .ok (.str [100]) h := by simp [ixM, atI_0, LIM]
theorem ix_l : ixM (.str kLetters) (.int 0) h = .ok (.str [108]) h := by simp [ixM, atI_0, LIM]
theorem bars {ts : List Sg} (ht : ∀ s ∈ ts, TxOk s) (hl : ts.length ≤ 4) {env : Ev} {i : Nat} (he : ∀ x, (env.set i (some x))[1]? = some (some x)) : lcL (.nm i) bTrue (op2 addM (vC (.str [124])) (vVar 1)) env (ts.map .str) h = .ok ((ts.map fun t => 124 :: t).map .str) h := by
  rw [lcL_map (fun t => .str (124 :: t)) fun t hm => Ok.eq (by
    have := (ht t hm).2.1
    simp only [w_raise, w_try, w_vMS, w_vML, w_fmt, w_js, w_fj0, w_fj1, w_disp2, w_get2, w_idxC, w_split, w_par, w_unpL, w_unpV, w_dnew, w_dnewN, w_subD, w_bind, w_noX, w_ok, w_C, w_op2, w_asB, w_op3, w_and, w_or, w_not, w_test, w_bAnd, w_bOr, w_bNot, w_if, w_lif, w_tup, w_lst, w_alloc, w_vL, w_call, w_aNil, w_aCons, w_lCall, w_append, w_nil, w_lnil, w_seq, w_next, w_ret, w_set, w_expr, w_sif, w_sub, w_unp, w_fn1, w_fn2, w_fn3, w_fn4, w_fn5, w_join, w_vSrc, w_aSrc, w_lSrc, w_catLL, w_catOL, w_repL, w_sortV, w_asI, w_slE0, w_slE1, w_sl, q_srcT, q_srcS, q_srcR, q_zipT, q_slT, w_lc, w_forS, Int.toNat_natCast, v_0, v_S, List.replicate_succ, List.replicate_zero, Nat.reduceSub, List.getElem?_cons_zero, List.getElem?_cons_succ, List.set_cons_zero, List.set_cons_succ, if_true, if_false, Bool.false_eq_true, Bool.not_true, Bool.not_false, q_add, q_addT, q_addS, q_sub, q_eq, q_eqS, q_eqB, q_ne, q_neS, q_neB, q_lt, q_ltS, q_le, q_gt, q_ge, q_in1, q_nin1, q_isN, q_isnN, q_isB, q_isnB, q_isiI0, q_isiI1, q_isiI2, q_isiI3, q_isiI4, q_isiI5, q_isiB0, q_isiB1, q_isiB2, q_isiB3, q_isiB4, q_isiB5, q_isiS0, q_isiS1, q_isiS2, q_isiS3, q_isiS4, q_isiS5, q_isiT0, q_isiT1, q_isiT2, q_isiT3, q_isiT4, q_isiT5, q_isiR0, q_isiR1, q_isiR2, q_isiR3, q_isiR4, q_isiR5, q_isiN0, q_isiN1, q_isiN2, q_isiN3, q_isiN4, q_isiN5, q_lenS, q_lenT, q_lenR, q_min2, q_max2, q_strS, q_tupP, ix_0, ix_1, ix_2, ix_3, w_var (he _), add_str (a := [124]) (show [124].length + t.length ≤ LIM by simp only [List.length_cons, List.length_nil, LIM]; omega), List.cons_append, List.nil_append, and_self])]
  rw [List.map_map]
  rfl
theorem bars_sum {ts : List Sg} (ht : ∀ s ∈ ts, TxOk s) : ((ts.map fun t => 124 :: t).map List.length).sum ≤ 5 * ts.length := by
  induction ts with
  | nil => simp
  | cons t ts ih =>
    have h1 := ih fun s hs => ht s (List.mem_cons_of_mem _ hs)
    have h2 := (ht t (List.mem_cons_self ..)).2.1
    simp only [List.map_cons, List.sum_cons, List.length_cons]
    omega
theorem s_lineS {f : SF} (fo : f.Ok) : run (k + 1) I__law_line [f.d] h = .ok (.str f.line) h := Ok.eq (by
  rw [e__law_line]
  unfold m__law_line
  cases f with
  | word s =>
    have := fo.2.1
    simp only [SF.d, w_raise, w_try, w_vMS, w_vML, w_fmt, w_js, w_fj0, w_fj1, w_disp2, w_get2, w_idxC, w_split, w_par, w_unpL, w_unpV, w_dnew, w_dnewN, w_subD, w_bind, w_noX, w_ok, w_C, w_op2, w_asB, w_op3, w_and, w_or, w_not, w_test, w_bAnd, w_bOr, w_bNot, w_if, w_lif, w_tup, w_lst, w_alloc, w_vL, w_call, w_aNil, w_aCons, w_lCall, w_append, w_nil, w_lnil, w_seq, w_next, w_ret, w_set, w_expr, w_sif, w_sub, w_unp, w_fn1, w_fn2, w_fn3, w_fn4, w_fn5, w_join, w_vSrc, w_aSrc, w_lSrc, w_catLL, w_catOL, w_repL, w_sortV, w_asI, w_slE0, w_slE1, w_sl, q_srcT, q_srcS, q_srcR, q_zipT, q_slT, w_lc, w_forS, Int.toNat_natCast, v_0, v_S, List.replicate_succ, List.replicate_zero, Nat.reduceSub, List.getElem?_cons_zero, List.getElem?_cons_succ, List.set_cons_zero, List.set_cons_succ, if_true, if_false, Bool.false_eq_true, Bool.not_true, Bool.not_false, q_add, q_addT, q_addS, q_sub, q_eq, q_eqS, q_eqB, q_ne, q_neS, q_neB, q_lt, q_ltS, q_le, q_gt, q_ge, q_in1, q_nin1, q_isN, q_isnN, q_isB, q_isnB, q_isiI0, q_isiI1, q_isiI2, q_isiI3, q_isiI4, q_isiI5, q_isiB0, q_isiB1, q_isiB2, q_isiB3, q_isiB4, q_isiB5, q_isiS0, q_isiS1, q_isiS2, q_isiS3, q_isiS4, q_isiS5, q_isiT0, q_isiT1, q_isiT2, q_isiT3, q_isiT4, q_isiT5, q_isiR0, q_isiR1, q_isiR2, q_isiR3, q_isiR4, q_isiR5, q_isiN0, q_isiN1, q_isiN2, q_isiN3, q_isiN4, q_isiN5, q_lenS, q_lenT, q_lenR, q_min2, q_max2, q_strS, q_tupP, ix_0, ix_1, ix_2, ix_3, decide_true, decide_false, List.cons.injEq, reduceCtorEq, and_false, false_and, and_true, true_and, Nat.reduceEqDiff, Int.reduceLE, Int.reduceEq, Int.reduceLT, add_str (a := [61]) (show [61].length + s.length ≤ LIM by simp only [List.length_cons, List.length_nil, LIM]; omega), SF.line, List.cons_append, List.nil_append, and_self]
  | digits lo hi =>
    obtain ⟨f1, f2⟩ := fo
    simp only [SF.d, w_raise, w_try, w_vMS, w_vML, w_fmt, w_js, w_fj0, w_fj1, w_disp2, w_get2, w_idxC, w_split, w_par, w_unpL, w_unpV, w_dnew, w_dnewN, w_subD, w_bind, w_noX, w_ok, w_C, w_op2, w_asB, w_op3, w_and, w_or, w_not, w_test, w_bAnd, w_bOr, w_bNot, w_if, w_lif, w_tup, w_lst, w_alloc, w_vL, w_call, w_aNil, w_aCons, w_lCall, w_append, w_nil, w_lnil, w_seq, w_next, w_ret, w_set, w_expr, w_sif, w_sub, w_unp, w_fn1, w_fn2, w_fn3, w_fn4, w_fn5, w_join, w_vSrc, w_aSrc, w_lSrc, w_catLL, w_catOL, w_repL, w_sortV, w_asI, w_slE0, w_slE1, w_sl, q_srcT, q_srcS, q_srcR, q_zipT, q_slT, w_lc, w_forS, Int.toNat_natCast, v_0, v_S, List.replicate_succ, List.replicate_zero, Nat.reduceSub, List.getElem?_cons_zero, List.getElem?_cons_succ, List.set_cons_zero, List.set_cons_succ, if_true, if_false, Bool.false_eq_true, Bool.not_true, Bool.not_false, q_add, q_addT, q_addS, q_sub, q_eq, q_eqS, q_eqB, q_ne, q_neS, q_neB, q_lt, q_ltS, q_le, q_gt, q_ge, q_in1, q_nin1, q_isN, q_isnN, q_isB, q_isnB, q_isiI0, q_isiI1, q_isiI2, q_isiI3, q_isiI4, q_isiI5, q_isiB0, q_isiB1, q_isiB2, q_isiB3, q_isiB4, q_isiB5, q_isiS0, q_isiS1, q_isiS2, q_isiS3, q_isiS4, q_isiS5, q_isiT0, q_isiT1, q_isiT2, q_isiT3, q_isiT4, q_isiT5, q_isiR0, q_isiR1, q_isiR2, q_isiR3, q_isiR4, q_isiR5, q_isiN0, q_isiN1, q_isiN2, q_isiN3, q_isiN4, q_isiN5, q_lenS, q_lenT, q_lenR, q_min2, q_max2, q_strS, q_tupP, ix_0, ix_1, ix_2, ix_3, decide_true, decide_false, List.cons.injEq, reduceCtorEq, and_false, false_and, and_true, true_and, Nat.reduceEqDiff, Int.reduceLE, Int.reduceEq, Int.reduceLT, ix_d, ix_l, str_int (show lo ≤ 100 by omega), str_int (show hi ≤ 100 by omega), dec1 lo (by omega), dec1 hi (by omega)]
    rw [add_str (by simp [LIM]), w_ok, add_str (by simp [LIM]), w_ok, add_str (by simp [LIM]), w_ok]
    simp [SF.line, dec1 lo (show lo ≤ 4 by omega), dec1 hi (show hi ≤ 4 by omega)]
  | letters lo hi =>
    obtain ⟨f1, f2⟩ := fo
    simp only [SF.d, w_raise, w_try, w_vMS, w_vML, w_fmt, w_js, w_fj0, w_fj1, w_disp2, w_get2, w_idxC, w_split, w_par, w_unpL, w_unpV, w_dnew, w_dnewN, w_subD, w_bind, w_noX, w_ok, w_C, w_op2, w_asB, w_op3, w_and, w_or, w_not, w_test, w_bAnd, w_bOr, w_bNot, w_if, w_lif, w_tup, w_lst, w_alloc, w_vL, w_call, w_aNil, w_aCons, w_lCall, w_append, w_nil, w_lnil, w_seq, w_next, w_ret, w_set, w_expr, w_sif, w_sub, w_unp, w_fn1, w_fn2, w_fn3, w_fn4, w_fn5, w_join, w_vSrc, w_aSrc, w_lSrc, w_catLL, w_catOL, w_repL, w_sortV, w_asI, w_slE0, w_slE1, w_sl, q_srcT, q_srcS, q_srcR, q_zipT, q_slT, w_lc, w_forS, Int.toNat_natCast, v_0, v_S, List.replicate_succ, List.replicate_zero, Nat.reduceSub, List.getElem?_cons_zero, List.getElem?_cons_succ, List.set_cons_zero, List.set_cons_succ, if_true, if_false, Bool.false_eq_true, Bool.not_true, Bool.not_false, q_add, q_addT, q_addS, q_sub, q_eq, q_eqS, q_eqB, q_ne, q_neS, q_neB, q_lt, q_ltS, q_le, q_gt, q_ge, q_in1, q_nin1, q_isN, q_isnN, q_isB, q_isnB, q_isiI0, q_isiI1, q_isiI2, q_isiI3, q_isiI4, q_isiI5, q_isiB0, q_isiB1, q_isiB2, q_isiB3, q_isiB4, q_isiB5, q_isiS0, q_isiS1, q_isiS2, q_isiS3, q_isiS4, q_isiS5, q_isiT0, q_isiT1, q_isiT2, q_isiT3, q_isiT4, q_isiT5, q_isiR0, q_isiR1, q_isiR2, q_isiR3, q_isiR4, q_isiR5, q_isiN0, q_isiN1, q_isiN2, q_isiN3, q_isiN4, q_isiN5, q_lenS, q_lenT, q_lenR, q_min2, q_max2, q_strS, q_tupP, ix_0, ix_1, ix_2, ix_3, decide_true, decide_false, List.cons.injEq, reduceCtorEq, and_false, false_and, and_true, true_and, Nat.reduceEqDiff, Int.reduceLE, Int.reduceEq, Int.reduceLT, ix_d, ix_l, str_int (show lo ≤ 100 by omega), str_int (show hi ≤ 100 by omega), dec1 lo (by omega), dec1 hi (by omega)]
    rw [add_str (by simp [LIM]), w_ok, add_str (by simp [LIM]), w_ok, add_str (by simp [LIM]), w_ok]
    simp [SF.line, dec1 lo (show lo ≤ 4 by omega), dec1 hi (show hi ≤ 4 by omega)]
  | number n =>
    obtain ⟨f1, f2⟩ := fo
    simp only [SF.d, w_raise, w_try, w_vMS, w_vML, w_fmt, w_js, w_fj0, w_fj1, w_disp2, w_get2, w_idxC, w_split, w_par, w_unpL, w_unpV, w_dnew, w_dnewN, w_subD, w_bind, w_noX, w_ok, w_C, w_op2, w_asB, w_op3, w_and, w_or, w_not, w_test, w_bAnd, w_bOr, w_bNot, w_if, w_lif, w_tup, w_lst, w_alloc, w_vL, w_call, w_aNil, w_aCons, w_lCall, w_append, w_nil, w_lnil, w_seq, w_next, w_ret, w_set, w_expr, w_sif, w_sub, w_unp, w_fn1, w_fn2, w_fn3, w_fn4, w_fn5, w_join, w_vSrc, w_aSrc, w_lSrc, w_catLL, w_catOL, w_repL, w_sortV, w_asI, w_slE0, w_slE1, w_sl, q_srcT, q_srcS, q_srcR, q_zipT, q_slT, w_lc, w_forS, Int.toNat_natCast, v_0, v_S, List.replicate_succ, List.replicate_zero, Nat.reduceSub, List.getElem?_cons_zero, List.getElem?_cons_succ, List.set_cons_zero, List.set_cons_succ, if_true, if_false, Bool.false_eq_true, Bool.not_true, Bool.not_false, q_add, q_addT, q_addS, q_sub, q_eq, q_eqS, q_eqB, q_ne, q_neS, q_neB, q_lt, q_ltS, q_le, q_gt, q_ge, q_in1, q_nin1, q_isN, q_isnN, q_isB, q_isnB, q_isiI0, q_isiI1, q_isiI2, q_isiI3, q_isiI4, q_isiI5, q_isiB0, q_isiB1, q_isiB2, q_isiB3, q_isiB4, q_isiB5, q_isiS0, q_isiS1, q_isiS2, q_isiS3, q_isiS4, q_isiS5, q_isiT0, q_isiT1, q_isiT2, q_isiT3, q_isiT4, q_isiT5, q_isiR0, q_isiR1, q_isiR2, q_isiR3, q_isiR4, q_isiR5, q_isiN0, q_isiN1, q_isiN2, q_isiN3, q_isiN4, q_isiN5, q_lenS, q_lenT, q_lenR, q_min2, q_max2, q_strS, q_tupP, ix_0, ix_1, ix_2, ix_3, decide_true, decide_false, List.cons.injEq, reduceCtorEq, and_false, false_and, and_true, true_and, Nat.reduceEqDiff, Int.reduceLE, Int.reduceEq, Int.reduceLT, str_int (show n ≤ 100 by omega), dec1 n (by omega)]
    rw [add_str (by simp [LIM]), w_ok]
    simp [SF.line, dec1 n (show n ≤ 4 by omega)]
  | choice ts =>
    obtain ⟨f1, f2, f3, f4⟩ := fo
    simp only [SF.d, w_raise, w_try, w_vMS, w_vML, w_fmt, w_js, w_fj0, w_fj1, w_disp2, w_get2, w_idxC, w_split, w_par, w_unpL, w_unpV, w_dnew, w_dnewN, w_subD, w_bind, w_noX, w_ok, w_C, w_op2, w_asB, w_op3, w_and, w_or, w_not, w_test, w_bAnd, w_bOr, w_bNot, w_if, w_lif, w_tup, w_lst, w_alloc, w_vL, w_call, w_aNil, w_aCons, w_lCall, w_append, w_nil, w_lnil, w_seq, w_next, w_ret, w_set, w_expr, w_sif, w_sub, w_unp, w_fn1, w_fn2, w_fn3, w_fn4, w_fn5, w_join, w_vSrc, w_aSrc, w_lSrc, w_catLL, w_catOL, w_repL, w_sortV, w_asI, w_slE0, w_slE1, w_sl, q_srcT, q_srcS, q_srcR, q_zipT, q_slT, w_lc, w_forS, Int.toNat_natCast, v_0, v_S, List.replicate_succ, List.replicate_zero, Nat.reduceSub, List.getElem?_cons_zero, List.getElem?_cons_succ, List.set_cons_zero, List.set_cons_succ, if_true, if_false, Bool.false_eq_true, Bool.not_true, Bool.not_false, q_add, q_addT, q_addS, q_sub, q_eq, q_eqS, q_eqB, q_ne, q_neS, q_neB, q_lt, q_ltS, q_le, q_gt, q_ge, q_in1, q_nin1, q_isN, q_isnN, q_isB, q_isnB, q_isiI0, q_isiI1, q_isiI2, q_isiI3, q_isiI4, q_isiI5, q_isiB0, q_isiB1, q_isiB2, q_isiB3, q_isiB4, q_isiB5, q_isiS0, q_isiS1, q_isiS2, q_isiS3, q_isiS4, q_isiS5, q_isiT0, q_isiT1, q_isiT2, q_isiT3, q_isiT4, q_isiT5, q_isiR0, q_isiR1, q_isiR2, q_isiR3, q_isiR4, q_isiR5, q_isiN0, q_isiN1, q_isiN2, q_isiN3, q_isiN4, q_isiN5, q_lenS, q_lenT, q_lenR, q_min2, q_max2, q_strS, q_tupP, ix_0, ix_1, ix_2, ix_3, decide_true, decide_false, List.cons.injEq, reduceCtorEq, and_false, false_and, and_true, true_and, Nat.reduceEqDiff, Int.reduceLE, Int.reduceEq, Int.reduceLT]
    rw [w_lcI (by simp only [List.length_map, LIM]; omega)]
    simp only [wipeE, List.set_cons_zero, List.set_cons_succ]
    rw [bars f3 f2 (fun x => rfl), w_ok]
    have := bars_sum f3
    rw [join_strs (by simp only [LIM]; omega), w_ok]
    exact ⟨rfl, rfl⟩)
theorem s_textS {f : SF} (fo : f.Ok) : run (k + 1) I_field_text [f.d] h = .ok (.str f.line) h := Ok.eq (by
  rw [e_field_text]
  unfold m_field_text
  cases f with
  | word s =>
    have := fo.2.1
    simp only [SF.d, w_raise, w_try, w_vMS, w_vML, w_fmt, w_js, w_fj0, w_fj1, w_disp2, w_get2, w_idxC, w_split, w_par, w_unpL, w_unpV, w_dnew, w_dnewN, w_subD, w_bind, w_noX, w_ok, w_C, w_op2, w_asB, w_op3, w_and, w_or, w_not, w_test, w_bAnd, w_bOr, w_bNot, w_if, w_lif, w_tup, w_lst, w_alloc, w_vL, w_call, w_aNil, w_aCons, w_lCall, w_append, w_nil, w_lnil, w_seq, w_next, w_ret, w_set, w_expr, w_sif, w_sub, w_unp, w_fn1, w_fn2, w_fn3, w_fn4, w_fn5, w_join, w_vSrc, w_aSrc, w_lSrc, w_catLL, w_catOL, w_repL, w_sortV, w_asI, w_slE0, w_slE1, w_sl, q_srcT, q_srcS, q_srcR, q_zipT, q_slT, w_lc, w_forS, Int.toNat_natCast, v_0, v_S, List.replicate_succ, List.replicate_zero, Nat.reduceSub, List.getElem?_cons_zero, List.getElem?_cons_succ, List.set_cons_zero, List.set_cons_succ, if_true, if_false, Bool.false_eq_true, Bool.not_true, Bool.not_false, q_add, q_addT, q_addS, q_sub, q_eq, q_eqS, q_eqB, q_ne, q_neS, q_neB, q_lt, q_ltS, q_le, q_gt, q_ge, q_in1, q_nin1, q_isN, q_isnN, q_isB, q_isnB, q_isiI0, q_isiI1, q_isiI2, q_isiI3, q_isiI4, q_isiI5, q_isiB0, q_isiB1, q_isiB2, q_isiB3, q_isiB4, q_isiB5, q_isiS0, q_isiS1, q_isiS2, q_isiS3, q_isiS4, q_isiS5, q_isiT0, q_isiT1, q_isiT2, q_isiT3, q_isiT4, q_isiT5, q_isiR0, q_isiR1, q_isiR2, q_isiR3, q_isiR4, q_isiR5, q_isiN0, q_isiN1, q_isiN2, q_isiN3, q_isiN4, q_isiN5, q_lenS, q_lenT, q_lenR, q_min2, q_max2, q_strS, q_tupP, ix_0, ix_1, ix_2, ix_3, decide_true, decide_false, List.cons.injEq, reduceCtorEq, and_false, false_and, and_true, true_and, Nat.reduceEqDiff, Int.reduceLE, Int.reduceEq, Int.reduceLT, add_str (a := [61]) (show [61].length + s.length ≤ LIM by simp only [List.length_cons, List.length_nil, LIM]; omega), SF.line, List.cons_append, List.nil_append, and_self]
  | digits lo hi =>
    obtain ⟨f1, f2⟩ := fo
    simp only [SF.d, w_raise, w_try, w_vMS, w_vML, w_fmt, w_js, w_fj0, w_fj1, w_disp2, w_get2, w_idxC, w_split, w_par, w_unpL, w_unpV, w_dnew, w_dnewN, w_subD, w_bind, w_noX, w_ok, w_C, w_op2, w_asB, w_op3, w_and, w_or, w_not, w_test, w_bAnd, w_bOr, w_bNot, w_if, w_lif, w_tup, w_lst, w_alloc, w_vL, w_call, w_aNil, w_aCons, w_lCall, w_append, w_nil, w_lnil, w_seq, w_next, w_ret, w_set, w_expr, w_sif, w_sub, w_unp, w_fn1, w_fn2, w_fn3, w_fn4, w_fn5, w_join, w_vSrc, w_aSrc, w_lSrc, w_catLL, w_catOL, w_repL, w_sortV, w_asI, w_slE0, w_slE1, w_sl, q_srcT, q_srcS, q_srcR, q_zipT, q_slT, w_lc, w_forS, Int.toNat_natCast, v_0, v_S, List.replicate_succ, List.replicate_zero, Nat.reduceSub, List.getElem?_cons_zero, List.getElem?_cons_succ, List.set_cons_zero, List.set_cons_succ, if_true, if_false, Bool.false_eq_true, Bool.not_true, Bool.not_false, q_add, q_addT, q_addS, q_sub, q_eq, q_eqS, q_eqB, q_ne, q_neS, q_neB, q_lt, q_ltS, q_le, q_gt, q_ge, q_in1, q_nin1, q_isN, q_isnN, q_isB, q_isnB, q_isiI0, q_isiI1, q_isiI2, q_isiI3, q_isiI4, q_isiI5, q_isiB0, q_isiB1, q_isiB2, q_isiB3, q_isiB4, q_isiB5, q_isiS0, q_isiS1, q_isiS2, q_isiS3, q_isiS4, q_isiS5, q_isiT0, q_isiT1, q_isiT2, q_isiT3, q_isiT4, q_isiT5, q_isiR0, q_isiR1, q_isiR2, q_isiR3, q_isiR4, q_isiR5, q_isiN0, q_isiN1, q_isiN2, q_isiN3, q_isiN4, q_isiN5, q_lenS, q_lenT, q_lenR, q_min2, q_max2, q_strS, q_tupP, ix_0, ix_1, ix_2, ix_3, decide_true, decide_false, List.cons.injEq, reduceCtorEq, and_false, false_and, and_true, true_and, Nat.reduceEqDiff, Int.reduceLE, Int.reduceEq, Int.reduceLT, List.length_cons, List.length_nil, lim_0, lim_1, lim_2, lim_3, lim_4, lim_5, lim_6, lim_7, lim_8, lim_9, lim_10, lim_11, lim_12, lim_13, lim_14, lim_15, lim_16, lim_17, lim_18, lim_19, lim_20, lim_21, lim_22, lim_23, Nat.reduceAdd, Nat.reduceLeDiff, ix_d, ix_l, List.nil_append, List.cons_append, q_fmtS (s := [100]) (show [100].length ≤ LIM by simp [LIM]), q_fmtI (n := lo) (by omega), q_fmtI (n := hi) (by omega), dec1 lo (by omega), dec1 hi (by omega)]
    simp [SF.line, dec1 lo (show lo ≤ 4 by omega), dec1 hi (show hi ≤ 4 by omega)]
  | letters lo hi =>
    obtain ⟨f1, f2⟩ := fo
    simp only [SF.d, w_raise, w_try, w_vMS, w_vML, w_fmt, w_js, w_fj0, w_fj1, w_disp2, w_get2, w_idxC, w_split, w_par, w_unpL, w_unpV, w_dnew, w_dnewN, w_subD, w_bind, w_noX, w_ok, w_C, w_op2, w_asB, w_op3, w_and, w_or, w_not, w_test, w_bAnd, w_bOr, w_bNot, w_if, w_lif, w_tup, w_lst, w_alloc, w_vL, w_call, w_aNil, w_aCons, w_lCall, w_append, w_nil, w_lnil, w_seq, w_next, w_ret, w_set, w_expr, w_sif, w_sub, w_unp, w_fn1, w_fn2, w_fn3, w_fn4, w_fn5, w_join, w_vSrc, w_aSrc, w_lSrc, w_catLL, w_catOL, w_repL, w_sortV, w_asI, w_slE0, w_slE1, w_sl, q_srcT, q_srcS, q_srcR, q_zipT, q_slT, w_lc, w_forS, Int.toNat_natCast, v_0, v_S, List.replicate_succ, List.replicate_zero, Nat.reduceSub, List.getElem?_cons_zero, List.getElem?_cons_succ, List.set_cons_zero, List.set_cons_succ, if_true, if_false, Bool.false_eq_true, Bool.not_true, Bool.not_false, q_add, q_addT, q_addS, q_sub, q_eq, q_eqS, q_eqB, q_ne, q_neS, q_neB, q_lt, q_ltS, q_le, q_gt, q_ge, q_in1, q_nin1, q_isN, q_isnN, q_isB, q_isnB, q_isiI0, q_isiI1, q_isiI2, q_isiI3, q_isiI4, q_isiI5, q_isiB0, q_isiB1, q_isiB2, q_isiB3, q_isiB4, q_isiB5, q_isiS0, q_isiS1, q_isiS2, q_isiS3, q_isiS4, q_isiS5, q_isiT0, q_isiT1, q_isiT2, q_isiT3, q_isiT4, q_isiT5, q_isiR0, q_isiR1, q_isiR2, q_isiR3, q_isiR4, q_isiR5, q_isiN0, q_isiN1, q_isiN2, q_isiN3, q_isiN4, q_isiN5, q_lenS, q_lenT, q_lenR, q_min2, q_max2, q_strS, q_tupP, ix_0, ix_1, ix_2, ix_3, decide_true, decide_false, List.cons.injEq, reduceCtorEq, and_false, false_and, and_true, true_and, Nat.reduceEqDiff, Int.reduceLE, Int.reduceEq, Int.reduceLT, List.length_cons, List.length_nil, lim_0, lim_1, lim_2, lim_3, lim_4, lim_5, lim_6, lim_7, lim_8, lim_9, lim_10, lim_11, lim_12, lim_13, lim_14, lim_15, lim_16, lim_17, lim_18, lim_19, lim_20, lim_21, lim_22, lim_23, Nat.reduceAdd, Nat.reduceLeDiff, ix_d, ix_l, List.nil_append, List.cons_append, q_fmtS (s := [108]) (show [108].length ≤ LIM by simp [LIM]), q_fmtI (n := lo) (by omega), q_fmtI (n := hi) (by omega), dec1 lo (by omega), dec1 hi (by omega)]
    simp [SF.line, dec1 lo (show lo ≤ 4 by omega), dec1 hi (show hi ≤ 4 by omega)]
  | number n =>
    obtain ⟨f1, f2⟩ := fo
    simp only [SF.d, w_raise, w_try, w_vMS, w_vML, w_fmt, w_js, w_fj0, w_fj1, w_disp2, w_get2, w_idxC, w_split, w_par, w_unpL, w_unpV, w_dnew, w_dnewN, w_subD, w_bind, w_noX, w_ok, w_C, w_op2, w_asB, w_op3, w_and, w_or, w_not, w_test, w_bAnd, w_bOr, w_bNot, w_if, w_lif, w_tup, w_lst, w_alloc, w_vL, w_call, w_aNil, w_aCons, w_lCall, w_append, w_nil, w_lnil, w_seq, w_next, w_ret, w_set, w_expr, w_sif, w_sub, w_unp, w_fn1, w_fn2, w_fn3, w_fn4, w_fn5, w_join, w_vSrc, w_aSrc, w_lSrc, w_catLL, w_catOL, w_repL, w_sortV, w_asI, w_slE0, w_slE1, w_sl, q_srcT, q_srcS, q_srcR, q_zipT, q_slT, w_lc, w_forS, Int.toNat_natCast, v_0, v_S, List.replicate_succ, List.replicate_zero, Nat.reduceSub, List.getElem?_cons_zero, List.getElem?_cons_succ, List.set_cons_zero, List.set_cons_succ, if_true, if_false, Bool.false_eq_true, Bool.not_true, Bool.not_false, q_add, q_addT, q_addS, q_sub, q_eq, q_eqS, q_eqB, q_ne, q_neS, q_neB, q_lt, q_ltS, q_le, q_gt, q_ge, q_in1, q_nin1, q_isN, q_isnN, q_isB, q_isnB, q_isiI0, q_isiI1, q_isiI2, q_isiI3, q_isiI4, q_isiI5, q_isiB0, q_isiB1, q_isiB2, q_isiB3, q_isiB4, q_isiB5, q_isiS0, q_isiS1, q_isiS2, q_isiS3, q_isiS4, q_isiS5, q_isiT0, q_isiT1, q_isiT2, q_isiT3, q_isiT4, q_isiT5, q_isiR0, q_isiR1, q_isiR2, q_isiR3, q_isiR4, q_isiR5, q_isiN0, q_isiN1, q_isiN2, q_isiN3, q_isiN4, q_isiN5, q_lenS, q_lenT, q_lenR, q_min2, q_max2, q_strS, q_tupP, ix_0, ix_1, ix_2, ix_3, decide_true, decide_false, List.cons.injEq, reduceCtorEq, and_false, false_and, and_true, true_and, Nat.reduceEqDiff, Int.reduceLE, Int.reduceEq, Int.reduceLT, List.length_cons, List.length_nil, lim_0, lim_1, lim_2, lim_3, lim_4, lim_5, lim_6, lim_7, lim_8, lim_9, lim_10, lim_11, lim_12, lim_13, lim_14, lim_15, lim_16, lim_17, lim_18, lim_19, lim_20, lim_21, lim_22, lim_23, Nat.reduceAdd, Nat.reduceLeDiff, List.nil_append, List.cons_append, q_fmtI (n := n) (by omega), dec1 n (by omega)]
    simp [SF.line, dec1 n (show n ≤ 4 by omega)]
  | choice ts =>
    obtain ⟨f1, f2, f3, f4⟩ := fo
    simp only [SF.d, w_raise, w_try, w_vMS, w_vML, w_fmt, w_js, w_fj0, w_fj1, w_disp2, w_get2, w_idxC, w_split, w_par, w_unpL, w_unpV, w_dnew, w_dnewN, w_subD, w_bind, w_noX, w_ok, w_C, w_op2, w_asB, w_op3, w_and, w_or, w_not, w_test, w_bAnd, w_bOr, w_bNot, w_if, w_lif, w_tup, w_lst, w_alloc, w_vL, w_call, w_aNil, w_aCons, w_lCall, w_append, w_nil, w_lnil, w_seq, w_next, w_ret, w_set, w_expr, w_sif, w_sub, w_unp, w_fn1, w_fn2, w_fn3, w_fn4, w_fn5, w_join, w_vSrc, w_aSrc, w_lSrc, w_catLL, w_catOL, w_repL, w_sortV, w_asI, w_slE0, w_slE1, w_sl, q_srcT, q_srcS, q_srcR, q_zipT, q_slT, w_lc, w_forS, Int.toNat_natCast, v_0, v_S, List.replicate_succ, List.replicate_zero, Nat.reduceSub, List.getElem?_cons_zero, List.getElem?_cons_succ, List.set_cons_zero, List.set_cons_succ, if_true, if_false, Bool.false_eq_true, Bool.not_true, Bool.not_false, q_add, q_addT, q_addS, q_sub, q_eq, q_eqS, q_eqB, q_ne, q_neS, q_neB, q_lt, q_ltS, q_le, q_gt, q_ge, q_in1, q_nin1, q_isN, q_isnN, q_isB, q_isnB, q_isiI0, q_isiI1, q_isiI2, q_isiI3, q_isiI4, q_isiI5, q_isiB0, q_isiB1, q_isiB2, q_isiB3, q_isiB4, q_isiB5, q_isiS0, q_isiS1, q_isiS2, q_isiS3, q_isiS4, q_isiS5, q_isiT0, q_isiT1, q_isiT2, q_isiT3, q_isiT4, q_isiT5, q_isiR0, q_isiR1, q_isiR2, q_isiR3, q_isiR4, q_isiR5, q_isiN0, q_isiN1, q_isiN2, q_isiN3, q_isiN4, q_isiN5, q_lenS, q_lenT, q_lenR, q_min2, q_max2, q_strS, q_tupP, ix_0, ix_1, ix_2, ix_3, decide_true, decide_false, List.cons.injEq, reduceCtorEq, and_false, false_and, and_true, true_and, Nat.reduceEqDiff, Int.reduceLE, Int.reduceEq, Int.reduceLT]
    rw [w_lcI (by simp only [List.length_map, LIM]; omega)]
    simp only [wipeE, List.set_cons_zero, List.set_cons_succ]
    rw [bars f3 f2 (fun x => rfl), w_ok]
    have := bars_sum f3
    rw [join_strs (by simp only [LIM]; omega), w_ok]
    exact ⟨rfl, rfl⟩)
end
end FT
end
section
set_option maxRecDepth 100000
namespace FT
open PySem L2
set_option autoImplicit false
section
variable {k : Nat} {h : MH}
theorem s_lineF {f : FF} (fo : f.Ok) : run (k + 2) I__law_line [f.d] h = .ok (.str f.line) h := by
  cases f with
  | one f => exact s_lineS fo
  | rep f lo hi =>
    refine Ok.eq ?_
    obtain ⟨f0, f1, f2, f3⟩ := fo
    obtain ⟨_, _, l1, _⟩ := SF.line_ok f0
    rw [e__law_line]
    unfold m__law_line
    simp only [FF.d, w_raise, w_try, w_vMS, w_vML, w_fmt, w_js, w_fj0, w_fj1, w_disp2, w_get2, w_idxC, w_split, w_par, w_unpL, w_unpV, w_dnew, w_dnewN, w_subD, w_bind, w_noX, w_ok, w_C, w_op2, w_asB, w_op3, w_and, w_or, w_not, w_test, w_bAnd, w_bOr, w_bNot, w_if, w_lif, w_tup, w_lst, w_alloc, w_vL, w_call, w_aNil, w_aCons, w_lCall, w_append, w_nil, w_lnil, w_seq, w_next, w_ret, w_set, w_expr, w_sif, w_sub, w_unp, w_fn1, w_fn2, w_fn3, w_fn4, w_fn5, w_join, w_vSrc, w_aSrc, w_lSrc, w_catLL, w_catOL, w_repL, w_sortV, w_asI, w_slE0, w_slE1, w_sl, q_srcT, q_srcS, q_srcR, q_zipT, q_slT, w_lc, w_forS, Int.toNat_natCast, v_0, v_S, List.replicate_succ, List.replicate_zero, Nat.reduceSub, List.getElem?_cons_zero, List.getElem?_cons_succ, List.set_cons_zero, List.set_cons_succ, if_true, if_false, Bool.false_eq_true, Bool.not_true, Bool.not_false, q_add, q_addT, q_addS, q_sub, q_eq, q_eqS, q_eqB, q_ne, q_neS, q_neB, q_lt, q_ltS, q_le, q_gt, q_ge, q_in1, q_nin1, q_isN, q_isnN, q_isB, q_isnB, q_isiI0, q_isiI1, q_isiI2, q_isiI3, q_isiI4, q_isiI5, q_isiB0, q_isiB1, q_isiB2, q_isiB3, q_isiB4, q_isiB5, q_isiS0, q_isiS1, q_isiS2, q_isiS3, q_isiS4, q_isiS5, q_isiT0, q_isiT1, q_isiT2, q_isiT3, q_isiT4, q_isiT5, q_isiR0, q_isiR1, q_isiR2, q_isiR3, q_isiR4, q_isiR5, q_isiN0, q_isiN1, q_isiN2, q_isiN3, q_isiN4, q_isiN5, q_lenS, q_lenT, q_lenR, q_min2, q_max2, q_strS, q_tupP, ix_0, ix_1, ix_2, ix_3, decide_true, decide_false, List.cons.injEq, reduceCtorEq, and_false, false_and, and_true, true_and, Nat.reduceEqDiff, Int.reduceLE, Int.reduceEq, Int.reduceLT, s_lineS f0]
    have d1 := dec1 lo (show lo ≤ 4 by omega)
    have d2 := dec1 hi (show hi ≤ 4 by omega)
    rw [add_str (by simp only [List.length_cons, List.length_nil, LIM]; omega), w_ok, str_int (by omega), w_ok, add_str (by simp only [List.length_append, List.length_cons, List.length_nil, LIM, d1]; omega), w_ok,
      add_str (by simp only [List.length_append, List.length_cons, List.length_nil, LIM, d1]; omega), w_ok, str_int (by omega), w_ok, add_str (by simp only [List.length_append, List.length_cons, List.length_nil, LIM, d1, d2]; omega), w_ok]
    simp [FF.line]
theorem s_textF {f : FF} (fo : f.Ok) : run (k + 2) I_field_text [f.d] h = .ok (.str f.line) h := by
  cases f with
  | one f => exact s_textS fo
  | rep f lo hi =>
    refine Ok.eq ?_
    obtain ⟨f0, f1, f2, f3⟩ := fo
    obtain ⟨_, _, l1, _⟩ := SF.line_ok f0
    have d1 := dec1 lo (show lo ≤ 4 by omega)
    have d2 := dec1 hi (show hi ≤ 4 by omega)
    rw [e_field_text]
    unfold m_field_text
    simp only [FF.d, w_raise, w_try, w_vMS, w_vML, w_fmt, w_js, w_fj0, w_fj1, w_disp2, w_get2, w_idxC, w_split, w_par, w_unpL, w_unpV, w_dnew, w_dnewN, w_subD, w_bind, w_noX, w_ok, w_C, w_op2, w_asB, w_op3, w_and, w_or, w_not, w_test, w_bAnd, w_bOr, w_bNot, w_if, w_lif, w_tup, w_lst, w_alloc, w_vL, w_call, w_aNil, w_aCons, w_lCall, w_append, w_nil, w_lnil, w_seq, w_next, w_ret, w_set, w_expr, w_sif, w_sub, w_unp, w_fn1, w_fn2, w_fn3, w_fn4, w_fn5, w_join, w_vSrc, w_aSrc, w_lSrc, w_catLL, w_catOL, w_repL, w_sortV, w_asI, w_slE0, w_slE1, w_sl, q_srcT, q_srcS, q_srcR, q_zipT, q_slT, w_lc, w_forS, Int.toNat_natCast, v_0, v_S, List.replicate_succ, List.replicate_zero, Nat.reduceSub, List.getElem?_cons_zero, List.getElem?_cons_succ, List.set_cons_zero, List.set_cons_succ, if_true, if_false, Bool.false_eq_true, Bool.not_true, Bool.not_false, q_add, q_addT, q_addS, q_sub, q_eq, q_eqS, q_eqB, q_ne, q_neS, q_neB, q_lt, q_ltS, q_le, q_gt, q_ge, q_in1, q_nin1, q_isN, q_isnN, q_isB, q_isnB, q_isiI0, q_isiI1, q_isiI2, q_isiI3, q_isiI4, q_isiI5, q_isiB0, q_isiB1, q_isiB2, q_isiB3, q_isiB4, q_isiB5, q_isiS0, q_isiS1, q_isiS2, q_isiS3, q_isiS4, q_isiS5, q_isiT0, q_isiT1, q_isiT2, q_isiT3, q_isiT4, q_isiT5, q_isiR0, q_isiR1, q_isiR2, q_isiR3, q_isiR4, q_isiR5, q_isiN0, q_isiN1, q_isiN2, q_isiN3, q_isiN4, q_isiN5, q_lenS, q_lenT, q_lenR, q_min2, q_max2, q_strS, q_tupP, ix_0, ix_1, ix_2, ix_3, decide_true, decide_false, List.cons.injEq, reduceCtorEq, and_false, false_and, and_true, true_and, Nat.reduceEqDiff, Int.reduceLE, Int.reduceEq, Int.reduceLT, List.length_cons, List.length_nil, lim_0, lim_1, lim_2, lim_3, lim_4, lim_5, lim_6, lim_7, lim_8, lim_9, lim_10, lim_11, lim_12, lim_13, lim_14, lim_15, lim_16, lim_17, lim_18, lim_19, lim_20, lim_21, lim_22, lim_23, Nat.reduceAdd, Nat.reduceLeDiff, s_textS f0, List.nil_append, List.cons_append, q_fmtI (n := lo) (by omega), q_fmtI (n := hi) (by omega), d1, d2]
    rw [add_str (by simp only [List.length_append, List.length_cons, List.length_nil, LIM]; omega), w_ok]
    simp [FF.line, d1, d2]
theorem join_sep {s : Sg} {ps : List Sg} (hl : (ps.map List.length).sum + ps.length * s.length ≤ LIM) : joinP (.str s) (ps.map .str) h = .ok (.str (TL.joinL s ps)) h := by
  unfold joinP
  have : strsOf (ps.map D.str) = some ps := by
    have := strsOf_map (fun x : List Nat => x) ps
    simpa using this
  simp [this, hl]
theorem lines_sum {fs : List FF} (fo : ∀ f ∈ fs, f.Ok) : ((fs.map FF.line).map List.length).sum ≤ 24 * fs.length := by
  induction fs with
  | nil => simp
  | cons f fs ih =>
    have h1 := ih fun s hs => fo s (List.mem_cons_of_mem _ hs)
    have h2 := (FF.line_ok (fo f (List.mem_cons_self ..))).2.2.1
    simp only [List.map_cons, List.sum_cons, List.length_cons]
    omega
theorem join_len (s : Sg) : ∀ ps : List Sg, (TL.joinL s ps).length ≤ (ps.map List.length).sum + ps.length * s.length
  | [] => by simp [TL.joinL]
  | [p] => by simp [TL.joinL]
  | p :: q :: r => by
    have := join_len s (q :: r)
    simp only [TL.joinL, List.length_append, List.map_cons, List.sum_cons, List.length_cons] at this ⊢
    have e : (r.length + 1 + 1) * s.length = (r.length + 1) * s.length + s.length := by rw [Nat.add_mul (r.length + 1) 1]; omega
    rw [e]
    omega
theorem mem_join {s : Sg} {c : Nat} : ∀ {ps : List Sg}, c ∈ TL.joinL s ps → c ∈ s ∨ ∃ p ∈ ps, c ∈ p
  | [], h => by simp [TL.joinL] at h
  | [p], h => .inr ⟨p, by simp, by simpa [TL.joinL] using h⟩
  | p :: q :: r, h => by
    simp only [TL.joinL, List.mem_append] at h
    rcases h with h | h | h
    · exact .inr ⟨p, by simp, h⟩
    · exact .inl h
    · rcases mem_join (ps := q :: r) h with z | ⟨x, hx, z⟩
      · exact .inl z
      · exact .inr ⟨x, List.mem_cons_of_mem _ hx, z⟩
theorem count_join {s : Sg} {c : Nat} : ∀ {ps : List Sg}, c ∉ s → (TL.joinL s ps).count c = (ps.map (List.count c)).sum
  | [], h => by simp [TL.joinL]
  | [p], h => by simp [TL.joinL]
  | p :: q :: r, h => by
    have ih := count_join (ps := q :: r) h
    simp only [TL.joinL, List.count_append, List.map_cons, List.sum_cons] at ih ⊢
    rw [List.count_eq_zero_of_not_mem h, ih]
    omega
theorem formLine_ok {fs : List FF} (fo : ∀ f ∈ fs, f.Ok) : (formLine fs).length ≤ 25 * fs.length ∧ (∀ c ∈ formLine fs, c < 128) ∧ (formLine fs).count 42 ≤ fs.length := by
  refine ⟨?_, fun c hc => ?_, ?_⟩
  · have h1 := join_len [32] (fs.map FF.line)
    have h2 := lines_sum fo
    simp only [List.length_map, List.length_cons, List.length_nil] at h1
    unfold formLine
    omega
  · rcases mem_join hc with h | ⟨p, hp, h⟩
    · simp at h; omega
    · obtain ⟨f, hf, rfl⟩ := List.mem_map.mp hp
      exact (FF.line_ok (fo f hf)).2.2.2 c h
  · unfold formLine
    rw [count_join (by simp)]
    induction fs with
    | nil => simp
    | cons f fs ih =>
      have h1 := ih fun s hs => fo s (List.mem_cons_of_mem _ hs)
      have h2 := (FF.line_ok (fo f (List.mem_cons_self ..))).1
      simp only [List.map_cons, List.sum_cons, List.length_cons]
      omega
theorem splC_line {fs : List FF} (fo : FormOk fs) : splC 32 (formLine fs) = fs.map FF.line := by
  refine splC_join ?_ fun p hp => ?_
  · intro e
    have := fo.2.1
    simp at e
    rw [e] at this
    simp at this
  · obtain ⟨f, hf, rfl⟩ := List.mem_map.mp hp
    exact (FF.line_ok (fo.1 f hf)).2.1
theorem s_formText {fs : List FF} (fo : FormOk fs) : run (k + 3) I_form_text [.tup (fs.map FF.d)] h = .ok (.str (formLine fs)) h := Ok.eq (by
  rw [e_form_text]
  unfold m_form_text
  obtain ⟨f0, f1, f2⟩ := fo
  simp only [w_raise, w_try, w_vMS, w_vML, w_fmt, w_js, w_fj0, w_fj1, w_disp2, w_get2, w_idxC, w_split, w_par, w_unpL, w_unpV, w_dnew, w_dnewN, w_subD, w_bind, w_noX, w_ok, w_C, w_op2, w_asB, w_op3, w_and, w_or, w_not, w_test, w_bAnd, w_bOr, w_bNot, w_if, w_lif, w_tup, w_lst, w_alloc, w_vL, w_call, w_aNil, w_aCons, w_lCall, w_append, w_nil, w_lnil, w_seq, w_next, w_ret, w_set, w_expr, w_sif, w_sub, w_unp, w_fn1, w_fn2, w_fn3, w_fn4, w_fn5, w_join, w_vSrc, w_aSrc, w_lSrc, w_catLL, w_catOL, w_repL, w_sortV, w_asI, w_slE0, w_slE1, w_sl, q_srcT, q_srcS, q_srcR, q_zipT, q_slT, w_lc, w_forS, Int.toNat_natCast, v_0, v_S, List.replicate_succ, List.replicate_zero, Nat.reduceSub, List.getElem?_cons_zero, List.getElem?_cons_succ, List.set_cons_zero, List.set_cons_succ, if_true, if_false, Bool.false_eq_true, Bool.not_true, Bool.not_false, q_add, q_addT, q_addS, q_sub, q_eq, q_eqS, q_eqB, q_ne, q_neS, q_neB, q_lt, q_ltS, q_le, q_gt, q_ge, q_in1, q_nin1, q_isN, q_isnN, q_isB, q_isnB, q_isiI0, q_isiI1, q_isiI2, q_isiI3, q_isiI4, q_isiI5, q_isiB0, q_isiB1, q_isiB2, q_isiB3, q_isiB4, q_isiB5, q_isiS0, q_isiS1, q_isiS2, q_isiS3, q_isiS4, q_isiS5, q_isiT0, q_isiT1, q_isiT2, q_isiT3, q_isiT4, q_isiT5, q_isiR0, q_isiR1, q_isiR2, q_isiR3, q_isiR4, q_isiR5, q_isiN0, q_isiN1, q_isiN2, q_isiN3, q_isiN4, q_isiN5, q_lenS, q_lenT, q_lenR, q_min2, q_max2, q_strS, q_tupP, ix_0, ix_1, ix_2, ix_3]
  rw [w_lcI (by simp only [List.length_map, LIM]; omega)]
  simp only [wipeE, w_raise, w_try, w_vMS, w_vML, w_fmt, w_js, w_fj0, w_fj1, w_disp2, w_get2, w_idxC, w_split, w_par, w_unpL, w_unpV, w_dnew, w_dnewN, w_subD, w_bind, w_noX, w_ok, w_C, w_op2, w_asB, w_op3, w_and, w_or, w_not, w_test, w_bAnd, w_bOr, w_bNot, w_if, w_lif, w_tup, w_lst, w_alloc, w_vL, w_call, w_aNil, w_aCons, w_lCall, w_append, w_nil, w_lnil, w_seq, w_next, w_ret, w_set, w_expr, w_sif, w_sub, w_unp, w_fn1, w_fn2, w_fn3, w_fn4, w_fn5, w_join, w_vSrc, w_aSrc, w_lSrc, w_catLL, w_catOL, w_repL, w_sortV, w_asI, w_slE0, w_slE1, w_sl, q_srcT, q_srcS, q_srcR, q_zipT, q_slT, w_lc, w_forS, Int.toNat_natCast, v_0, v_S, List.replicate_succ, List.replicate_zero, Nat.reduceSub, List.getElem?_cons_zero, List.getElem?_cons_succ, List.set_cons_zero, List.set_cons_succ, if_true, if_false, Bool.false_eq_true, Bool.not_true, Bool.not_false, q_add, q_addT, q_addS, q_sub, q_eq, q_eqS, q_eqB, q_ne, q_neS, q_neB, q_lt, q_ltS, q_le, q_gt, q_ge, q_in1, q_nin1, q_isN, q_isnN, q_isB, q_isnB, q_isiI0, q_isiI1, q_isiI2, q_isiI3, q_isiI4, q_isiI5, q_isiB0, q_isiB1, q_isiB2, q_isiB3, q_isiB4, q_isiB5, q_isiS0, q_isiS1, q_isiS2, q_isiS3, q_isiS4, q_isiS5, q_isiT0, q_isiT1, q_isiT2, q_isiT3, q_isiT4, q_isiT5, q_isiR0, q_isiR1, q_isiR2, q_isiR3, q_isiR4, q_isiR5, q_isiN0, q_isiN1, q_isiN2, q_isiN3, q_isiN4, q_isiN5, q_lenS, q_lenT, q_lenR, q_min2, q_max2, q_strS, q_tupP, ix_0, ix_1, ix_2, ix_3]
  rw [lcL_map (fun f => .str (FF.line f)) fun f hf => Ok.eq (by simp only [w_raise, w_try, w_vMS, w_vML, w_fmt, w_js, w_fj0, w_fj1, w_disp2, w_get2, w_idxC, w_split, w_par, w_unpL, w_unpV, w_dnew, w_dnewN, w_subD, w_bind, w_noX, w_ok, w_C, w_op2, w_asB, w_op3, w_and, w_or, w_not, w_test, w_bAnd, w_bOr, w_bNot, w_if, w_lif, w_tup, w_lst, w_alloc, w_vL, w_call, w_aNil, w_aCons, w_lCall, w_append, w_nil, w_lnil, w_seq, w_next, w_ret, w_set, w_expr, w_sif, w_sub, w_unp, w_fn1, w_fn2, w_fn3, w_fn4, w_fn5, w_join, w_vSrc, w_aSrc, w_lSrc, w_catLL, w_catOL, w_repL, w_sortV, w_asI, w_slE0, w_slE1, w_sl, q_srcT, q_srcS, q_srcR, q_zipT, q_slT, w_lc, w_forS, Int.toNat_natCast, v_0, v_S, List.replicate_succ, List.replicate_zero, Nat.reduceSub, List.getElem?_cons_zero, List.getElem?_cons_succ, List.set_cons_zero, List.set_cons_succ, if_true, if_false, Bool.false_eq_true, Bool.not_true, Bool.not_false, q_add, q_addT, q_addS, q_sub, q_eq, q_eqS, q_eqB, q_ne, q_neS, q_neB, q_lt, q_ltS, q_le, q_gt, q_ge, q_in1, q_nin1, q_isN, q_isnN, q_isB, q_isnB, q_isiI0, q_isiI1, q_isiI2, q_isiI3, q_isiI4, q_isiI5, q_isiB0, q_isiB1, q_isiB2, q_isiB3, q_isiB4, q_isiB5, q_isiS0, q_isiS1, q_isiS2, q_isiS3, q_isiS4, q_isiS5, q_isiT0, q_isiT1, q_isiT2, q_isiT3, q_isiT4, q_isiT5, q_isiR0, q_isiR1, q_isiR2, q_isiR3, q_isiR4, q_isiR5, q_isiN0, q_isiN1, q_isiN2, q_isiN3, q_isiN4, q_isiN5, q_lenS, q_lenT, q_lenR, q_min2, q_max2, q_strS, q_tupP, ix_0, ix_1, ix_2, ix_3, s_textF (f0 f hf), and_self]), w_ok]
  have e : (fs.map fun f => D.str f.line) = (fs.map FF.line).map .str := by rw [List.map_map]; rfl
  have h1 := lines_sum f0
  rw [e, join_sep (by simp only [List.length_map, List.length_cons, List.length_nil, LIM]; omega), w_ok]
  exact ⟨rfl, rfl⟩)
theorem s_lawLines {fs : List FF} (f0 : ∀ f ∈ fs, f.Ok) {i : Nat} {env : Ev} (he : ∀ x, (env.set i (some x))[11]? = some (some x)) : lcL (.nm i) bTrue (vCall (run (k + 2) I__law_line) (aCons (vVar 11) aNil)) env (fs.map FF.d) h = .ok ((fs.map FF.line).map .str) h := by
  rw [lcL_map (fun f => .str (FF.line f)) fun f hf => Ok.eq (by simp only [w_call, w_aCons, w_var (he _), w_aNil, s_lineF (f0 f hf), w_ok, and_self])]
  rw [List.map_map]
  rfl
theorem s_notation {fs : List FF} (fo : FormOk fs) : run (k + 7) I_notation [.tup (fs.map FF.d)] h = .ok (.str (formLine fs)) h := Ok.eq (by
  rw [e_notation]
  unfold m_notation
  simp only [w_raise, w_try, w_vMS, w_vML, w_fmt, w_js, w_fj0, w_fj1, w_disp2, w_get2, w_idxC, w_split, w_par, w_unpL, w_unpV, w_dnew, w_dnewN, w_subD, w_bind, w_noX, w_ok, w_C, w_op2, w_asB, w_op3, w_and, w_or, w_not, w_test, w_bAnd, w_bOr, w_bNot, w_if, w_lif, w_tup, w_lst, w_alloc, w_vL, w_call, w_aNil, w_aCons, w_lCall, w_append, w_nil, w_lnil, w_seq, w_next, w_ret, w_set, w_expr, w_sif, w_sub, w_unp, w_fn1, w_fn2, w_fn3, w_fn4, w_fn5, w_join, w_vSrc, w_aSrc, w_lSrc, w_catLL, w_catOL, w_repL, w_sortV, w_asI, w_slE0, w_slE1, w_sl, q_srcT, q_srcS, q_srcR, q_zipT, q_slT, w_lc, w_forS, Int.toNat_natCast, v_0, v_S, List.replicate_succ, List.replicate_zero, Nat.reduceSub, List.getElem?_cons_zero, List.getElem?_cons_succ, List.set_cons_zero, List.set_cons_succ, if_true, if_false, Bool.false_eq_true, Bool.not_true, Bool.not_false, q_add, q_addT, q_addS, q_sub, q_eq, q_eqS, q_eqB, q_ne, q_neS, q_neB, q_lt, q_ltS, q_le, q_gt, q_ge, q_in1, q_nin1, q_isN, q_isnN, q_isB, q_isnB, q_isiI0, q_isiI1, q_isiI2, q_isiI3, q_isiI4, q_isiI5, q_isiB0, q_isiB1, q_isiB2, q_isiB3, q_isiB4, q_isiB5, q_isiS0, q_isiS1, q_isiS2, q_isiS3, q_isiS4, q_isiS5, q_isiT0, q_isiT1, q_isiT2, q_isiT3, q_isiT4, q_isiT5, q_isiR0, q_isiR1, q_isiR2, q_isiR3, q_isiR4, q_isiR5, q_isiN0, q_isiN1, q_isiN2, q_isiN3, q_isiN4, q_isiN5, q_lenS, q_lenT, q_lenR, q_min2, q_max2, q_strS, q_tupP, ix_0, ix_1, ix_2, ix_3, s_check fo, s_formText fo, and_self])
end
/-! ### what is a field -/
theorem textB_of {d : D} (hd : textB d 1 4 = true) : ∃ s, d = .str s ∧ TxOk s := by
  cases d <;> simp only [textB] at hd <;> try (cases hd; done)
  rename_i s
  simp only [Bool.and_eq_true, decide_eq_true_eq] at hd
  refine ⟨s, rfl, hd.1, hd.2.1, fun c hc => ?_⟩
  have := List.all_eq_true.mp hd.2.2 c hc
  simpa using this
theorem betw_of {d : D} {lo hi : Int} (hd : betw d lo hi = true) : ∃ i : Int, d = .int i ∧ lo ≤ i ∧ i ≤ hi := by
  cases d <;> simp only [betw] at hd <;> try (cases hd; done)
  rename_i i
  simp only [Bool.and_eq_true, decide_eq_true_eq] at hd
  exact ⟨i, rfl, hd⟩
theorem span_of {x y : D} {least most : Int} (hd : spanB x y least most = true) (h0 : 0 ≤ least) : ∃ lo hi : Nat, x = .int lo ∧ y = .int hi ∧ lo ≤ hi ∧ least ≤ hi ∧ (hi : Int) ≤ most := by
  simp only [spanB, Bool.and_eq_true] at hd
  obtain ⟨h1, h2, h3⟩ := hd
  obtain ⟨i, rfl, a1, a2⟩ := betw_of h1
  obtain ⟨j, rfl, b1, b2⟩ := betw_of h2
  simp only [leB, decide_eq_true_eq] at h3
  exact ⟨i.toNat, j.toNat, by rw [Int.toNat_of_nonneg a1], by rw [Int.toNat_of_nonneg (by omega)], by omega, by omega, by omega⟩
theorem strs_of : ∀ {ts : List D}, ts.all (fun t => textB t 1 4) = true → ∃ ss : List Sg, ts = ss.map .str ∧ ∀ s ∈ ss, TxOk s
  | [], _ => ⟨[], rfl, fun s hs => by simp at hs⟩
  | t :: ts, h => by
    simp only [List.all_cons, Bool.and_eq_true] at h
    obtain ⟨s, rfl, hs⟩ := textB_of h.1
    obtain ⟨ss, rfl, hss⟩ := strs_of h.2
    exact ⟨s :: ss, rfl, fun x hx => by
      rcases List.mem_cons.mp hx with rfl | hx
      · exact hs
      · exact hss x hx⟩
theorem asc_of : ∀ {ss : List Sg}, ascB (ss.map .str) = true → ss.Pairwise (· < ·)
  | [], _ => .nil
  | [s], _ => List.pairwise_singleton _ _
  | s :: t :: r, h => by
    simp only [List.map_cons, ascB, Bool.and_eq_true, decide_eq_true_eq] at h
    have ih := asc_of (ss := t :: r) h.2
    refine List.Pairwise.cons (fun x hx => ?_) ih
    rcases List.mem_cons.mp hx with rfl | hx
    · exact h.1
    · exact List.lt_trans h.1 ((List.pairwise_cons.mp ih).1 x hx)
theorem simple_of {d : D} (hd : simpleB d = true) : ∃ f : SF, d = f.d ∧ f.Ok := by
  cases d <;> simp only [simpleB] at hd <;> try (cases hd; done)
  rename_i ds
  match ds, hd with
  | [.str s, x], hd =>
    simp only [simpleB] at hd
    by_cases c1 : s = kWord
    · simp only [c1, if_true] at hd
      obtain ⟨t, rfl, ht⟩ := textB_of hd
      exact ⟨.word t, by rw [c1]; rfl, ht⟩
    simp only [c1, if_false] at hd
    by_cases c2 : s = kNumber
    · simp only [c2, if_true] at hd
      obtain ⟨i, rfl, a1, a2⟩ := betw_of hd
      exact ⟨.number i.toNat, by rw [c2, SF.d, Int.toNat_of_nonneg (by omega)], by omega, by omega⟩
    simp only [c2, if_false, Bool.and_eq_true, decide_eq_true_eq] at hd
    obtain ⟨c3, hd⟩ := hd
    cases x <;> simp only [choiceB] at hd <;> try (cases hd; done)
    rename_i ts
    simp only [Bool.and_eq_true, decide_eq_true_eq] at hd
    obtain ⟨l1, l4, ha, hs⟩ := hd
    obtain ⟨ss, rfl, hss⟩ := strs_of ha
    exact ⟨.choice ss, by rw [c3]; rfl, by simpa using l1, by simpa using l4, hss, asc_of hs⟩
  | [.str s, x, y], hd =>
    simp only [simpleB, Bool.and_eq_true, decide_eq_true_eq] at hd
    obtain ⟨hs, hd⟩ := hd
    obtain ⟨lo, hi, rfl, rfl, a1, a2, a3⟩ := span_of hd (by omega)
    rcases hs with rfl | rfl
    · exact ⟨.digits lo hi, rfl, a1, by omega⟩
    · exact ⟨.letters lo hi, rfl, a1, by omega⟩
theorem field_of {d : D} (hd : fieldB d = true) : ∃ f : FF, d = f.d ∧ f.Ok := by
  have gen : simpleB d = true → ∃ f : FF, d = f.d ∧ f.Ok := fun hd => by
    obtain ⟨f, e, fo⟩ := simple_of hd
    exact ⟨.one f, e, fo⟩
  unfold fieldB at hd
  split at hd
  · rename_i s x y z
    simp only [Bool.and_eq_true, decide_eq_true_eq] at hd
    obtain ⟨rfl, h1, h2⟩ := hd
    obtain ⟨f, rfl, fo⟩ := simple_of h1
    obtain ⟨lo, hi, rfl, rfl, a1, a2, a3⟩ := span_of h2 (by omega)
    exact ⟨.rep f lo hi, rfl, fo, a1, by omega, by omega⟩
  · exact gen hd
theorem fields_of : ∀ {ds : List D}, ds.all fieldB = true → ∃ fs : List FF, ds = fs.map FF.d ∧ ∀ f ∈ fs, f.Ok
  | [], _ => ⟨[], rfl, fun s hs => by simp at hs⟩
  | d :: ds, h => by
    simp only [List.all_cons, Bool.and_eq_true] at h
    obtain ⟨s, rfl, hs⟩ := field_of h.1
    obtain ⟨ss, rfl, hss⟩ := fields_of h.2
    exact ⟨s :: ss, rfl, fun x hx => by
      rcases List.mem_cons.mp hx with rfl | hx
      · exact hs
      · exact hss x hx⟩
theorem format_of {d : D} (hd : formatB d = true) : ∃ fs : List FF, d = .tup (fs.map FF.d) ∧ FormOk fs := by
  cases d <;> simp only [formatB] at hd <;> try (cases hd; done)
  rename_i ds
  simp only [Bool.and_eq_true, decide_eq_true_eq] at hd
  obtain ⟨l1, l4, ha⟩ := hd
  obtain ⟨fs, rfl, hf⟩ := fields_of ha
  exact ⟨fs, rfl, hf, by simpa using l1, by simpa using l4⟩
theorem txB {s : Sg} (hs : TxOk s) : textB (.str s) 1 4 = true := by
  simp only [textB, Bool.and_eq_true, decide_eq_true_eq]
  exact ⟨hs.1, hs.2.1, List.all_eq_true.mpr fun c hc => decide_eq_true (hs.2.2 c hc)⟩
theorem ascB_of : ∀ {ss : List Sg}, ss.Pairwise (· < ·) → ascB (ss.map .str) = true
  | [], _ => rfl
  | [s], _ => rfl
  | s :: t :: r, h => by
    obtain ⟨h1, h2⟩ := List.pairwise_cons.mp h
    simp only [List.map_cons, ascB, Bool.and_eq_true, decide_eq_true_eq]
    exact ⟨h1 t (by simp), ascB_of h2⟩
theorem simpleB_of {f : SF} (fo : f.Ok) : simpleB f.d = true := by
  cases f with
  | word s => simp only [SF.d, simpleB, if_true]; exact txB fo
  | digits lo hi =>
    obtain ⟨f1, f2⟩ := fo
    simp [SF.d, simpleB, spanB, betw, leB]
    omega
  | letters lo hi =>
    obtain ⟨f1, f2⟩ := fo
    simp [SF.d, simpleB, spanB, betw, leB]
    omega
  | number n =>
    obtain ⟨f1, f2⟩ := fo
    simp [SF.d, simpleB, betw]
    omega
  | choice ts =>
    obtain ⟨f1, f2, f3, f4⟩ := fo
    have a : (ts.map D.str).all (fun t => textB t 1 4) = true := by
      rw [List.all_eq_true]
      intro x hx
      obtain ⟨s, hs, rfl⟩ := List.mem_map.mp hx
      exact txB (f3 s hs)
    have b := ascB_of f4
    simp [SF.d, simpleB, choiceB, f1, f2, b] at a ⊢
    exact a
theorem fieldB_of {f : FF} (fo : f.Ok) : fieldB f.d = true := by
  cases f with
  | one f =>
    have := simpleB_of fo
    cases f <;> exact this
  | rep f lo hi =>
    obtain ⟨f0, f1, f2, f3⟩ := fo
    simp [FF.d, fieldB, simpleB_of f0, spanB, betw, leB]
    omega
theorem formatB_of {fs : List FF} (fo : FormOk fs) : formatB (.tup (fs.map FF.d)) = true := by
  simp only [formatB, List.length_map, Bool.and_eq_true, decide_eq_true_eq]
  refine ⟨fo.2.1, fo.2.2, ?_⟩
  rw [List.all_eq_true]
  intro x hx
  obtain ⟨f, hf, rfl⟩ := List.mem_map.mp hx
  exact fieldB_of (fo.1 f hf)
/-- a text that is a notation -/
def IsNot (s : Sg) : Prop := ∃ fs, FormOk fs ∧ formLine fs = s
theorem not_read {s : Sg} {fs : List FF} (fo : FormOk fs) (e : formLine fs = s) : (splC 32 s).map readF = fs.map FF.d ∧ (splC 32 s).map lawF = fs.map FF.d := by
  subst e
  rw [splC_line fo, List.map_map, List.map_map]
  exact ⟨List.map_congr_left fun f hf => readF_line (fo.1 f hf), List.map_congr_left fun f hf => lawF_line (fo.1 f hf)⟩
theorem ffs_inj : ∀ {a b : List FF}, a.map FF.d = b.map FF.d → a = b
  | [], [], _ => rfl
  | [], _ :: _, h => by simp at h
  | _ :: _, [], h => by simp at h
  | x :: a, y :: b, h => by
    simp only [List.map_cons, List.cons.injEq] at h
    rw [ffd_inj h.1, ffs_inj h.2]
end FT
end
section
set_option maxRecDepth 100000
namespace FT
open PySem L2
set_option autoImplicit false
section
variable {k : Nat} {h : MH}
def OkT (s : Sg) : Prop := s.length ≤ 1000 ∧ ∀ c ∈ s, c < 1114112
theorem dp_str {s : Sg} (hs : OkT s) : ∀ n, Dp' h n (.str s)
  | 0 => bas_str (by have := hs.1; omega) hs.2
  | n + 1 => ⟨bas_str (by have := hs.1; omega) hs.2, fun ds e => by cases e⟩
theorem dp_int {i : Int} : ∀ n, Dp' h n (.int i)
  | 0 => bas_int
  | n + 1 => ⟨bas_int, fun ds e => by cases e⟩
theorem dp_tup {ds : List D} {n : Nat} (hl : ds.length < 1000000) (hx : ∀ x ∈ ds, Dp' h n x) : Dp' h (n + 1) (.tup ds) := ⟨bas_tup hl, fun es e x m => by cases e; exact hx x m⟩
theorem OkT.drop {s : Sg} (hs : OkT s) (n : Nat) : OkT (s.drop n) := ⟨by have := hs.1; simp; omega, fun c h => hs.2 c (List.mem_of_mem_drop h)⟩
theorem OkT.take {s : Sg} (hs : OkT s) (n : Nat) : OkT (s.take n) := ⟨by have := hs.1; simp; omega, fun c h => hs.2 c (List.mem_of_mem_take h)⟩
theorem OkT.part {s p : Sg} {c : Nat} (hs : OkT s) (hp : p ∈ splC c s) : OkT p := ⟨by have := splC_plen hp; have := hs.1; omega, fun x hx => hs.2 x (splC_mem hp x hx)⟩
theorem dp_readS {p : Sg} (hp : OkT p) : ∀ n, Dp' h (n + 2) (readS p) := fun n => by
  have kw : ∀ s ∈ [kWord, kChoice, kNumber, kDigits, kLetters, ([] : Sg)], OkT s := by
    intro s hs
    simp at hs
    rcases hs with rfl | rfl | rfl | rfl | rfl | rfl <;> exact ⟨by decide, by decide⟩
  unfold readS
  split
  · exact dp_tup (by simp) fun x hx => by
      simp only [List.mem_cons, List.not_mem_nil, or_false] at hx
      rcases hx with rfl | rfl
      · exact dp_str (kw _ (by simp)) _
      · exact dp_str (hp.drop 1) _
  split
  · exact dp_tup (by simp) fun x hx => by
      simp only [List.mem_cons, List.not_mem_nil, or_false] at hx
      rcases hx with rfl | rfl
      · exact dp_str (kw _ (by simp)) _
      · refine dp_tup ?_ fun x hx => ?_
        · have := splC_len 124 (p.drop 1)
          have := (hp.drop 1).1
          simp only [List.length_map]
          omega
        · obtain ⟨t, ht, rfl⟩ := List.mem_map.mp hx
          exact dp_str ((hp.drop 1).part ht) _
  split
  · exact dp_tup (by simp) fun x hx => by
      simp only [List.mem_cons, List.not_mem_nil, or_false] at hx
      rcases hx with rfl | rfl
      · exact dp_str (kw _ (by simp)) _
      · exact dp_int _
  · refine dp_tup ?_ fun x hx => ?_
    · have := nums_len (s := p.drop 1)
      have := (hp.drop 1).1
      simp only [List.length_cons]
      omega
    · rcases List.mem_cons.mp hx with rfl | hx
      · refine dp_str (kw _ ?_) _
        unfold nameOf
        split
        · simp
        · split <;> simp
      · obtain ⟨t, ht, rfl⟩ := List.mem_map.mp hx
        exact dp_int _
theorem dp_readF {p : Sg} (hp : OkT p) : Dp' h 3 (readF p) := by
  unfold readF
  split
  · refine dp_tup ?_ fun x hx => ?_
    · have := nums_len (s := p.drop (p.idxOf 42 + 1))
      have := (hp.drop (p.idxOf 42 + 1)).1
      simp only [List.length_cons]
      omega
    · rcases List.mem_cons.mp hx with rfl | hx
      · exact dp_str ⟨by decide, by decide⟩ _
      · rcases List.mem_cons.mp hx with rfl | hx
        · exact dp_readS (hp.take _) 0
        · obtain ⟨t, ht, rfl⟩ := List.mem_map.mp hx
          exact dp_int _
  · exact dp_readS hp 1
theorem dp_lawF {p : Sg} (hp : OkT p) : Dp' h 3 (lawF p) := by
  unfold lawF
  split
  · exact dp_readF hp
  · exact dp_readS hp 1
theorem dp_parts {s : Sg} (hs : OkT s) {g : Sg → D} (hg : ∀ p, OkT p → Dp' h 3 (g p)) : Dp' h 4 (.tup ((splC 32 s).map g)) := by
  refine dp_tup ?_ fun x hx => ?_
  · have := splC_len 32 s
    have := hs.1
    simp only [List.length_map]
    omega
  · obtain ⟨p, hp, rfl⟩ := List.mem_map.mp hx
    exact hg p (hs.part hp)
theorem grow_parts {ξ : XE} {s : Sg} {g : Sg → D} {F : Nat} {env : Ev} {i : Nat} (hs : OkT s) (hr : ∀ p, OkT p → ∀ h', OkX noE (run (k + 4) F [.str p] h') fun v h2 => v = g p ∧ Px h' h2) (he : ∀ x, (env.set i (some x))[i]? = some (some x)) :
    OkX ξ (lcL (.nm i) bTrue (vCall (run (k + 4) F) (aCons (vVar i) aNil)) env ((splC 32 s).map .str) h) fun ys h' => ys = (splC 32 s).map g ∧ Px h h' :=
  lcL_grow g (splC 32 s) h fun p hp h' _ => by
    simp only [w_call, w_aCons, w_var (he _), w_aNil]
    exact hr p (hs.part hp) h'
theorem s_formatFrom {s : Sg} (hl : s.length ≤ 200) (hc : ∀ c ∈ s, c < 1114112) (h6 : s.count 42 ≤ 6) :
    OkX (fun c h' => c = "InvalidText" ∧ Px h h' ∧ ¬ IsNot s) (run (k + 6) I_format_from [.str s] h) (fun v h' => Px h h' ∧ IsNot s ∧ v = .tup ((splC 32 s).map readF)) := by
  have hs : OkT s := ⟨by omega, hc⟩
  have sl := splC_len 32 s
  rw [e_format_from]
  unfold m_format_from
  have c1 : ¬ (200 : Int) < (s.length : Int) := by omega
  have c2 : ¬ (6 : Int) < ((s.count 42 : Nat) : Int) := by omega
  simp only [w_raise, w_try, w_vMS, w_vML, w_fmt, w_js, w_fj0, w_fj1, w_disp2, w_get2, w_idxC, w_split, w_par, w_unpL, w_unpV, w_dnew, w_dnewN, w_subD, w_bind, w_noX, w_ok, w_C, w_op2, w_asB, w_op3, w_and, w_or, w_not, w_test, w_bAnd, w_bOr, w_bNot, w_if, w_lif, w_tup, w_lst, w_alloc, w_vL, w_call, w_aNil, w_aCons, w_lCall, w_append, w_nil, w_lnil, w_seq, w_next, w_ret, w_set, w_expr, w_sif, w_sub, w_unp, w_fn1, w_fn2, w_fn3, w_fn4, w_fn5, w_join, w_vSrc, w_aSrc, w_lSrc, w_catLL, w_catOL, w_repL, w_sortV, w_asI, w_slE0, w_slE1, w_sl, q_srcT, q_srcS, q_srcR, q_zipT, q_slT, w_lc, w_forS, Int.toNat_natCast, v_0, v_S, List.replicate_succ, List.replicate_zero, Nat.reduceSub, List.getElem?_cons_zero, List.getElem?_cons_succ, List.set_cons_zero, List.set_cons_succ, if_true, if_false, Bool.false_eq_true, Bool.not_true, Bool.not_false, q_add, q_addT, q_addS, q_sub, q_eq, q_eqS, q_eqB, q_ne, q_neS, q_neB, q_lt, q_ltS, q_le, q_gt, q_ge, q_in1, q_nin1, q_isN, q_isnN, q_isB, q_isnB, q_isiI0, q_isiI1, q_isiI2, q_isiI3, q_isiI4, q_isiI5, q_isiB0, q_isiB1, q_isiB2, q_isiB3, q_isiB4, q_isiB5, q_isiS0, q_isiS1, q_isiS2, q_isiS3, q_isiS4, q_isiS5, q_isiT0, q_isiT1, q_isiT2, q_isiT3, q_isiT4, q_isiT5, q_isiR0, q_isiR1, q_isiR2, q_isiR3, q_isiR4, q_isiR5, q_isiN0, q_isiN1, q_isiN2, q_isiN3, q_isiN4, q_isiN5, q_lenS, q_lenT, q_lenR, q_min2, q_max2, q_strS, q_tupP, ix_0, ix_1, ix_2, ix_3, decide_true, decide_false, List.cons.injEq, reduceCtorEq, and_false, false_and, and_true, true_and, Nat.reduceEqDiff, Int.reduceLE, Int.reduceEq, Int.reduceLT, q_lenS (show s.length ≤ LIM by simp only [LIM]; omega), c1, countM, c2, q_split (show s.length + 2 ≤ LIM by simp only [LIM]; omega) (show 32 < 256 by decide)]
  rw [w_lcI (by simp only [List.length_map, LIM]; omega)]
  simp only [wipeE, List.set_cons_zero, List.set_cons_succ]
  refine (grow_parts (k := k + 1) hs (fun p hp h' => s_readField hp.1 hp.2) (fun x => rfl)).imp fun ys h1 q => ?_
  obtain ⟨rfl, p1⟩ := q
  simp only [w_raise, w_try, w_vMS, w_vML, w_fmt, w_js, w_fj0, w_fj1, w_disp2, w_get2, w_idxC, w_split, w_par, w_unpL, w_unpV, w_dnew, w_dnewN, w_subD, w_bind, w_noX, w_ok, w_C, w_op2, w_asB, w_op3, w_and, w_or, w_not, w_test, w_bAnd, w_bOr, w_bNot, w_if, w_lif, w_tup, w_lst, w_alloc, w_vL, w_call, w_aNil, w_aCons, w_lCall, w_append, w_nil, w_lnil, w_seq, w_next, w_ret, w_set, w_expr, w_sif, w_sub, w_unp, w_fn1, w_fn2, w_fn3, w_fn4, w_fn5, w_join, w_vSrc, w_aSrc, w_lSrc, w_catLL, w_catOL, w_repL, w_sortV, w_asI, w_slE0, w_slE1, w_sl, q_srcT, q_srcS, q_srcR, q_zipT, q_slT, w_lc, w_forS, Int.toNat_natCast, v_0, v_S, List.replicate_succ, List.replicate_zero, Nat.reduceSub, List.getElem?_cons_zero, List.getElem?_cons_succ, List.set_cons_zero, List.set_cons_succ, if_true, if_false, Bool.false_eq_true, Bool.not_true, Bool.not_false, q_add, q_addT, q_addS, q_sub, q_eq, q_eqS, q_eqB, q_ne, q_neS, q_neB, q_lt, q_ltS, q_le, q_gt, q_ge, q_in1, q_nin1, q_isN, q_isnN, q_isB, q_isnB, q_isiI0, q_isiI1, q_isiI2, q_isiI3, q_isiI4, q_isiI5, q_isiB0, q_isiB1, q_isiB2, q_isiB3, q_isiB4, q_isiB5, q_isiS0, q_isiS1, q_isiS2, q_isiS3, q_isiS4, q_isiS5, q_isiT0, q_isiT1, q_isiT2, q_isiT3, q_isiT4, q_isiT5, q_isiR0, q_isiR1, q_isiR2, q_isiR3, q_isiR4, q_isiR5, q_isiN0, q_isiN1, q_isiN2, q_isiN3, q_isiN4, q_isiN5, q_lenS, q_lenT, q_lenR, q_min2, q_max2, q_strS, q_tupP, ix_0, ix_1, ix_2, ix_3, s_formatG (dp_parts hs fun p hp => dp_readF hp)]
  cases ef : formatB (.tup ((splC 32 s).map readF)) with
  | false =>
    simp only [w_raise, w_try, w_vMS, w_vML, w_fmt, w_js, w_fj0, w_fj1, w_disp2, w_get2, w_idxC, w_split, w_par, w_unpL, w_unpV, w_dnew, w_dnewN, w_subD, w_bind, w_noX, w_ok, w_C, w_op2, w_asB, w_op3, w_and, w_or, w_not, w_test, w_bAnd, w_bOr, w_bNot, w_if, w_lif, w_tup, w_lst, w_alloc, w_vL, w_call, w_aNil, w_aCons, w_lCall, w_append, w_nil, w_lnil, w_seq, w_next, w_ret, w_set, w_expr, w_sif, w_sub, w_unp, w_fn1, w_fn2, w_fn3, w_fn4, w_fn5, w_join, w_vSrc, w_aSrc, w_lSrc, w_catLL, w_catOL, w_repL, w_sortV, w_asI, w_slE0, w_slE1, w_sl, q_srcT, q_srcS, q_srcR, q_zipT, q_slT, w_lc, w_forS, Int.toNat_natCast, v_0, v_S, List.replicate_succ, List.replicate_zero, Nat.reduceSub, List.getElem?_cons_zero, List.getElem?_cons_succ, List.set_cons_zero, List.set_cons_succ, if_true, if_false, Bool.false_eq_true, Bool.not_true, Bool.not_false, q_add, q_addT, q_addS, q_sub, q_eq, q_eqS, q_eqB, q_ne, q_neS, q_neB, q_lt, q_ltS, q_le, q_gt, q_ge, q_in1, q_nin1, q_isN, q_isnN, q_isB, q_isnB, q_isiI0, q_isiI1, q_isiI2, q_isiI3, q_isiI4, q_isiI5, q_isiB0, q_isiB1, q_isiB2, q_isiB3, q_isiB4, q_isiB5, q_isiS0, q_isiS1, q_isiS2, q_isiS3, q_isiS4, q_isiS5, q_isiT0, q_isiT1, q_isiT2, q_isiT3, q_isiT4, q_isiT5, q_isiR0, q_isiR1, q_isiR2, q_isiR3, q_isiR4, q_isiR5, q_isiN0, q_isiN1, q_isiN2, q_isiN3, q_isiN4, q_isiN5, q_lenS, q_lenT, q_lenR, q_min2, q_max2, q_strS, q_tupP, ix_0, ix_1, ix_2, ix_3]
    refine ⟨trivial, p1, fun ⟨fs, fo, e⟩ => ?_⟩
    have := (not_read fo e).1
    rw [this, formatB_of fo] at ef
    cases ef
  | true =>
    obtain ⟨fs, e, fo⟩ := format_of ef
    injection e with e
    have ft := s_formText (k := k + 2) (h := h1) fo
    simp only [e, w_raise, w_try, w_vMS, w_vML, w_fmt, w_js, w_fj0, w_fj1, w_disp2, w_get2, w_idxC, w_split, w_par, w_unpL, w_unpV, w_dnew, w_dnewN, w_subD, w_bind, w_noX, w_ok, w_C, w_op2, w_asB, w_op3, w_and, w_or, w_not, w_test, w_bAnd, w_bOr, w_bNot, w_if, w_lif, w_tup, w_lst, w_alloc, w_vL, w_call, w_aNil, w_aCons, w_lCall, w_append, w_nil, w_lnil, w_seq, w_next, w_ret, w_set, w_expr, w_sif, w_sub, w_unp, w_fn1, w_fn2, w_fn3, w_fn4, w_fn5, w_join, w_vSrc, w_aSrc, w_lSrc, w_catLL, w_catOL, w_repL, w_sortV, w_asI, w_slE0, w_slE1, w_sl, q_srcT, q_srcS, q_srcR, q_zipT, q_slT, w_lc, w_forS, Int.toNat_natCast, v_0, v_S, List.replicate_succ, List.replicate_zero, Nat.reduceSub, List.getElem?_cons_zero, List.getElem?_cons_succ, List.set_cons_zero, List.set_cons_succ, if_true, if_false, Bool.false_eq_true, Bool.not_true, Bool.not_false, q_add, q_addT, q_addS, q_sub, q_eq, q_eqS, q_eqB, q_ne, q_neS, q_neB, q_lt, q_ltS, q_le, q_gt, q_ge, q_in1, q_nin1, q_isN, q_isnN, q_isB, q_isnB, q_isiI0, q_isiI1, q_isiI2, q_isiI3, q_isiI4, q_isiI5, q_isiB0, q_isiB1, q_isiB2, q_isiB3, q_isiB4, q_isiB5, q_isiS0, q_isiS1, q_isiS2, q_isiS3, q_isiS4, q_isiS5, q_isiT0, q_isiT1, q_isiT2, q_isiT3, q_isiT4, q_isiT5, q_isiR0, q_isiR1, q_isiR2, q_isiR3, q_isiR4, q_isiR5, q_isiN0, q_isiN1, q_isiN2, q_isiN3, q_isiN4, q_isiN5, q_lenS, q_lenT, q_lenR, q_min2, q_max2, q_strS, q_tupP, ix_0, ix_1, ix_2, ix_3, ft]
    by_cases cs : formLine fs = s
    · simp only [cs, w_raise, w_try, w_vMS, w_vML, w_fmt, w_js, w_fj0, w_fj1, w_disp2, w_get2, w_idxC, w_split, w_par, w_unpL, w_unpV, w_dnew, w_dnewN, w_subD, w_bind, w_noX, w_ok, w_C, w_op2, w_asB, w_op3, w_and, w_or, w_not, w_test, w_bAnd, w_bOr, w_bNot, w_if, w_lif, w_tup, w_lst, w_alloc, w_vL, w_call, w_aNil, w_aCons, w_lCall, w_append, w_nil, w_lnil, w_seq, w_next, w_ret, w_set, w_expr, w_sif, w_sub, w_unp, w_fn1, w_fn2, w_fn3, w_fn4, w_fn5, w_join, w_vSrc, w_aSrc, w_lSrc, w_catLL, w_catOL, w_repL, w_sortV, w_asI, w_slE0, w_slE1, w_sl, q_srcT, q_srcS, q_srcR, q_zipT, q_slT, w_lc, w_forS, Int.toNat_natCast, v_0, v_S, List.replicate_succ, List.replicate_zero, Nat.reduceSub, List.getElem?_cons_zero, List.getElem?_cons_succ, List.set_cons_zero, List.set_cons_succ, if_true, if_false, Bool.false_eq_true, Bool.not_true, Bool.not_false, q_add, q_addT, q_addS, q_sub, q_eq, q_eqS, q_eqB, q_ne, q_neS, q_neB, q_lt, q_ltS, q_le, q_gt, q_ge, q_in1, q_nin1, q_isN, q_isnN, q_isB, q_isnB, q_isiI0, q_isiI1, q_isiI2, q_isiI3, q_isiI4, q_isiI5, q_isiB0, q_isiB1, q_isiB2, q_isiB3, q_isiB4, q_isiB5, q_isiS0, q_isiS1, q_isiS2, q_isiS3, q_isiS4, q_isiS5, q_isiT0, q_isiT1, q_isiT2, q_isiT3, q_isiT4, q_isiT5, q_isiR0, q_isiR1, q_isiR2, q_isiR3, q_isiR4, q_isiR5, q_isiN0, q_isiN1, q_isiN2, q_isiN3, q_isiN4, q_isiN5, q_lenS, q_lenT, q_lenR, q_min2, q_max2, q_strS, q_tupP, ix_0, ix_1, ix_2, ix_3, decide_true, decide_false, List.cons.injEq, reduceCtorEq, and_false, false_and, and_true, true_and, Nat.reduceEqDiff, Int.reduceLE, Int.reduceEq, Int.reduceLT]
      exact ⟨p1, fs, fo, cs⟩
    · simp only [cs, w_raise, w_try, w_vMS, w_vML, w_fmt, w_js, w_fj0, w_fj1, w_disp2, w_get2, w_idxC, w_split, w_par, w_unpL, w_unpV, w_dnew, w_dnewN, w_subD, w_bind, w_noX, w_ok, w_C, w_op2, w_asB, w_op3, w_and, w_or, w_not, w_test, w_bAnd, w_bOr, w_bNot, w_if, w_lif, w_tup, w_lst, w_alloc, w_vL, w_call, w_aNil, w_aCons, w_lCall, w_append, w_nil, w_lnil, w_seq, w_next, w_ret, w_set, w_expr, w_sif, w_sub, w_unp, w_fn1, w_fn2, w_fn3, w_fn4, w_fn5, w_join, w_vSrc, w_aSrc, w_lSrc, w_catLL, w_catOL, w_repL, w_sortV, w_asI, w_slE0, w_slE1, w_sl, q_srcT, q_srcS, q_srcR, q_zipT, q_slT, w_lc, w_forS, Int.toNat_natCast, v_0, v_S, List.replicate_succ, List.replicate_zero, Nat.reduceSub, List.getElem?_cons_zero, List.getElem?_cons_succ, List.set_cons_zero, List.set_cons_succ, if_true, if_false, Bool.false_eq_true, Bool.not_true, Bool.not_false, q_add, q_addT, q_addS, q_sub, q_eq, q_eqS, q_eqB, q_ne, q_neS, q_neB, q_lt, q_ltS, q_le, q_gt, q_ge, q_in1, q_nin1, q_isN, q_isnN, q_isB, q_isnB, q_isiI0, q_isiI1, q_isiI2, q_isiI3, q_isiI4, q_isiI5, q_isiB0, q_isiB1, q_isiB2, q_isiB3, q_isiB4, q_isiB5, q_isiS0, q_isiS1, q_isiS2, q_isiS3, q_isiS4, q_isiS5, q_isiT0, q_isiT1, q_isiT2, q_isiT3, q_isiT4, q_isiT5, q_isiR0, q_isiR1, q_isiR2, q_isiR3, q_isiR4, q_isiR5, q_isiN0, q_isiN1, q_isiN2, q_isiN3, q_isiN4, q_isiN5, q_lenS, q_lenT, q_lenR, q_min2, q_max2, q_strS, q_tupP, ix_0, ix_1, ix_2, ix_3, decide_true, decide_false, List.cons.injEq, reduceCtorEq, and_false, false_and, and_true, true_and, Nat.reduceEqDiff, Int.reduceLE, Int.reduceEq, Int.reduceLT]
      refine ⟨p1, fun ⟨fs', fo', e'⟩ => ?_⟩
      have := (not_read fo' e').1
      rw [e] at this
      rw [ffs_inj this] at cs
      exact cs e'
end
end FT
end
section
set_option maxRecDepth 100000
namespace FT
open PySem L2
set_option autoImplicit false
/-! ### what comes of a call that may raise -/
section
variable {k : Nat} {h : MH}
theorem py_obj {m n : Nat} {ds : List D} (e : h[m]? = some (.lst ds)) : pyOf h (n + 1) (.obj m) = (optAll (pyOf h n) ds).map .list := by
  rw [show pyOf h (n + 1) (.obj m) = match h[m]? with
      | some (.lst ds) => (optAll (pyOf h n) ds).map .list
      | _ => none from rfl, e]
theorem opt_bls {n : Nat} : ∀ bs : List Bool, optAll (pyOf h (n + 1)) (bs.map .bl) = some (bs.map .bool)
  | [] => rfl
  | b :: bs => by
    have ih := opt_bls (n := n) bs
    rw [List.map_cons, optAll, ih]
    rfl
theorem lay_bls : ∀ bs : List Bool, PyData.canLayAll0 (bs.map .bool) = true ∧ PyData.depthAll (bs.map .bool) = 0
  | [] => ⟨rfl, rfl⟩
  | b :: bs => by
    have ih := lay_bls bs
    simp only [List.map_cons, PyData.canLayAll0, PyData.depthAll, ih.1, ih.2]
    exact ⟨rfl, rfl⟩
theorem py_bls {m : Nat} {bs : List Bool} (e : h[m]? = some (.lst (bs.map .bl))) {kk : PyData → PyData → R D} : py2 (.obj m) (.bl true) h kk = kk (.list (bs.map .bool)) (.bool true) := by
  have e1 : pyOf h DEEP (.obj m) = some (.list (bs.map .bool)) := by
    show pyOf h (39 + 1) (.obj m) = _
    rw [py_obj e, opt_bls (n := 38)]
    rfl
  have e2 : pyOf h DEEP (.bl true) = some (.bool true) := rfl
  have l := lay_bls bs
  have s1 : SeqAt.shaped (.list (bs.map .bool)) = true := by
    simp [SeqAt.shaped, PyData.canLay0, PyData.depth, l.1, l.2]
  have s2 : SeqAt.shaped (.bool true) = true := by decide
  simp only [py2, e1, e2, s1, s2, and_self, if_true]
theorem count_bls {m : Nat} {bs : List Bool} (e : h[m]? = some (.lst (bs.map .bl))) : lCountM (.obj m) (.bl true) h = .ok (.int ((bs.countP (fun b => b) : Nat) : Int)) h := by
  unfold lCountM lstD
  rw [py_bls e]
  simp only [List.countP_map]
  congr 4
  funext b
  cases b <;> rfl
theorem index_bls {m j : Nat} {bs : List Bool} (e : h[m]? = some (.lst (bs.map .bl))) (hj : bs.findIdx? (fun b => b) = some j) : lIndexM (.obj m) (.bl true) h = .ok (.int (j : Nat)) h := by
  unfold lIndexM lstD
  rw [py_bls e]
  have : (bs.map PyData.bool).findIdx? (fun z => PyData.eqv z (.bool true)) = some j := by
    rw [List.findIdx?_map]
    have : ((fun z => PyData.eqv z (.bool true)) ∘ PyData.bool) = fun b => b := by
      funext b
      cases b <;> rfl
    rw [this]
    exact hj
  simp only [this]
theorem isi_e {c c2 : Str} {n : Nat} (hn : h[n]? = some (.exc c)) (hc : c ∈ raisedL) (h2 : c2 ∈ subsL) : isiE raisedL subsL [.obj n, .fn c2] h = .ok (.bl (decide (c = c2))) h := by
  simp only [isiE, hn, hc, h2, and_self, if_true]
theorem isi_v {c : Str} {n : Nat} (hn : h[n]? = some (.exc c)) (hc : c ∈ raisedL) : isiE raisedL subsL [.obj n, .ty 7] h = .ok (.bl true) h := by
  simp only [isiE, hn, hc, if_true]
def pos1 (c : Str) : Bool := decide ((subsL.map fun c2 => decide (c = c2)).countP (fun b => b) = 1 ∧ (subsL.map fun c2 => decide (c = c2)).findIdx? (fun b => b) = some (subsL.idxOf c))
theorem pos_ok : ∀ c ∈ raisedL, pos1 c = true := by decide +kernel
theorem s_name {c : Str} {n : Nat} (hn : h[n]? = some (.exc c)) (hc : c ∈ raisedL) : OkX noE (run (k + 1) I__law_name [.obj n] h) fun v h' => v = .int ((subsL.idxOf c : Nat) : Int) ∧ Px h h' := by
  rw [e__law_name]
  unfold m__law_name
  have i : ∀ (h' : MH) (c2 : Str), Px h h' → c2 ∈ subsL → isiE raisedL subsL [.obj n, .fn c2] h' = .ok (.bl (decide (c = c2))) h' := fun h' c2 p m => isi_e (p.get hn) hc m
  have m0 : ("InvalidFormat" : Str) ∈ subsL := by decide +kernel
  have m1 : ("InvalidField" : Str) ∈ subsL := by decide +kernel
  have m2 : ("InvalidRecord" : Str) ∈ subsL := by decide +kernel
  have m3 : ("InvalidText" : Str) ∈ subsL := by decide +kernel
  have m4 : ("InvalidNumber" : Str) ∈ subsL := by decide +kernel
  have m5 : ("InvalidPlaces" : Str) ∈ subsL := by decide +kernel
  have m6 : ("NoReading" : Str) ∈ subsL := by decide +kernel
  have m7 : ("Doubtful" : Str) ∈ subsL := by decide +kernel
  have m8 : ("TooMany" : Str) ∈ subsL := by decide +kernel
  have m9 : ("LastField" : Str) ∈ subsL := by decide +kernel
  have m10 : ("NothingToUndo" : Str) ∈ subsL := by decide +kernel
  have al : ∀ (h' : MH) (xs : List D), Px h h' → ∃ h2, h2 = h' ++ [.lst xs] ∧ Px h h2 ∧ h2[h'.length]? = some (.lst xs) := fun h' xs p => ⟨_, rfl, p.trans Px.app, getElem?_app⟩
  have lo : ∀ (h' : MH) (m : Nat) (xs : List D), h'[m]? = some (.lst xs) → lstOf (.obj m) h' = some xs := fun h' m xs e => by simp [lstOf, e]
  have p0 : Px h h := Px.refl
  simp only [w_raise, w_try, w_vMS, w_vML, w_fmt, w_js, w_fj0, w_fj1, w_disp2, w_get2, w_idxC, w_split, w_par, w_unpL, w_unpV, w_dnew, w_dnewN, w_subD, w_bind, w_noX, w_ok, w_C, w_op2, w_asB, w_op3, w_and, w_or, w_not, w_test, w_bAnd, w_bOr, w_bNot, w_if, w_lif, w_tup, w_lst, w_alloc, w_vL, w_call, w_aNil, w_aCons, w_lCall, w_append, w_nil, w_lnil, w_seq, w_next, w_ret, w_set, w_expr, w_sif, w_sub, w_unp, w_fn1, w_fn2, w_fn3, w_fn4, w_fn5, w_join, w_vSrc, w_aSrc, w_lSrc, w_catLL, w_catOL, w_repL, w_sortV, w_asI, w_slE0, w_slE1, w_sl, q_srcT, q_srcS, q_srcR, q_zipT, q_slT, w_lc, w_forS, Int.toNat_natCast, v_0, v_S, List.replicate_succ, List.replicate_zero, Nat.reduceSub, List.getElem?_cons_zero, List.getElem?_cons_succ, List.set_cons_zero, List.set_cons_succ, if_true, if_false, Bool.false_eq_true, Bool.not_true, Bool.not_false, q_add, q_addT, q_addS, q_sub, q_eq, q_eqS, q_eqB, q_ne, q_neS, q_neB, q_lt, q_ltS, q_le, q_gt, q_ge, q_in1, q_nin1, q_isN, q_isnN, q_isB, q_isnB, q_isiI0, q_isiI1, q_isiI2, q_isiI3, q_isiI4, q_isiI5, q_isiB0, q_isiB1, q_isiB2, q_isiB3, q_isiB4, q_isiB5, q_isiS0, q_isiS1, q_isiS2, q_isiS3, q_isiS4, q_isiS5, q_isiT0, q_isiT1, q_isiT2, q_isiT3, q_isiT4, q_isiT5, q_isiR0, q_isiR1, q_isiR2, q_isiR3, q_isiR4, q_isiR5, q_isiN0, q_isiN1, q_isiN2, q_isiN3, q_isiN4, q_isiN5, q_lenS, q_lenT, q_lenR, q_min2, q_max2, q_strS, q_tupP, ix_0, ix_1, ix_2, ix_3, List.length_cons, List.length_nil, lim_0, lim_1, lim_2, lim_3, lim_4, lim_5, lim_6, lim_7, lim_8, lim_9, lim_10, lim_11, lim_12, lim_13, lim_14, lim_15, lim_16, lim_17, lim_18, lim_19, lim_20, lim_21, lim_22, lim_23, Nat.reduceAdd, Nat.reduceLeDiff, isi_v hn hc, i h _ p0 m0, i h _ p0 m1]
  obtain ⟨h1, e1, p1, g1⟩ := al h _ p0
  rw [← e1]
  simp only [w_raise, w_try, w_vMS, w_vML, w_fmt, w_js, w_fj0, w_fj1, w_disp2, w_get2, w_idxC, w_split, w_par, w_unpL, w_unpV, w_dnew, w_dnewN, w_subD, w_bind, w_noX, w_ok, w_C, w_op2, w_asB, w_op3, w_and, w_or, w_not, w_test, w_bAnd, w_bOr, w_bNot, w_if, w_lif, w_tup, w_lst, w_alloc, w_vL, w_call, w_aNil, w_aCons, w_lCall, w_append, w_nil, w_lnil, w_seq, w_next, w_ret, w_set, w_expr, w_sif, w_sub, w_unp, w_fn1, w_fn2, w_fn3, w_fn4, w_fn5, w_join, w_vSrc, w_aSrc, w_lSrc, w_catLL, w_catOL, w_repL, w_sortV, w_asI, w_slE0, w_slE1, w_sl, q_srcT, q_srcS, q_srcR, q_zipT, q_slT, w_lc, w_forS, Int.toNat_natCast, v_0, v_S, List.replicate_succ, List.replicate_zero, Nat.reduceSub, List.getElem?_cons_zero, List.getElem?_cons_succ, List.set_cons_zero, List.set_cons_succ, if_true, if_false, Bool.false_eq_true, Bool.not_true, Bool.not_false, q_add, q_addT, q_addS, q_sub, q_eq, q_eqS, q_eqB, q_ne, q_neS, q_neB, q_lt, q_ltS, q_le, q_gt, q_ge, q_in1, q_nin1, q_isN, q_isnN, q_isB, q_isnB, q_isiI0, q_isiI1, q_isiI2, q_isiI3, q_isiI4, q_isiI5, q_isiB0, q_isiB1, q_isiB2, q_isiB3, q_isiB4, q_isiB5, q_isiS0, q_isiS1, q_isiS2, q_isiS3, q_isiS4, q_isiS5, q_isiT0, q_isiT1, q_isiT2, q_isiT3, q_isiT4, q_isiT5, q_isiR0, q_isiR1, q_isiR2, q_isiR3, q_isiR4, q_isiR5, q_isiN0, q_isiN1, q_isiN2, q_isiN3, q_isiN4, q_isiN5, q_lenS, q_lenT, q_lenR, q_min2, q_max2, q_strS, q_tupP, ix_0, ix_1, ix_2, ix_3, List.length_cons, List.length_nil, lim_0, lim_1, lim_2, lim_3, lim_4, lim_5, lim_6, lim_7, lim_8, lim_9, lim_10, lim_11, lim_12, lim_13, lim_14, lim_15, lim_16, lim_17, lim_18, lim_19, lim_20, lim_21, lim_22, lim_23, Nat.reduceAdd, Nat.reduceLeDiff, i h1 _ p1 m2, i h1 _ p1 m3, lo _ _ _ g1, List.cons_append, List.nil_append]
  obtain ⟨h2, e2, p2, g2⟩ := al h1 _ p1
  rw [← e2]
  simp only [w_raise, w_try, w_vMS, w_vML, w_fmt, w_js, w_fj0, w_fj1, w_disp2, w_get2, w_idxC, w_split, w_par, w_unpL, w_unpV, w_dnew, w_dnewN, w_subD, w_bind, w_noX, w_ok, w_C, w_op2, w_asB, w_op3, w_and, w_or, w_not, w_test, w_bAnd, w_bOr, w_bNot, w_if, w_lif, w_tup, w_lst, w_alloc, w_vL, w_call, w_aNil, w_aCons, w_lCall, w_append, w_nil, w_lnil, w_seq, w_next, w_ret, w_set, w_expr, w_sif, w_sub, w_unp, w_fn1, w_fn2, w_fn3, w_fn4, w_fn5, w_join, w_vSrc, w_aSrc, w_lSrc, w_catLL, w_catOL, w_repL, w_sortV, w_asI, w_slE0, w_slE1, w_sl, q_srcT, q_srcS, q_srcR, q_zipT, q_slT, w_lc, w_forS, Int.toNat_natCast, v_0, v_S, List.replicate_succ, List.replicate_zero, Nat.reduceSub, List.getElem?_cons_zero, List.getElem?_cons_succ, List.set_cons_zero, List.set_cons_succ, if_true, if_false, Bool.false_eq_true, Bool.not_true, Bool.not_false, q_add, q_addT, q_addS, q_sub, q_eq, q_eqS, q_eqB, q_ne, q_neS, q_neB, q_lt, q_ltS, q_le, q_gt, q_ge, q_in1, q_nin1, q_isN, q_isnN, q_isB, q_isnB, q_isiI0, q_isiI1, q_isiI2, q_isiI3, q_isiI4, q_isiI5, q_isiB0, q_isiB1, q_isiB2, q_isiB3, q_isiB4, q_isiB5, q_isiS0, q_isiS1, q_isiS2, q_isiS3, q_isiS4, q_isiS5, q_isiT0, q_isiT1, q_isiT2, q_isiT3, q_isiT4, q_isiT5, q_isiR0, q_isiR1, q_isiR2, q_isiR3, q_isiR4, q_isiR5, q_isiN0, q_isiN1, q_isiN2, q_isiN3, q_isiN4, q_isiN5, q_lenS, q_lenT, q_lenR, q_min2, q_max2, q_strS, q_tupP, ix_0, ix_1, ix_2, ix_3, List.length_cons, List.length_nil, lim_0, lim_1, lim_2, lim_3, lim_4, lim_5, lim_6, lim_7, lim_8, lim_9, lim_10, lim_11, lim_12, lim_13, lim_14, lim_15, lim_16, lim_17, lim_18, lim_19, lim_20, lim_21, lim_22, lim_23, Nat.reduceAdd, Nat.reduceLeDiff, i h2 _ p2 m4, i h2 _ p2 m5, lo _ _ _ g2, List.cons_append, List.nil_append]
  obtain ⟨h3, e3, p3, g3⟩ := al h2 _ p2
  rw [← e3]
  simp only [w_raise, w_try, w_vMS, w_vML, w_fmt, w_js, w_fj0, w_fj1, w_disp2, w_get2, w_idxC, w_split, w_par, w_unpL, w_unpV, w_dnew, w_dnewN, w_subD, w_bind, w_noX, w_ok, w_C, w_op2, w_asB, w_op3, w_and, w_or, w_not, w_test, w_bAnd, w_bOr, w_bNot, w_if, w_lif, w_tup, w_lst, w_alloc, w_vL, w_call, w_aNil, w_aCons, w_lCall, w_append, w_nil, w_lnil, w_seq, w_next, w_ret, w_set, w_expr, w_sif, w_sub, w_unp, w_fn1, w_fn2, w_fn3, w_fn4, w_fn5, w_join, w_vSrc, w_aSrc, w_lSrc, w_catLL, w_catOL, w_repL, w_sortV, w_asI, w_slE0, w_slE1, w_sl, q_srcT, q_srcS, q_srcR, q_zipT, q_slT, w_lc, w_forS, Int.toNat_natCast, v_0, v_S, List.replicate_succ, List.replicate_zero, Nat.reduceSub, List.getElem?_cons_zero, List.getElem?_cons_succ, List.set_cons_zero, List.set_cons_succ, if_true, if_false, Bool.false_eq_true, Bool.not_true, Bool.not_false, q_add, q_addT, q_addS, q_sub, q_eq, q_eqS, q_eqB, q_ne, q_neS, q_neB, q_lt, q_ltS, q_le, q_gt, q_ge, q_in1, q_nin1, q_isN, q_isnN, q_isB, q_isnB, q_isiI0, q_isiI1, q_isiI2, q_isiI3, q_isiI4, q_isiI5, q_isiB0, q_isiB1, q_isiB2, q_isiB3, q_isiB4, q_isiB5, q_isiS0, q_isiS1, q_isiS2, q_isiS3, q_isiS4, q_isiS5, q_isiT0, q_isiT1, q_isiT2, q_isiT3, q_isiT4, q_isiT5, q_isiR0, q_isiR1, q_isiR2, q_isiR3, q_isiR4, q_isiR5, q_isiN0, q_isiN1, q_isiN2, q_isiN3, q_isiN4, q_isiN5, q_lenS, q_lenT, q_lenR, q_min2, q_max2, q_strS, q_tupP, ix_0, ix_1, ix_2, ix_3, List.length_cons, List.length_nil, lim_0, lim_1, lim_2, lim_3, lim_4, lim_5, lim_6, lim_7, lim_8, lim_9, lim_10, lim_11, lim_12, lim_13, lim_14, lim_15, lim_16, lim_17, lim_18, lim_19, lim_20, lim_21, lim_22, lim_23, Nat.reduceAdd, Nat.reduceLeDiff, i h3 _ p3 m6, i h3 _ p3 m7, lo _ _ _ g3, List.cons_append, List.nil_append]
  obtain ⟨h4, e4, p4, g4⟩ := al h3 _ p3
  rw [← e4]
  simp only [w_raise, w_try, w_vMS, w_vML, w_fmt, w_js, w_fj0, w_fj1, w_disp2, w_get2, w_idxC, w_split, w_par, w_unpL, w_unpV, w_dnew, w_dnewN, w_subD, w_bind, w_noX, w_ok, w_C, w_op2, w_asB, w_op3, w_and, w_or, w_not, w_test, w_bAnd, w_bOr, w_bNot, w_if, w_lif, w_tup, w_lst, w_alloc, w_vL, w_call, w_aNil, w_aCons, w_lCall, w_append, w_nil, w_lnil, w_seq, w_next, w_ret, w_set, w_expr, w_sif, w_sub, w_unp, w_fn1, w_fn2, w_fn3, w_fn4, w_fn5, w_join, w_vSrc, w_aSrc, w_lSrc, w_catLL, w_catOL, w_repL, w_sortV, w_asI, w_slE0, w_slE1, w_sl, q_srcT, q_srcS, q_srcR, q_zipT, q_slT, w_lc, w_forS, Int.toNat_natCast, v_0, v_S, List.replicate_succ, List.replicate_zero, Nat.reduceSub, List.getElem?_cons_zero, List.getElem?_cons_succ, List.set_cons_zero, List.set_cons_succ, if_true, if_false, Bool.false_eq_true, Bool.not_true, Bool.not_false, q_add, q_addT, q_addS, q_sub, q_eq, q_eqS, q_eqB, q_ne, q_neS, q_neB, q_lt, q_ltS, q_le, q_gt, q_ge, q_in1, q_nin1, q_isN, q_isnN, q_isB, q_isnB, q_isiI0, q_isiI1, q_isiI2, q_isiI3, q_isiI4, q_isiI5, q_isiB0, q_isiB1, q_isiB2, q_isiB3, q_isiB4, q_isiB5, q_isiS0, q_isiS1, q_isiS2, q_isiS3, q_isiS4, q_isiS5, q_isiT0, q_isiT1, q_isiT2, q_isiT3, q_isiT4, q_isiT5, q_isiR0, q_isiR1, q_isiR2, q_isiR3, q_isiR4, q_isiR5, q_isiN0, q_isiN1, q_isiN2, q_isiN3, q_isiN4, q_isiN5, q_lenS, q_lenT, q_lenR, q_min2, q_max2, q_strS, q_tupP, ix_0, ix_1, ix_2, ix_3, List.length_cons, List.length_nil, lim_0, lim_1, lim_2, lim_3, lim_4, lim_5, lim_6, lim_7, lim_8, lim_9, lim_10, lim_11, lim_12, lim_13, lim_14, lim_15, lim_16, lim_17, lim_18, lim_19, lim_20, lim_21, lim_22, lim_23, Nat.reduceAdd, Nat.reduceLeDiff, i h4 _ p4 m8, i h4 _ p4 m9, lo _ _ _ g4, List.cons_append, List.nil_append]
  obtain ⟨h5, e5, p5, g5⟩ := al h4 _ p4
  rw [← e5]
  simp only [w_raise, w_try, w_vMS, w_vML, w_fmt, w_js, w_fj0, w_fj1, w_disp2, w_get2, w_idxC, w_split, w_par, w_unpL, w_unpV, w_dnew, w_dnewN, w_subD, w_bind, w_noX, w_ok, w_C, w_op2, w_asB, w_op3, w_and, w_or, w_not, w_test, w_bAnd, w_bOr, w_bNot, w_if, w_lif, w_tup, w_lst, w_alloc, w_vL, w_call, w_aNil, w_aCons, w_lCall, w_append, w_nil, w_lnil, w_seq, w_next, w_ret, w_set, w_expr, w_sif, w_sub, w_unp, w_fn1, w_fn2, w_fn3, w_fn4, w_fn5, w_join, w_vSrc, w_aSrc, w_lSrc, w_catLL, w_catOL, w_repL, w_sortV, w_asI, w_slE0, w_slE1, w_sl, q_srcT, q_srcS, q_srcR, q_zipT, q_slT, w_lc, w_forS, Int.toNat_natCast, v_0, v_S, List.replicate_succ, List.replicate_zero, Nat.reduceSub, List.getElem?_cons_zero, List.getElem?_cons_succ, List.set_cons_zero, List.set_cons_succ, if_true, if_false, Bool.false_eq_true, Bool.not_true, Bool.not_false, q_add, q_addT, q_addS, q_sub, q_eq, q_eqS, q_eqB, q_ne, q_neS, q_neB, q_lt, q_ltS, q_le, q_gt, q_ge, q_in1, q_nin1, q_isN, q_isnN, q_isB, q_isnB, q_isiI0, q_isiI1, q_isiI2, q_isiI3, q_isiI4, q_isiI5, q_isiB0, q_isiB1, q_isiB2, q_isiB3, q_isiB4, q_isiB5, q_isiS0, q_isiS1, q_isiS2, q_isiS3, q_isiS4, q_isiS5, q_isiT0, q_isiT1, q_isiT2, q_isiT3, q_isiT4, q_isiT5, q_isiR0, q_isiR1, q_isiR2, q_isiR3, q_isiR4, q_isiR5, q_isiN0, q_isiN1, q_isiN2, q_isiN3, q_isiN4, q_isiN5, q_lenS, q_lenT, q_lenR, q_min2, q_max2, q_strS, q_tupP, ix_0, ix_1, ix_2, ix_3, List.length_cons, List.length_nil, lim_0, lim_1, lim_2, lim_3, lim_4, lim_5, lim_6, lim_7, lim_8, lim_9, lim_10, lim_11, lim_12, lim_13, lim_14, lim_15, lim_16, lim_17, lim_18, lim_19, lim_20, lim_21, lim_22, lim_23, Nat.reduceAdd, Nat.reduceLeDiff, i h5 _ p5 m10, lo _ _ _ g5, List.cons_append, List.nil_append]
  obtain ⟨h6, e6, p6, g6⟩ := al h5 _ p5
  rw [← e6]
  have g7 : h6[h5.length]? = some (.lst ((subsL.map fun c2 => decide (c = c2)).map .bl)) := g6
  have po := pos_ok c hc
  simp only [pos1, decide_eq_true_eq] at po
  simp only [w_raise, w_try, w_vMS, w_vML, w_fmt, w_js, w_fj0, w_fj1, w_disp2, w_get2, w_idxC, w_split, w_par, w_unpL, w_unpV, w_dnew, w_dnewN, w_subD, w_bind, w_noX, w_ok, w_C, w_op2, w_asB, w_op3, w_and, w_or, w_not, w_test, w_bAnd, w_bOr, w_bNot, w_if, w_lif, w_tup, w_lst, w_alloc, w_vL, w_call, w_aNil, w_aCons, w_lCall, w_append, w_nil, w_lnil, w_seq, w_next, w_ret, w_set, w_expr, w_sif, w_sub, w_unp, w_fn1, w_fn2, w_fn3, w_fn4, w_fn5, w_join, w_vSrc, w_aSrc, w_lSrc, w_catLL, w_catOL, w_repL, w_sortV, w_asI, w_slE0, w_slE1, w_sl, q_srcT, q_srcS, q_srcR, q_zipT, q_slT, w_lc, w_forS, Int.toNat_natCast, v_0, v_S, List.replicate_succ, List.replicate_zero, Nat.reduceSub, List.getElem?_cons_zero, List.getElem?_cons_succ, List.set_cons_zero, List.set_cons_succ, if_true, if_false, Bool.false_eq_true, Bool.not_true, Bool.not_false, q_add, q_addT, q_addS, q_sub, q_eq, q_eqS, q_eqB, q_ne, q_neS, q_neB, q_lt, q_ltS, q_le, q_gt, q_ge, q_in1, q_nin1, q_isN, q_isnN, q_isB, q_isnB, q_isiI0, q_isiI1, q_isiI2, q_isiI3, q_isiI4, q_isiI5, q_isiB0, q_isiB1, q_isiB2, q_isiB3, q_isiB4, q_isiB5, q_isiS0, q_isiS1, q_isiS2, q_isiS3, q_isiS4, q_isiS5, q_isiT0, q_isiT1, q_isiT2, q_isiT3, q_isiT4, q_isiT5, q_isiR0, q_isiR1, q_isiR2, q_isiR3, q_isiR4, q_isiR5, q_isiN0, q_isiN1, q_isiN2, q_isiN3, q_isiN4, q_isiN5, q_lenS, q_lenT, q_lenR, q_min2, q_max2, q_strS, q_tupP, ix_0, ix_1, ix_2, ix_3, lo _ _ _ g6, count_bls g7, po.1, decide_true, decide_false, List.cons.injEq, reduceCtorEq, and_false, false_and, and_true, true_and, Nat.reduceEqDiff, Int.reduceLE, Int.reduceEq, Int.reduceLT, index_bls g7 po.2, Int.cast_ofNat_Int]
  exact p6
theorem opt_strs {n : Nat} : ∀ ss : List Sg, optAll (pyOf h (n + 1)) (ss.map .str) = some (ss.map fun s => .str ⟨s.toArray⟩)
  | [] => rfl
  | b :: bs => by
    have ih := opt_strs (n := n) bs
    rw [List.map_cons, optAll, ih]
    rfl
def rTag (j : Nat) : D := .tup [.str [114, 97, 105, 115, 101, 100], .int j]
abbrev names : List Sg := [[102, 111, 114, 109, 97, 116], [102, 105, 101, 108, 100], [114, 101, 99, 111, 114, 100], [116, 101, 120, 116], [110, 117, 109, 98, 101, 114], [112, 108, 97, 99, 101, 115], [114, 101, 97, 100, 105, 110, 103], [100, 111, 117, 98, 116, 102, 117, 108], [109, 97, 110, 121], [108, 97, 115, 116], [117, 110, 100, 111]]
theorem index_names {m : Nat} (e : h[m]? = some (.lst (names.map .str))) : ∀ j : Fin names.length, lIndexM (.obj m) (.str names[j]) h = .ok (.int ((j : Nat) : Int)) h := by
  intro j
  unfold lIndexM lstD
  have e1 : pyOf h DEEP (.obj m) = some (.list (names.map fun s => .str ⟨s.toArray⟩)) := by
    show pyOf h (39 + 1) (.obj m) = _
    rw [py_obj e, opt_strs (n := 38)]
    rfl
  have e2 : pyOf h DEEP (.str names[j]) = some (.str ⟨names[j].toArray⟩) := rfl
  have s1 : SeqAt.shaped (.list (names.map fun s => .str ⟨s.toArray⟩)) = true := by decide +kernel
  have key : ∀ j : Fin names.length, SeqAt.shaped (.str ⟨names[j].toArray⟩) = true ∧ (names.map fun s => PyData.str ⟨s.toArray⟩).findIdx? (fun z => PyData.eqv z (.str ⟨names[j].toArray⟩)) = some (j : Nat) := by decide +kernel
  obtain ⟨s2, f2⟩ := key j
  simp only [py2, e1, e2, s1, s2, and_self, if_true, f2]
theorem s_raises (j : Fin names.length) : OkX noE (run (k + 1) I__law_raises [.str names[j]] h) fun v h' => v = rTag j ∧ Px h h' := by
  rw [e__law_raises]
  unfold m__law_raises
  simp only [w_raise, w_try, w_vMS, w_vML, w_fmt, w_js, w_fj0, w_fj1, w_disp2, w_get2, w_idxC, w_split, w_par, w_unpL, w_unpV, w_dnew, w_dnewN, w_subD, w_bind, w_noX, w_ok, w_C, w_op2, w_asB, w_op3, w_and, w_or, w_not, w_test, w_bAnd, w_bOr, w_bNot, w_if, w_lif, w_tup, w_lst, w_alloc, w_vL, w_call, w_aNil, w_aCons, w_lCall, w_append, w_nil, w_lnil, w_seq, w_next, w_ret, w_set, w_expr, w_sif, w_sub, w_unp, w_fn1, w_fn2, w_fn3, w_fn4, w_fn5, w_join, w_vSrc, w_aSrc, w_lSrc, w_catLL, w_catOL, w_repL, w_sortV, w_asI, w_slE0, w_slE1, w_sl, q_srcT, q_srcS, q_srcR, q_zipT, q_slT, w_lc, w_forS, Int.toNat_natCast, v_0, v_S, List.replicate_succ, List.replicate_zero, Nat.reduceSub, List.getElem?_cons_zero, List.getElem?_cons_succ, List.set_cons_zero, List.set_cons_succ, if_true, if_false, Bool.false_eq_true, Bool.not_true, Bool.not_false, q_add, q_addT, q_addS, q_sub, q_eq, q_eqS, q_eqB, q_ne, q_neS, q_neB, q_lt, q_ltS, q_le, q_gt, q_ge, q_in1, q_nin1, q_isN, q_isnN, q_isB, q_isnB, q_isiI0, q_isiI1, q_isiI2, q_isiI3, q_isiI4, q_isiI5, q_isiB0, q_isiB1, q_isiB2, q_isiB3, q_isiB4, q_isiB5, q_isiS0, q_isiS1, q_isiS2, q_isiS3, q_isiS4, q_isiS5, q_isiT0, q_isiT1, q_isiT2, q_isiT3, q_isiT4, q_isiT5, q_isiR0, q_isiR1, q_isiR2, q_isiR3, q_isiR4, q_isiR5, q_isiN0, q_isiN1, q_isiN2, q_isiN3, q_isiN4, q_isiN5, q_lenS, q_lenT, q_lenR, q_min2, q_max2, q_strS, q_tupP, ix_0, ix_1, ix_2, ix_3, List.length_cons, List.length_nil, lim_0, lim_1, lim_2, lim_3, lim_4, lim_5, lim_6, lim_7, lim_8, lim_9, lim_10, lim_11, lim_12, lim_13, lim_14, lim_15, lim_16, lim_17, lim_18, lim_19, lim_20, lim_21, lim_22, lim_23, Nat.reduceAdd, Nat.reduceLeDiff, decide_true, decide_false, List.cons.injEq, reduceCtorEq, and_false, false_and, and_true, true_and, Nat.reduceEqDiff, Int.reduceLE, Int.reduceEq, Int.reduceLT]
  have al : ∀ (h' : MH) (xs : List D), Px h h' → ∃ h2, h2 = h' ++ [.lst xs] ∧ Px h h2 ∧ h2[h'.length]? = some (.lst xs) := fun h' xs p => ⟨_, rfl, p.trans Px.app, getElem?_app⟩
  have lo : ∀ (h' : MH) (m : Nat) (xs : List D), h'[m]? = some (.lst xs) → lstOf (.obj m) h' = some xs := fun h' m xs e => by simp [lstOf, e]
  obtain ⟨h1, e1, p1, g1⟩ := al h _ Px.refl
  rw [← e1]
  simp only [w_raise, w_try, w_vMS, w_vML, w_fmt, w_js, w_fj0, w_fj1, w_disp2, w_get2, w_idxC, w_split, w_par, w_unpL, w_unpV, w_dnew, w_dnewN, w_subD, w_bind, w_noX, w_ok, w_C, w_op2, w_asB, w_op3, w_and, w_or, w_not, w_test, w_bAnd, w_bOr, w_bNot, w_if, w_lif, w_tup, w_lst, w_alloc, w_vL, w_call, w_aNil, w_aCons, w_lCall, w_append, w_nil, w_lnil, w_seq, w_next, w_ret, w_set, w_expr, w_sif, w_sub, w_unp, w_fn1, w_fn2, w_fn3, w_fn4, w_fn5, w_join, w_vSrc, w_aSrc, w_lSrc, w_catLL, w_catOL, w_repL, w_sortV, w_asI, w_slE0, w_slE1, w_sl, q_srcT, q_srcS, q_srcR, q_zipT, q_slT, w_lc, w_forS, Int.toNat_natCast, v_0, v_S, List.replicate_succ, List.replicate_zero, Nat.reduceSub, List.getElem?_cons_zero, List.getElem?_cons_succ, List.set_cons_zero, List.set_cons_succ, if_true, if_false, Bool.false_eq_true, Bool.not_true, Bool.not_false, q_add, q_addT, q_addS, q_sub, q_eq, q_eqS, q_eqB, q_ne, q_neS, q_neB, q_lt, q_ltS, q_le, q_gt, q_ge, q_in1, q_nin1, q_isN, q_isnN, q_isB, q_isnB, q_isiI0, q_isiI1, q_isiI2, q_isiI3, q_isiI4, q_isiI5, q_isiB0, q_isiB1, q_isiB2, q_isiB3, q_isiB4, q_isiB5, q_isiS0, q_isiS1, q_isiS2, q_isiS3, q_isiS4, q_isiS5, q_isiT0, q_isiT1, q_isiT2, q_isiT3, q_isiT4, q_isiT5, q_isiR0, q_isiR1, q_isiR2, q_isiR3, q_isiR4, q_isiR5, q_isiN0, q_isiN1, q_isiN2, q_isiN3, q_isiN4, q_isiN5, q_lenS, q_lenT, q_lenR, q_min2, q_max2, q_strS, q_tupP, ix_0, ix_1, ix_2, ix_3, List.length_cons, List.length_nil, lim_0, lim_1, lim_2, lim_3, lim_4, lim_5, lim_6, lim_7, lim_8, lim_9, lim_10, lim_11, lim_12, lim_13, lim_14, lim_15, lim_16, lim_17, lim_18, lim_19, lim_20, lim_21, lim_22, lim_23, Nat.reduceAdd, Nat.reduceLeDiff, lo _ _ _ g1, List.cons_append, List.nil_append]
  obtain ⟨h2, e2, p2, g2⟩ := al h1 _ p1
  rw [← e2]
  simp only [w_raise, w_try, w_vMS, w_vML, w_fmt, w_js, w_fj0, w_fj1, w_disp2, w_get2, w_idxC, w_split, w_par, w_unpL, w_unpV, w_dnew, w_dnewN, w_subD, w_bind, w_noX, w_ok, w_C, w_op2, w_asB, w_op3, w_and, w_or, w_not, w_test, w_bAnd, w_bOr, w_bNot, w_if, w_lif, w_tup, w_lst, w_alloc, w_vL, w_call, w_aNil, w_aCons, w_lCall, w_append, w_nil, w_lnil, w_seq, w_next, w_ret, w_set, w_expr, w_sif, w_sub, w_unp, w_fn1, w_fn2, w_fn3, w_fn4, w_fn5, w_join, w_vSrc, w_aSrc, w_lSrc, w_catLL, w_catOL, w_repL, w_sortV, w_asI, w_slE0, w_slE1, w_sl, q_srcT, q_srcS, q_srcR, q_zipT, q_slT, w_lc, w_forS, Int.toNat_natCast, v_0, v_S, List.replicate_succ, List.replicate_zero, Nat.reduceSub, List.getElem?_cons_zero, List.getElem?_cons_succ, List.set_cons_zero, List.set_cons_succ, if_true, if_false, Bool.false_eq_true, Bool.not_true, Bool.not_false, q_add, q_addT, q_addS, q_sub, q_eq, q_eqS, q_eqB, q_ne, q_neS, q_neB, q_lt, q_ltS, q_le, q_gt, q_ge, q_in1, q_nin1, q_isN, q_isnN, q_isB, q_isnB, q_isiI0, q_isiI1, q_isiI2, q_isiI3, q_isiI4, q_isiI5, q_isiB0, q_isiB1, q_isiB2, q_isiB3, q_isiB4, q_isiB5, q_isiS0, q_isiS1, q_isiS2, q_isiS3, q_isiS4, q_isiS5, q_isiT0, q_isiT1, q_isiT2, q_isiT3, q_isiT4, q_isiT5, q_isiR0, q_isiR1, q_isiR2, q_isiR3, q_isiR4, q_isiR5, q_isiN0, q_isiN1, q_isiN2, q_isiN3, q_isiN4, q_isiN5, q_lenS, q_lenT, q_lenR, q_min2, q_max2, q_strS, q_tupP, ix_0, ix_1, ix_2, ix_3, List.length_cons, List.length_nil, lim_0, lim_1, lim_2, lim_3, lim_4, lim_5, lim_6, lim_7, lim_8, lim_9, lim_10, lim_11, lim_12, lim_13, lim_14, lim_15, lim_16, lim_17, lim_18, lim_19, lim_20, lim_21, lim_22, lim_23, Nat.reduceAdd, Nat.reduceLeDiff, lo _ _ _ g2, index_names g2 j]
  exact ⟨rfl, p2⟩
/-- the outcome, by what the call comes to -/
theorem s_outcome {way x : D} {P : D → MH → Prop} {X : Str → MH → Prop} (hcall : OkX (fun c h' => c ∈ raisedL ∧ Px h h' ∧ X c h') (run (k + 1) I__law_call [way, x] h) (fun v h' => Px h h' ∧ P v h')) :
    OkX noE (run (k + 2) I__law_outcome [way, x] h) fun v h' => Px h h' ∧ ((∃ w h2, P w h2 ∧ v = .tup [.str [114, 101, 116, 117, 114, 110, 101, 100], w]) ∨ ∃ c h2, c ∈ raisedL ∧ X c h2 ∧ v = rTag (subsL.idxOf c)) := by
  rw [e__law_outcome]
  unfold m__law_outcome
  simp only [w_raise, w_try, w_vMS, w_vML, w_fmt, w_js, w_fj0, w_fj1, w_disp2, w_get2, w_idxC, w_split, w_par, w_unpL, w_unpV, w_dnew, w_dnewN, w_subD, w_bind, w_noX, w_ok, w_C, w_op2, w_asB, w_op3, w_and, w_or, w_not, w_test, w_bAnd, w_bOr, w_bNot, w_if, w_lif, w_tup, w_lst, w_alloc, w_vL, w_call, w_aNil, w_aCons, w_lCall, w_append, w_nil, w_lnil, w_seq, w_next, w_ret, w_set, w_expr, w_sif, w_sub, w_unp, w_fn1, w_fn2, w_fn3, w_fn4, w_fn5, w_join, w_vSrc, w_aSrc, w_lSrc, w_catLL, w_catOL, w_repL, w_sortV, w_asI, w_slE0, w_slE1, w_sl, q_srcT, q_srcS, q_srcR, q_zipT, q_slT, w_lc, w_forS, Int.toNat_natCast, v_0, v_S, List.replicate_succ, List.replicate_zero, Nat.reduceSub, List.getElem?_cons_zero, List.getElem?_cons_succ, List.set_cons_zero, List.set_cons_succ, if_true, if_false, Bool.false_eq_true, Bool.not_true, Bool.not_false, q_add, q_addT, q_addS, q_sub, q_eq, q_eqS, q_eqB, q_ne, q_neS, q_neB, q_lt, q_ltS, q_le, q_gt, q_ge, q_in1, q_nin1, q_isN, q_isnN, q_isB, q_isnB, q_isiI0, q_isiI1, q_isiI2, q_isiI3, q_isiI4, q_isiI5, q_isiB0, q_isiB1, q_isiB2, q_isiB3, q_isiB4, q_isiB5, q_isiS0, q_isiS1, q_isiS2, q_isiS3, q_isiS4, q_isiS5, q_isiT0, q_isiT1, q_isiT2, q_isiT3, q_isiT4, q_isiT5, q_isiR0, q_isiR1, q_isiR2, q_isiR3, q_isiR4, q_isiR5, q_isiN0, q_isiN1, q_isiN2, q_isiN3, q_isiN4, q_isiN5, q_lenS, q_lenT, q_lenR, q_min2, q_max2, q_strS, q_tupP, ix_0, ix_1, ix_2, ix_3]
  refine hcall.impX (fun v h1 q => ?_) (fun c h1 q => ?_)
  · simp only [w_raise, w_try, w_vMS, w_vML, w_fmt, w_js, w_fj0, w_fj1, w_disp2, w_get2, w_idxC, w_split, w_par, w_unpL, w_unpV, w_dnew, w_dnewN, w_subD, w_bind, w_noX, w_ok, w_C, w_op2, w_asB, w_op3, w_and, w_or, w_not, w_test, w_bAnd, w_bOr, w_bNot, w_if, w_lif, w_tup, w_lst, w_alloc, w_vL, w_call, w_aNil, w_aCons, w_lCall, w_append, w_nil, w_lnil, w_seq, w_next, w_ret, w_set, w_expr, w_sif, w_sub, w_unp, w_fn1, w_fn2, w_fn3, w_fn4, w_fn5, w_join, w_vSrc, w_aSrc, w_lSrc, w_catLL, w_catOL, w_repL, w_sortV, w_asI, w_slE0, w_slE1, w_sl, q_srcT, q_srcS, q_srcR, q_zipT, q_slT, w_lc, w_forS, Int.toNat_natCast, v_0, v_S, List.replicate_succ, List.replicate_zero, Nat.reduceSub, List.getElem?_cons_zero, List.getElem?_cons_succ, List.set_cons_zero, List.set_cons_succ, if_true, if_false, Bool.false_eq_true, Bool.not_true, Bool.not_false, q_add, q_addT, q_addS, q_sub, q_eq, q_eqS, q_eqB, q_ne, q_neS, q_neB, q_lt, q_ltS, q_le, q_gt, q_ge, q_in1, q_nin1, q_isN, q_isnN, q_isB, q_isnB, q_isiI0, q_isiI1, q_isiI2, q_isiI3, q_isiI4, q_isiI5, q_isiB0, q_isiB1, q_isiB2, q_isiB3, q_isiB4, q_isiB5, q_isiS0, q_isiS1, q_isiS2, q_isiS3, q_isiS4, q_isiS5, q_isiT0, q_isiT1, q_isiT2, q_isiT3, q_isiT4, q_isiT5, q_isiR0, q_isiR1, q_isiR2, q_isiR3, q_isiR4, q_isiR5, q_isiN0, q_isiN1, q_isiN2, q_isiN3, q_isiN4, q_isiN5, q_lenS, q_lenT, q_lenR, q_min2, q_max2, q_strS, q_tupP, ix_0, ix_1, ix_2, ix_3, decide_true, decide_false, List.cons.injEq, reduceCtorEq, and_false, false_and, and_true, true_and, Nat.reduceEqDiff, Int.reduceLE, Int.reduceEq, Int.reduceLT, List.length_cons, List.length_nil, lim_0, lim_1, lim_2, lim_3, lim_4, lim_5, lim_6, lim_7, lim_8, lim_9, lim_10, lim_11, lim_12, lim_13, lim_14, lim_15, lim_16, lim_17, lim_18, lim_19, lim_20, lim_21, lim_22, lim_23, Nat.reduceAdd, Nat.reduceLeDiff]
    exact ⟨q.1, .inl ⟨v, h1, q.2, rfl⟩⟩
  · obtain ⟨hc, p1, hx⟩ := q
    refine ⟨hc, ?_⟩
    have isn : (D.obj (List.length h1)).isN = false := rfl
    simp only [w_raise, w_try, w_vMS, w_vML, w_fmt, w_js, w_fj0, w_fj1, w_disp2, w_get2, w_idxC, w_split, w_par, w_unpL, w_unpV, w_dnew, w_dnewN, w_subD, w_bind, w_noX, w_ok, w_C, w_op2, w_asB, w_op3, w_and, w_or, w_not, w_test, w_bAnd, w_bOr, w_bNot, w_if, w_lif, w_tup, w_lst, w_alloc, w_vL, w_call, w_aNil, w_aCons, w_lCall, w_append, w_nil, w_lnil, w_seq, w_next, w_ret, w_set, w_expr, w_sif, w_sub, w_unp, w_fn1, w_fn2, w_fn3, w_fn4, w_fn5, w_join, w_vSrc, w_aSrc, w_lSrc, w_catLL, w_catOL, w_repL, w_sortV, w_asI, w_slE0, w_slE1, w_sl, q_srcT, q_srcS, q_srcR, q_zipT, q_slT, w_lc, w_forS, Int.toNat_natCast, v_0, v_S, List.replicate_succ, List.replicate_zero, Nat.reduceSub, List.getElem?_cons_zero, List.getElem?_cons_succ, List.set_cons_zero, List.set_cons_succ, if_true, if_false, Bool.false_eq_true, Bool.not_true, Bool.not_false, q_add, q_addT, q_addS, q_sub, q_eq, q_eqS, q_eqB, q_ne, q_neS, q_neB, q_lt, q_ltS, q_le, q_gt, q_ge, q_in1, q_nin1, q_isN, q_isnN, q_isB, q_isnB, q_isiI0, q_isiI1, q_isiI2, q_isiI3, q_isiI4, q_isiI5, q_isiB0, q_isiB1, q_isiB2, q_isiB3, q_isiB4, q_isiB5, q_isiS0, q_isiS1, q_isiS2, q_isiS3, q_isiS4, q_isiS5, q_isiT0, q_isiT1, q_isiT2, q_isiT3, q_isiT4, q_isiT5, q_isiR0, q_isiR1, q_isiR2, q_isiR3, q_isiR4, q_isiR5, q_isiN0, q_isiN1, q_isiN2, q_isiN3, q_isiN4, q_isiN5, q_lenS, q_lenT, q_lenR, q_min2, q_max2, q_strS, q_tupP, ix_0, ix_1, ix_2, ix_3, decide_true, decide_false, List.cons.injEq, reduceCtorEq, and_false, false_and, and_true, true_and, Nat.reduceEqDiff, Int.reduceLE, Int.reduceEq, Int.reduceLT, List.length_cons, List.length_nil, lim_0, lim_1, lim_2, lim_3, lim_4, lim_5, lim_6, lim_7, lim_8, lim_9, lim_10, lim_11, lim_12, lim_13, lim_14, lim_15, lim_16, lim_17, lim_18, lim_19, lim_20, lim_21, lim_22, lim_23, Nat.reduceAdd, Nat.reduceLeDiff, isn]
    refine (s_name (k := k) (c := c) (n := h1.length) (h := h1 ++ [.exc c]) getElem?_app hc).imp fun v h2 q => ?_
    obtain ⟨rfl, p2⟩ := q
    exact ⟨p1.trans (Px.app.trans p2), .inr ⟨c, h1, hc, hx, rfl⟩⟩
end
end FT
end
section
set_option maxRecDepth 100000
namespace FT
open PySem L2
set_option autoImplicit false
section
variable {k : Nat} {h : MH}
theorem it_in : ("InvalidText" : Str) ∈ raisedL := by decide +kernel
theorem it_pos : subsL.idxOf ("InvalidText" : Str) = 3 := by decide +kernel
abbrev tRet : Sg := [114, 101, 116, 117, 114, 110, 101, 100]
theorem out_text {s : Sg} (hl : s.length ≤ 200) (hc : ∀ c ∈ s, c < 1114112) (h6 : s.count 42 ≤ 6) :
    OkX noE (run (k + 8) I__law_outcome [.int 0, .str s] h) fun v h' => Px h h' ∧ ((IsNot s ∧ v = .tup [.str tRet, .tup ((splC 32 s).map readF)]) ∨ (¬ IsNot s ∧ v = rTag 3)) := by
  refine (s_outcome (k := k + 6) (way := .int 0) (x := .str s) (P := fun v _ => IsNot s ∧ v = .tup ((splC 32 s).map readF)) (X := fun c _ => c = "InvalidText" ∧ ¬ IsNot s) ?_).imp fun v h' q => ⟨q.1, ?_⟩
  · rw [e__law_call]
    unfold m__law_call
    simp only [w_raise, w_try, w_vMS, w_vML, w_fmt, w_js, w_fj0, w_fj1, w_disp2, w_get2, w_idxC, w_split, w_par, w_unpL, w_unpV, w_dnew, w_dnewN, w_subD, w_bind, w_noX, w_ok, w_C, w_op2, w_asB, w_op3, w_and, w_or, w_not, w_test, w_bAnd, w_bOr, w_bNot, w_if, w_lif, w_tup, w_lst, w_alloc, w_vL, w_call, w_aNil, w_aCons, w_lCall, w_append, w_nil, w_lnil, w_seq, w_next, w_ret, w_set, w_expr, w_sif, w_sub, w_unp, w_fn1, w_fn2, w_fn3, w_fn4, w_fn5, w_join, w_vSrc, w_aSrc, w_lSrc, w_catLL, w_catOL, w_repL, w_sortV, w_asI, w_slE0, w_slE1, w_sl, q_srcT, q_srcS, q_srcR, q_zipT, q_slT, w_lc, w_forS, Int.toNat_natCast, v_0, v_S, List.replicate_succ, List.replicate_zero, Nat.reduceSub, List.getElem?_cons_zero, List.getElem?_cons_succ, List.set_cons_zero, List.set_cons_succ, if_true, if_false, Bool.false_eq_true, Bool.not_true, Bool.not_false, q_add, q_addT, q_addS, q_sub, q_eq, q_eqS, q_eqB, q_ne, q_neS, q_neB, q_lt, q_ltS, q_le, q_gt, q_ge, q_in1, q_nin1, q_isN, q_isnN, q_isB, q_isnB, q_isiI0, q_isiI1, q_isiI2, q_isiI3, q_isiI4, q_isiI5, q_isiB0, q_isiB1, q_isiB2, q_isiB3, q_isiB4, q_isiB5, q_isiS0, q_isiS1, q_isiS2, q_isiS3, q_isiS4, q_isiS5, q_isiT0, q_isiT1, q_isiT2, q_isiT3, q_isiT4, q_isiT5, q_isiR0, q_isiR1, q_isiR2, q_isiR3, q_isiR4, q_isiR5, q_isiN0, q_isiN1, q_isiN2, q_isiN3, q_isiN4, q_isiN5, q_lenS, q_lenT, q_lenR, q_min2, q_max2, q_strS, q_tupP, ix_0, ix_1, ix_2, ix_3]
    refine (s_formatFrom (k := k) hl hc h6).impX (fun v h1 q => ⟨q.1, q.2⟩) fun c h1 q => ?_
    obtain ⟨rfl, q1, q2⟩ := q
    exact ⟨it_in, q1, rfl, q2⟩
  · rcases q.2 with ⟨w, h2, ⟨q1, rfl⟩, rfl⟩ | ⟨c, h2, hc, ⟨rfl, q1⟩, rfl⟩
    · exact .inl ⟨q1, rfl⟩
    · exact .inr ⟨q1, by rw [it_pos]⟩
theorem out_bad {d : D} (hb : Bas h d) (hs : isStr d = false) : OkX noE (run (k + 8) I__law_outcome [.int 0, d] h) fun v h' => Px h h' ∧ v = rTag 3 := by
  refine (s_outcome (k := k + 6) (way := .int 0) (x := d) (P := fun _ _ => False) (X := fun c _ => c = "InvalidText") ?_).imp fun v h' q => ⟨q.1, ?_⟩
  · rw [e__law_call]
    unfold m__law_call
    simp only [w_raise, w_try, w_vMS, w_vML, w_fmt, w_js, w_fj0, w_fj1, w_disp2, w_get2, w_idxC, w_split, w_par, w_unpL, w_unpV, w_dnew, w_dnewN, w_subD, w_bind, w_noX, w_ok, w_C, w_op2, w_asB, w_op3, w_and, w_or, w_not, w_test, w_bAnd, w_bOr, w_bNot, w_if, w_lif, w_tup, w_lst, w_alloc, w_vL, w_call, w_aNil, w_aCons, w_lCall, w_append, w_nil, w_lnil, w_seq, w_next, w_ret, w_set, w_expr, w_sif, w_sub, w_unp, w_fn1, w_fn2, w_fn3, w_fn4, w_fn5, w_join, w_vSrc, w_aSrc, w_lSrc, w_catLL, w_catOL, w_repL, w_sortV, w_asI, w_slE0, w_slE1, w_sl, q_srcT, q_srcS, q_srcR, q_zipT, q_slT, w_lc, w_forS, Int.toNat_natCast, v_0, v_S, List.replicate_succ, List.replicate_zero, Nat.reduceSub, List.getElem?_cons_zero, List.getElem?_cons_succ, List.set_cons_zero, List.set_cons_succ, if_true, if_false, Bool.false_eq_true, Bool.not_true, Bool.not_false, q_add, q_addT, q_addS, q_sub, q_eq, q_eqS, q_eqB, q_ne, q_neS, q_neB, q_lt, q_ltS, q_le, q_gt, q_ge, q_in1, q_nin1, q_isN, q_isnN, q_isB, q_isnB, q_isiI0, q_isiI1, q_isiI2, q_isiI3, q_isiI4, q_isiI5, q_isiB0, q_isiB1, q_isiB2, q_isiB3, q_isiB4, q_isiB5, q_isiS0, q_isiS1, q_isiS2, q_isiS3, q_isiS4, q_isiS5, q_isiT0, q_isiT1, q_isiT2, q_isiT3, q_isiT4, q_isiT5, q_isiR0, q_isiR1, q_isiR2, q_isiR3, q_isiR4, q_isiR5, q_isiN0, q_isiN1, q_isiN2, q_isiN3, q_isiN4, q_isiN5, q_lenS, q_lenT, q_lenR, q_min2, q_max2, q_strS, q_tupP, ix_0, ix_1, ix_2, ix_3]
    rw [e_format_from]
    unfold m_format_from
    simp only [w_raise, w_try, w_vMS, w_vML, w_fmt, w_js, w_fj0, w_fj1, w_disp2, w_get2, w_idxC, w_split, w_par, w_unpL, w_unpV, w_dnew, w_dnewN, w_subD, w_bind, w_noX, w_ok, w_C, w_op2, w_asB, w_op3, w_and, w_or, w_not, w_test, w_bAnd, w_bOr, w_bNot, w_if, w_lif, w_tup, w_lst, w_alloc, w_vL, w_call, w_aNil, w_aCons, w_lCall, w_append, w_nil, w_lnil, w_seq, w_next, w_ret, w_set, w_expr, w_sif, w_sub, w_unp, w_fn1, w_fn2, w_fn3, w_fn4, w_fn5, w_join, w_vSrc, w_aSrc, w_lSrc, w_catLL, w_catOL, w_repL, w_sortV, w_asI, w_slE0, w_slE1, w_sl, q_srcT, q_srcS, q_srcR, q_zipT, q_slT, w_lc, w_forS, Int.toNat_natCast, v_0, v_S, List.replicate_succ, List.replicate_zero, Nat.reduceSub, List.getElem?_cons_zero, List.getElem?_cons_succ, List.set_cons_zero, List.set_cons_succ, if_true, if_false, Bool.false_eq_true, Bool.not_true, Bool.not_false, q_add, q_addT, q_addS, q_sub, q_eq, q_eqS, q_eqB, q_ne, q_neS, q_neB, q_lt, q_ltS, q_le, q_gt, q_ge, q_in1, q_nin1, q_isN, q_isnN, q_isB, q_isnB, q_isiI0, q_isiI1, q_isiI2, q_isiI3, q_isiI4, q_isiI5, q_isiB0, q_isiB1, q_isiB2, q_isiB3, q_isiB4, q_isiB5, q_isiS0, q_isiS1, q_isiS2, q_isiS3, q_isiS4, q_isiS5, q_isiT0, q_isiT1, q_isiT2, q_isiT3, q_isiT4, q_isiT5, q_isiR0, q_isiR1, q_isiR2, q_isiR3, q_isiR4, q_isiR5, q_isiN0, q_isiN1, q_isiN2, q_isiN3, q_isiN4, q_isiN5, q_lenS, q_lenT, q_lenR, q_min2, q_max2, q_strS, q_tupP, ix_0, ix_1, ix_2, ix_3, isi_str hb, hs]
    exact ⟨it_in, Px.refl, trivial⟩
  · rcases q.2 with ⟨w, h2, z, _⟩ | ⟨c, h2, hc, rfl, rfl⟩
    · exact z.elim
    · rw [it_pos]
theorem q_listS {cs : Sg} (hl : cs.length ≤ LIM) : listP [.str cs] h = .ok (cs.map fun c => .str [c]) h := if_pos hl
/-- plain data -/
theorem pl_tup {n : Nat} {ds : List D} (hd : ds.all (plN n) = true) : plN (n + 1) (.tup ds) = true := hd
theorem pl_int {n : Nat} {i : Int} : plN (n + 1) (.int i) = true := rfl
theorem pl_up {n m : Nat} {d : D} (hd : plN n d = true) (hm : n ≤ m) : plN m d = true := by
  induction hm with
  | refl => exact hd
  | step _ ih => exact plN_mono _ _ ih
theorem pl_sf {f : SF} (fo : f.Ok) : plN 3 f.d = true := by
  cases f with
  | word s => exact pl_tup (by simp only [List.all_cons, List.all_nil, pl_str (n := 1) (txok_lt fo), Bool.and_true]; decide)
  | digits lo hi => rfl
  | letters lo hi => rfl
  | number n => rfl
  | choice ts => exact pl_tup (by
      have : plN 2 (.tup (ts.map .str)) = true := pl_tup (pl_strs (n := 0) fun s hs => txok_lt (fo.2.2.1 s hs))
      simp only [List.all_cons, List.all_nil, this, Bool.and_true]; decide)
theorem pl_ff {f : FF} (fo : f.Ok) : plN 4 f.d = true := by
  cases f with
  | one f => exact plN_mono _ _ (pl_sf fo)
  | rep f lo hi => exact pl_tup (by
      simp only [List.all_cons, List.all_nil, pl_sf fo.1, Bool.and_true, Bool.true_and]
      rfl)
theorem pl_form {fs : List FF} (fo : ∀ f ∈ fs, f.Ok) : plN 5 (.tup (fs.map FF.d)) = true := pl_tup (by
  rw [List.all_eq_true]
  intro x hx
  obtain ⟨f, hf, rfl⟩ := List.mem_map.mp hx
  exact pl_ff (fo f hf))
theorem pl_ret {d : D} (hd : plN 5 d = true) : plN 40 (.tup [.str tRet, d]) = true := pl_up (n := 6) (pl_tup (by simp only [List.all_cons, List.all_nil, hd, Bool.and_true]; decide)) (by decide)
theorem pl_rt : plN 40 (rTag 3) = true := by decide
theorem ne_same {d : D} (hd : plN 40 d = true) : neM d d h = .ok (.bl false) h := by rw [ne_pl hd hd, eqD_iff.mpr rfl]; rfl
theorem eq_same {d : D} (hd : plN 40 d = true) : eqM d d h = .ok (.bl true) h := by rw [eq_pl hd hd, eqD_iff.mpr rfl]
end
theorem splC_end {c : Nat} : ∀ s : Sg, ∃ l, l ≠ [] ∧ splC c (s ++ [c]) = l ++ [[]]
  | [] => ⟨[[]], by simp, by simp [splC]⟩
  | x :: xs => by
    obtain ⟨l, hl, e⟩ := splC_end (c := c) xs
    by_cases hx : x = c
    · exact ⟨[] :: l, by simp, by simp [splC, hx, e]⟩
    · cases l with
      | nil => exact absurd rfl hl
      | cons p r => exact ⟨(x :: p) :: r, by simp, by simp [splC, hx, e]⟩
theorem not_no {s : Sg} (h : formatB (.tup ((splC 32 s).map readF)) = false) : ¬ IsNot s := fun ⟨fs, fo, e⟩ => by
  rw [(not_read fo e).1, formatB_of fo] at h
  cases h
theorem not_sp {s : Sg} : ¬ IsNot (s ++ [32]) := fun ⟨fs, fo, e⟩ => by
  obtain ⟨l, _, e2⟩ := splC_end (c := 32) s
  rw [← e, splC_line fo] at e2
  have : ([] : Sg) ∈ fs.map FF.line := by rw [e2]; simp
  obtain ⟨f, hf, e3⟩ := List.mem_map.mp this
  have := readF_line (fo.1 f hf)
  rw [e3] at this
  have e4 : readF [] = .tup [.str [], .int (-1)] := rfl
  rw [e4] at this
  cases f with
  | one f => cases f <;> simp [FF.d, SF.d] at this
  | rep f lo hi => simp [FF.d] at this
def Bad (h : MH) (d : D) : Prop := (∃ s, d = .str s ∧ s.length ≤ 200 ∧ (∀ c ∈ s, c < 1114112) ∧ s.count 42 ≤ 6 ∧ ¬ IsNot s) ∨ (Bas h d ∧ isStr d = false)
theorem bas_app {h l : MH} {d : D} (b : Bas h d) : Bas (h ++ l) d := by
  obtain ⟨⟨t, e, ht⟩, r⟩ := b
  refine ⟨⟨t, ?_, ht⟩, r⟩
  cases d <;> try exact e
  rename_i n
  simp only [tyOf] at e ⊢
  split at e
  · rename_i xs ex
    rw [get_app ex]
    exact e
  · cases e
theorem Bad.grow {h h' : MH} {d : D} (b : Bad h d) (p : Px h h') : Bad h' d := by
  rcases b with b | ⟨b, q⟩
  · exact .inl b
  · obtain ⟨l, rfl⟩ := p
    exact .inr ⟨bas_app b, q⟩
theorem out_is {k : Nat} {h : MH} {d : D} (b : Bad h d) : OkX noE (run (k + 8) I__law_outcome [.int 0, d] h) fun v h' => Px h h' ∧ v = rTag 3 := by
  rcases b with ⟨s, rfl, h1, h2, h3, h4⟩ | ⟨b, q⟩
  · refine (out_text h1 h2 h3).imp fun v h' q => ⟨q.1, ?_⟩
    rcases q.2 with ⟨z, _⟩ | ⟨_, z⟩
    · exact absurd z h4
    · exact z
  · exact out_bad b q
theorem bad_c {h : MH} {s : Sg} (h1 : s.length ≤ 200 := by decide) (h2 : ∀ c ∈ s, c < 1114112 := by decide) (h3 : s.count 42 ≤ 6 := by decide) (h4 : formatB (.tup ((splC 32 s).map readF)) = false := by decide +kernel) : Bad h (.str s) := .inl ⟨s, rfl, h1, h2, h3, not_no h4⟩
def bads1 : List D := [.non, .int 5, .str [], .str [32], .str [100], .str [100, 49], .str [100, 50, 44, 49], .str [100, 48, 44, 53], .str [110, 48], .str [110, 53], .str [110, 48, 49], .str [61], .str [61, 103], .str [124], .str [124, 98, 124, 97], .str [124, 97, 124, 97], .str [61, 97, 42, 48, 44, 48]]
def bads2 : List D := [.str [61, 97, 42, 49, 44, 49, 42, 49, 44, 49], .str [120, 49, 44, 50], .str [61, 97, 32, 61, 98, 32, 61, 97, 32, 61, 98, 32, 61, 97, 32, 61, 98, 32, 61, 97], .str [100, 32, 49, 44, 50], .str [100, 49, 44, 32, 50]]
theorem bads1_ok {h : MH} : ∀ d ∈ bads1, Bad h d := by
  intro d hd
  simp only [bads1, List.mem_cons, List.not_mem_nil, or_false] at hd
  rcases hd with rfl | rfl | rfl | rfl | rfl | rfl | rfl | rfl | rfl | rfl | rfl | rfl | rfl | rfl | rfl | rfl | rfl
  · exact .inr ⟨⟨⟨6, rfl, by decide⟩, fun s e => (by cases e), fun s e => (by cases e)⟩, rfl⟩
  · exact .inr ⟨bas_int, rfl⟩
  all_goals exact bad_c
theorem bads2_ok {h : MH} : ∀ d ∈ bads2, Bad h d := by
  intro d hd
  simp only [bads2, List.mem_cons, List.not_mem_nil, or_false] at hd
  rcases hd with rfl | rfl | rfl | rfl | rfl
  all_goals exact bad_c
def lastF : List FF := [.rep (.choice [[97], [98, 99]]) 0 3, .one (.letters 0 4)]
theorem last_ok : FormOk lastF := by
  refine ⟨fun f hf => ?_, by decide, by decide⟩
  simp only [lastF, List.mem_cons, List.not_mem_nil, or_false] at hf
  rcases hf with rfl | rfl
  · refine ⟨⟨by decide, by decide, fun s hs => ?_, by decide⟩, by decide, by decide, by decide⟩
    simp at hs
    rcases hs with rfl | rfl <;> exact ⟨by decide, by decide, by decide⟩
  · exact ⟨by decide, by decide⟩
theorem last_line : formLine lastF = [124, 97, 124, 98, 99, 42, 48, 44, 51, 32, 108, 48, 44, 52] := by decide +kernel
theorem line_is {fs : List FF} (fo : FormOk fs) : IsNot (formLine fs) := ⟨fs, fo, rfl⟩
theorem law_run {k : Nat} {ns : List Int} (hn : ns.length ≤ 63) : OkX noE (run (k + 10) I_law [.rol (ns.map .int)] []) fun v _ => v = .bl true := by
  rw [e_law]
  unfold m_law
  simp only [w_raise, w_try, w_vMS, w_vML, w_fmt, w_js, w_fj0, w_fj1, w_disp2, w_get2, w_idxC, w_split, w_par, w_unpL, w_unpV, w_dnew, w_dnewN, w_subD, w_bind, w_noX, w_ok, w_C, w_op2, w_asB, w_op3, w_and, w_or, w_not, w_test, w_bAnd, w_bOr, w_bNot, w_if, w_lif, w_tup, w_lst, w_alloc, w_vL, w_call, w_aNil, w_aCons, w_lCall, w_append, w_nil, w_lnil, w_seq, w_next, w_ret, w_set, w_expr, w_sif, w_sub, w_unp, w_fn1, w_fn2, w_fn3, w_fn4, w_fn5, w_join, w_vSrc, w_aSrc, w_lSrc, w_catLL, w_catOL, w_repL, w_sortV, w_asI, w_slE0, w_slE1, w_sl, q_srcT, q_srcS, q_srcR, q_zipT, q_slT, w_lc, w_forS, Int.toNat_natCast, v_0, v_S, List.replicate_succ, List.replicate_zero, Nat.reduceSub, List.getElem?_cons_zero, List.getElem?_cons_succ, List.set_cons_zero, List.set_cons_succ, if_true, if_false, Bool.false_eq_true, Bool.not_true, Bool.not_false, q_add, q_addT, q_addS, q_sub, q_eq, q_eqS, q_eqB, q_ne, q_neS, q_neB, q_lt, q_ltS, q_le, q_gt, q_ge, q_in1, q_nin1, q_isN, q_isnN, q_isB, q_isnB, q_isiI0, q_isiI1, q_isiI2, q_isiI3, q_isiI4, q_isiI5, q_isiB0, q_isiB1, q_isiB2, q_isiB3, q_isiB4, q_isiB5, q_isiS0, q_isiS1, q_isiS2, q_isiS3, q_isiS4, q_isiS5, q_isiT0, q_isiT1, q_isiT2, q_isiT3, q_isiT4, q_isiT5, q_isiR0, q_isiR1, q_isiR2, q_isiR3, q_isiR4, q_isiR5, q_isiN0, q_isiN1, q_isiN2, q_isiN3, q_isiN4, q_isiN5, q_lenS, q_lenT, q_lenR, q_min2, q_max2, q_strS, q_tupP, ix_0, ix_1, ix_2, ix_3, s_town hn]
  have T0 := twn_new (ns := ns) (h := [])
  simp only [List.length_nil, List.nil_append] at T0 ⊢
  generalize ([MO.lst (.int 0 :: ns.map .int)] : MH) = h0 at *
  have sf := s_form (k := k + 3) (n := 4) (m := 4) T0 (by omega) (by omega) (by omega) (by omega) (by omega)
  refine sf.imp fun v h1 p => ?_
  obtain ⟨⟨fs, rfl, fo, f1, f4⟩, T1, F1⟩ := p
  have FO : FormOk fs := ⟨fo, f1, by omega⟩
  obtain ⟨l1, l2, l3⟩ := formLine_ok fo
  have ls := lines_sum fo
  simp only [w_raise, w_try, w_vMS, w_vML, w_fmt, w_js, w_fj0, w_fj1, w_disp2, w_get2, w_idxC, w_split, w_par, w_unpL, w_unpV, w_dnew, w_dnewN, w_subD, w_bind, w_noX, w_ok, w_C, w_op2, w_asB, w_op3, w_and, w_or, w_not, w_test, w_bAnd, w_bOr, w_bNot, w_if, w_lif, w_tup, w_lst, w_alloc, w_vL, w_call, w_aNil, w_aCons, w_lCall, w_append, w_nil, w_lnil, w_seq, w_next, w_ret, w_set, w_expr, w_sif, w_sub, w_unp, w_fn1, w_fn2, w_fn3, w_fn4, w_fn5, w_join, w_vSrc, w_aSrc, w_lSrc, w_catLL, w_catOL, w_repL, w_sortV, w_asI, w_slE0, w_slE1, w_sl, q_srcT, q_srcS, q_srcR, q_zipT, q_slT, w_lc, w_forS, Int.toNat_natCast, v_0, v_S, List.replicate_succ, List.replicate_zero, Nat.reduceSub, List.getElem?_cons_zero, List.getElem?_cons_succ, List.set_cons_zero, List.set_cons_succ, if_true, if_false, Bool.false_eq_true, Bool.not_true, Bool.not_false, q_add, q_addT, q_addS, q_sub, q_eq, q_eqS, q_eqB, q_ne, q_neS, q_neB, q_lt, q_ltS, q_le, q_gt, q_ge, q_in1, q_nin1, q_isN, q_isnN, q_isB, q_isnB, q_isiI0, q_isiI1, q_isiI2, q_isiI3, q_isiI4, q_isiI5, q_isiB0, q_isiB1, q_isiB2, q_isiB3, q_isiB4, q_isiB5, q_isiS0, q_isiS1, q_isiS2, q_isiS3, q_isiS4, q_isiS5, q_isiT0, q_isiT1, q_isiT2, q_isiT3, q_isiT4, q_isiT5, q_isiR0, q_isiR1, q_isiR2, q_isiR3, q_isiR4, q_isiR5, q_isiN0, q_isiN1, q_isiN2, q_isiN3, q_isiN4, q_isiN5, q_lenS, q_lenT, q_lenR, q_min2, q_max2, q_strS, q_tupP, ix_0, ix_1, ix_2, ix_3]
  rw [w_lcI (by simp only [List.length_map, LIM]; omega)]
  simp only [wipeE, List.set_cons_zero, List.set_cons_succ]
  rw [s_lawLines (k := k + 7) fo (fun x => rfl), w_ok, join_sep (by simp only [List.length_map, List.length_cons, List.length_nil, LIM]; omega), w_ok]
  have el : TL.joinL [32] (fs.map FF.line) = formLine fs := rfl
  simp only [el, w_raise, w_try, w_vMS, w_vML, w_fmt, w_js, w_fj0, w_fj1, w_disp2, w_get2, w_idxC, w_split, w_par, w_unpL, w_unpV, w_dnew, w_dnewN, w_subD, w_bind, w_noX, w_ok, w_C, w_op2, w_asB, w_op3, w_and, w_or, w_not, w_test, w_bAnd, w_bOr, w_bNot, w_if, w_lif, w_tup, w_lst, w_alloc, w_vL, w_call, w_aNil, w_aCons, w_lCall, w_append, w_nil, w_lnil, w_seq, w_next, w_ret, w_set, w_expr, w_sif, w_sub, w_unp, w_fn1, w_fn2, w_fn3, w_fn4, w_fn5, w_join, w_vSrc, w_aSrc, w_lSrc, w_catLL, w_catOL, w_repL, w_sortV, w_asI, w_slE0, w_slE1, w_sl, q_srcT, q_srcS, q_srcR, q_zipT, q_slT, w_lc, w_forS, Int.toNat_natCast, v_0, v_S, List.replicate_succ, List.replicate_zero, Nat.reduceSub, List.getElem?_cons_zero, List.getElem?_cons_succ, List.set_cons_zero, List.set_cons_succ, if_true, if_false, Bool.false_eq_true, Bool.not_true, Bool.not_false, q_add, q_addT, q_addS, q_sub, q_eq, q_eqS, q_eqB, q_ne, q_neS, q_neB, q_lt, q_ltS, q_le, q_gt, q_ge, q_in1, q_nin1, q_isN, q_isnN, q_isB, q_isnB, q_isiI0, q_isiI1, q_isiI2, q_isiI3, q_isiI4, q_isiI5, q_isiB0, q_isiB1, q_isiB2, q_isiB3, q_isiB4, q_isiB5, q_isiS0, q_isiS1, q_isiS2, q_isiS3, q_isiS4, q_isiS5, q_isiT0, q_isiT1, q_isiT2, q_isiT3, q_isiT4, q_isiT5, q_isiR0, q_isiR1, q_isiR2, q_isiR3, q_isiR4, q_isiR5, q_isiN0, q_isiN1, q_isiN2, q_isiN3, q_isiN4, q_isiN5, q_lenS, q_lenT, q_lenR, q_min2, q_max2, q_strS, q_tupP, ix_0, ix_1, ix_2, ix_3, s_notation FO, decide_true, decide_false, List.cons.injEq, reduceCtorEq, and_false, false_and, and_true, true_and, Nat.reduceEqDiff, Int.reduceLE, Int.reduceEq, Int.reduceLT]
  refine (out_text (k := k + 1) (by omega) (fun c h => by have := l2 c h; omega) (by omega)).imp fun v h2 q => ?_
  obtain ⟨p2, q⟩ := q
  rcases q with ⟨_, rfl⟩ | ⟨z, _⟩
  rotate_left
  · exact absurd (line_is FO) z
  rw [(not_read FO rfl).1]
  simp only [w_raise, w_try, w_vMS, w_vML, w_fmt, w_js, w_fj0, w_fj1, w_disp2, w_get2, w_idxC, w_split, w_par, w_unpL, w_unpV, w_dnew, w_dnewN, w_subD, w_bind, w_noX, w_ok, w_C, w_op2, w_asB, w_op3, w_and, w_or, w_not, w_test, w_bAnd, w_bOr, w_bNot, w_if, w_lif, w_tup, w_lst, w_alloc, w_vL, w_call, w_aNil, w_aCons, w_lCall, w_append, w_nil, w_lnil, w_seq, w_next, w_ret, w_set, w_expr, w_sif, w_sub, w_unp, w_fn1, w_fn2, w_fn3, w_fn4, w_fn5, w_join, w_vSrc, w_aSrc, w_lSrc, w_catLL, w_catOL, w_repL, w_sortV, w_asI, w_slE0, w_slE1, w_sl, q_srcT, q_srcS, q_srcR, q_zipT, q_slT, w_lc, w_forS, Int.toNat_natCast, v_0, v_S, List.replicate_succ, List.replicate_zero, Nat.reduceSub, List.getElem?_cons_zero, List.getElem?_cons_succ, List.set_cons_zero, List.set_cons_succ, if_true, if_false, Bool.false_eq_true, Bool.not_true, Bool.not_false, q_add, q_addT, q_addS, q_sub, q_eq, q_eqS, q_eqB, q_ne, q_neS, q_neB, q_lt, q_ltS, q_le, q_gt, q_ge, q_in1, q_nin1, q_isN, q_isnN, q_isB, q_isnB, q_isiI0, q_isiI1, q_isiI2, q_isiI3, q_isiI4, q_isiI5, q_isiB0, q_isiB1, q_isiB2, q_isiB3, q_isiB4, q_isiB5, q_isiS0, q_isiS1, q_isiS2, q_isiS3, q_isiS4, q_isiS5, q_isiT0, q_isiT1, q_isiT2, q_isiT3, q_isiT4, q_isiT5, q_isiR0, q_isiR1, q_isiR2, q_isiR3, q_isiR4, q_isiR5, q_isiN0, q_isiN1, q_isiN2, q_isiN3, q_isiN4, q_isiN5, q_lenS, q_lenT, q_lenR, q_min2, q_max2, q_strS, q_tupP, ix_0, ix_1, ix_2, ix_3, List.length_cons, List.length_nil, lim_0, lim_1, lim_2, lim_3, lim_4, lim_5, lim_6, lim_7, lim_8, lim_9, lim_10, lim_11, lim_12, lim_13, lim_14, lim_15, lim_16, lim_17, lim_18, lim_19, lim_20, lim_21, lim_22, lim_23, Nat.reduceAdd, Nat.reduceLeDiff, ne_same (pl_ret (pl_form fo)), q_rng1 (show (-1000 : Int) ≤ 8 by omega) (show (8 : Int) ≤ 1000000 by omega)]
  refine for_rng (fun j e h' => Twn ns 0 (2000 + 100 * j) h' ∧ ∃ x4 x5 x6 x7 x8 x9 : Option D, e = [some (.rol (ns.map .int)), some (.obj 0), some (.tup (fs.map FF.d)), some (.str (formLine fs)), x4, x5, x6, x7, x8, x9, none, none, none, none]) ⟨(p2.twn T1).mono (by omega), _, _, _, _, _, _, rfl⟩ ?_ ?_
  · rintro j e h3 hj ⟨T3, x4, x5, x6, x7, x8, x9, rfl⟩
    have lL : (formLine fs).length ≤ LIM := by simp only [LIM]; omega
    simp only [w_raise, w_try, w_vMS, w_vML, w_fmt, w_js, w_fj0, w_fj1, w_disp2, w_get2, w_idxC, w_split, w_par, w_unpL, w_unpV, w_dnew, w_dnewN, w_subD, w_bind, w_noX, w_ok, w_C, w_op2, w_asB, w_op3, w_and, w_or, w_not, w_test, w_bAnd, w_bOr, w_bNot, w_if, w_lif, w_tup, w_lst, w_alloc, w_vL, w_call, w_aNil, w_aCons, w_lCall, w_append, w_nil, w_lnil, w_seq, w_next, w_ret, w_set, w_expr, w_sif, w_sub, w_unp, w_fn1, w_fn2, w_fn3, w_fn4, w_fn5, w_join, w_vSrc, w_aSrc, w_lSrc, w_catLL, w_catOL, w_repL, w_sortV, w_asI, w_slE0, w_slE1, w_sl, q_srcT, q_srcS, q_srcR, q_zipT, q_slT, w_lc, w_forS, Int.toNat_natCast, v_0, v_S, List.replicate_succ, List.replicate_zero, Nat.reduceSub, List.getElem?_cons_zero, List.getElem?_cons_succ, List.set_cons_zero, List.set_cons_succ, if_true, if_false, Bool.false_eq_true, Bool.not_true, Bool.not_false, q_add, q_addT, q_addS, q_sub, q_eq, q_eqS, q_eqB, q_ne, q_neS, q_neB, q_lt, q_ltS, q_le, q_gt, q_ge, q_in1, q_nin1, q_isN, q_isnN, q_isB, q_isnB, q_isiI0, q_isiI1, q_isiI2, q_isiI3, q_isiI4, q_isiI5, q_isiB0, q_isiB1, q_isiB2, q_isiB3, q_isiB4, q_isiB5, q_isiS0, q_isiS1, q_isiS2, q_isiS3, q_isiS4, q_isiS5, q_isiT0, q_isiT1, q_isiT2, q_isiT3, q_isiT4, q_isiT5, q_isiR0, q_isiR1, q_isiR2, q_isiR3, q_isiR4, q_isiR5, q_isiN0, q_isiN1, q_isiN2, q_isiN3, q_isiN4, q_isiN5, q_lenS, q_lenT, q_lenR, q_min2, q_max2, q_strS, q_tupP, ix_0, ix_1, ix_2, ix_3, q_lenS lL]
    refine (s_draw T3 (by omega) (by omega) (by omega)).imp fun v h4 p => ?_
    obtain ⟨i, rfl, i0, i1, T4, F4⟩ := p
    obtain ⟨a, rfl⟩ : ∃ a : Nat, i = (a : Int) := ⟨i.toNat, by omega⟩
    have lp : ∀ h : MH, listP [.str [48, 49, 50, 52, 53, 61, 124, 110, 100, 108, 42, 44, 32, 97, 98, 103]] h = .ok ([48, 49, 50, 52, 53, 61, 124, 110, 100, 108, 42, 44, 32, 97, 98, 103].map fun c => .str [c]) h := fun h => q_listS (by simp [LIM])
    simp only [w_raise, w_try, w_vMS, w_vML, w_fmt, w_js, w_fj0, w_fj1, w_disp2, w_get2, w_idxC, w_split, w_par, w_unpL, w_unpV, w_dnew, w_dnewN, w_subD, w_bind, w_noX, w_ok, w_C, w_op2, w_asB, w_op3, w_and, w_or, w_not, w_test, w_bAnd, w_bOr, w_bNot, w_if, w_lif, w_tup, w_lst, w_alloc, w_vL, w_call, w_aNil, w_aCons, w_lCall, w_append, w_nil, w_lnil, w_seq, w_next, w_ret, w_set, w_expr, w_sif, w_sub, w_unp, w_fn1, w_fn2, w_fn3, w_fn4, w_fn5, w_join, w_vSrc, w_aSrc, w_lSrc, w_catLL, w_catOL, w_repL, w_sortV, w_asI, w_slE0, w_slE1, w_sl, q_srcT, q_srcS, q_srcR, q_zipT, q_slT, w_lc, w_forS, Int.toNat_natCast, v_0, v_S, List.replicate_succ, List.replicate_zero, Nat.reduceSub, List.getElem?_cons_zero, List.getElem?_cons_succ, List.set_cons_zero, List.set_cons_succ, if_true, if_false, Bool.false_eq_true, Bool.not_true, Bool.not_false, q_add, q_addT, q_addS, q_sub, q_eq, q_eqS, q_eqB, q_ne, q_neS, q_neB, q_lt, q_ltS, q_le, q_gt, q_ge, q_in1, q_nin1, q_isN, q_isnN, q_isB, q_isnB, q_isiI0, q_isiI1, q_isiI2, q_isiI3, q_isiI4, q_isiI5, q_isiB0, q_isiB1, q_isiB2, q_isiB3, q_isiB4, q_isiB5, q_isiS0, q_isiS1, q_isiS2, q_isiS3, q_isiS4, q_isiS5, q_isiT0, q_isiT1, q_isiT2, q_isiT3, q_isiT4, q_isiT5, q_isiR0, q_isiR1, q_isiR2, q_isiR3, q_isiR4, q_isiR5, q_isiN0, q_isiN1, q_isiN2, q_isiN3, q_isiN4, q_isiN5, q_lenS, q_lenT, q_lenR, q_min2, q_max2, q_strS, q_tupP, ix_0, ix_1, ix_2, ix_3, List.length_cons, List.length_nil, lim_0, lim_1, lim_2, lim_3, lim_4, lim_5, lim_6, lim_7, lim_8, lim_9, lim_10, lim_11, lim_12, lim_13, lim_14, lim_15, lim_16, lim_17, lim_18, lim_19, lim_20, lim_21, lim_22, lim_23, Nat.reduceAdd, Nat.reduceLeDiff, lp, List.length_map]
    have tl := T4.lt
    refine (s_pickL (T4.app) (by omega) getElem?_app (by omega) (by simp) (by simp)).imp fun v h5 p => ?_
    obtain ⟨p1, T5, F5⟩ := p
    obtain ⟨g, rfl, g1, g2⟩ : ∃ g : Sg, v = .str g ∧ g.length ≤ 1 ∧ ∀ c ∈ g, c < 128 := by
      rcases List.mem_append.mp p1 with p1 | p1
      · obtain ⟨c, hc, rfl⟩ := List.mem_map.mp p1
        refine ⟨[c], rfl, by simp, fun x hx => ?_⟩
        simp at hx
        subst hx
        have : ∀ x ∈ [48, 49, 50, 52, 53, 61, 124, 110, 100, 108, 42, 44, 32, 97, 98, 103], x < 128 := by decide
        exact this x hc
      · simp at p1
        exact ⟨[], p1, by simp, by simp⟩
    simp only [w_raise, w_try, w_vMS, w_vML, w_fmt, w_js, w_fj0, w_fj1, w_disp2, w_get2, w_idxC, w_split, w_par, w_unpL, w_unpV, w_dnew, w_dnewN, w_subD, w_bind, w_noX, w_ok, w_C, w_op2, w_asB, w_op3, w_and, w_or, w_not, w_test, w_bAnd, w_bOr, w_bNot, w_if, w_lif, w_tup, w_lst, w_alloc, w_vL, w_call, w_aNil, w_aCons, w_lCall, w_append, w_nil, w_lnil, w_seq, w_next, w_ret, w_set, w_expr, w_sif, w_sub, w_unp, w_fn1, w_fn2, w_fn3, w_fn4, w_fn5, w_join, w_vSrc, w_aSrc, w_lSrc, w_catLL, w_catOL, w_repL, w_sortV, w_asI, w_slE0, w_slE1, w_sl, q_srcT, q_srcS, q_srcR, q_zipT, q_slT, w_lc, w_forS, Int.toNat_natCast, v_0, v_S, List.replicate_succ, List.replicate_zero, Nat.reduceSub, List.getElem?_cons_zero, List.getElem?_cons_succ, List.set_cons_zero, List.set_cons_succ, if_true, if_false, Bool.false_eq_true, Bool.not_true, Bool.not_false, q_add, q_addT, q_addS, q_sub, q_eq, q_eqS, q_eqB, q_ne, q_neS, q_neB, q_lt, q_ltS, q_le, q_gt, q_ge, q_in1, q_nin1, q_isN, q_isnN, q_isB, q_isnB, q_isiI0, q_isiI1, q_isiI2, q_isiI3, q_isiI4, q_isiI5, q_isiB0, q_isiB1, q_isiB2, q_isiB3, q_isiB4, q_isiB5, q_isiS0, q_isiS1, q_isiS2, q_isiS3, q_isiS4, q_isiS5, q_isiT0, q_isiT1, q_isiT2, q_isiT3, q_isiT4, q_isiT5, q_isiR0, q_isiR1, q_isiR2, q_isiR3, q_isiR4, q_isiR5, q_isiN0, q_isiN1, q_isiN2, q_isiN3, q_isiN4, q_isiN5, q_lenS, q_lenT, q_lenR, q_min2, q_max2, q_strS, q_tupP, ix_0, ix_1, ix_2, ix_3, take_n (s := formLine fs) _ a (by omega)]
    rw [add_str (by simp only [List.length_take, LIM]; omega), w_ok]
    refine (s_draw T5 (by omega) (by omega) (by omega)).imp fun v h6 p => ?_
    obtain ⟨i, rfl, b0, b1, T6, F6⟩ := p
    obtain ⟨b, rfl⟩ : ∃ b : Nat, i = (b : Int) := ⟨i.toNat, by omega⟩
    have eab : (a : Int) + (b : Int) = ((a + b : Nat) : Int) := by omega
    simp only [w_raise, w_try, w_vMS, w_vML, w_fmt, w_js, w_fj0, w_fj1, w_disp2, w_get2, w_idxC, w_split, w_par, w_unpL, w_unpV, w_dnew, w_dnewN, w_subD, w_bind, w_noX, w_ok, w_C, w_op2, w_asB, w_op3, w_and, w_or, w_not, w_test, w_bAnd, w_bOr, w_bNot, w_if, w_lif, w_tup, w_lst, w_alloc, w_vL, w_call, w_aNil, w_aCons, w_lCall, w_append, w_nil, w_lnil, w_seq, w_next, w_ret, w_set, w_expr, w_sif, w_sub, w_unp, w_fn1, w_fn2, w_fn3, w_fn4, w_fn5, w_join, w_vSrc, w_aSrc, w_lSrc, w_catLL, w_catOL, w_repL, w_sortV, w_asI, w_slE0, w_slE1, w_sl, q_srcT, q_srcS, q_srcR, q_zipT, q_slT, w_lc, w_forS, Int.toNat_natCast, v_0, v_S, List.replicate_succ, List.replicate_zero, Nat.reduceSub, List.getElem?_cons_zero, List.getElem?_cons_succ, List.set_cons_zero, List.set_cons_succ, if_true, if_false, Bool.false_eq_true, Bool.not_true, Bool.not_false, q_add, q_addT, q_addS, q_sub, q_eq, q_eqS, q_eqB, q_ne, q_neS, q_neB, q_lt, q_ltS, q_le, q_gt, q_ge, q_in1, q_nin1, q_isN, q_isnN, q_isB, q_isnB, q_isiI0, q_isiI1, q_isiI2, q_isiI3, q_isiI4, q_isiI5, q_isiB0, q_isiB1, q_isiB2, q_isiB3, q_isiB4, q_isiB5, q_isiS0, q_isiS1, q_isiS2, q_isiS3, q_isiS4, q_isiS5, q_isiT0, q_isiT1, q_isiT2, q_isiT3, q_isiT4, q_isiT5, q_isiR0, q_isiR1, q_isiR2, q_isiR3, q_isiR4, q_isiR5, q_isiN0, q_isiN1, q_isiN2, q_isiN3, q_isiN4, q_isiN5, q_lenS, q_lenT, q_lenR, q_min2, q_max2, q_strS, q_tupP, ix_0, ix_1, ix_2, ix_3, eab, drop_n (s := formLine fs) _ (a + b) (by omega)]
    rw [add_str (by simp only [List.length_append, List.length_take, List.length_drop, LIM]; omega), w_ok]
    have ol : ((formLine fs).take a ++ g ++ (formLine fs).drop (a + b)).length ≤ 101 := by
      simp only [List.length_append, List.length_take, List.length_drop]
      omega
    have oc : ∀ c ∈ (formLine fs).take a ++ g ++ (formLine fs).drop (a + b), c < 128 := fun c hc => by
      simp only [List.mem_append] at hc
      rcases hc with (hc | hc) | hc
      · exact l2 c (List.mem_of_mem_take hc)
      · exact g2 c hc
      · exact l2 c (List.mem_of_mem_drop hc)
    have o6 : ((formLine fs).take a ++ g ++ (formLine fs).drop (a + b)).count 42 ≤ 6 := by
      have c1 : ((formLine fs).take a).count 42 ≤ (formLine fs).count 42 := List.Sublist.count_le _ (List.take_sublist _ _)
      have c2 : ((formLine fs).drop (a + b)).count 42 ≤ (formLine fs).count 42 := List.Sublist.count_le _ (List.drop_sublist _ _)
      have c0 : ((formLine fs).take a).count 42 + ((formLine fs).drop a).count 42 = (formLine fs).count 42 := by rw [← List.count_append, List.take_append_drop]
      have c3 : ((formLine fs).drop (a + b)).count 42 ≤ ((formLine fs).drop a).count 42 := by
        rw [← List.drop_drop]
        exact List.Sublist.count_le _ (List.drop_sublist _ _)
      have c4 : g.count 42 ≤ g.length := List.count_le_length
      simp only [List.count_append]
      omega
    generalize (formLine fs).take a ++ g ++ (formLine fs).drop (a + b) = oth at *
    have ot : OkT oth := ⟨by omega, fun c h => by have := oc c h; omega⟩
    have sl := splC_len 32 oth
    simp only [w_raise, w_try, w_vMS, w_vML, w_fmt, w_js, w_fj0, w_fj1, w_disp2, w_get2, w_idxC, w_split, w_par, w_unpL, w_unpV, w_dnew, w_dnewN, w_subD, w_bind, w_noX, w_ok, w_C, w_op2, w_asB, w_op3, w_and, w_or, w_not, w_test, w_bAnd, w_bOr, w_bNot, w_if, w_lif, w_tup, w_lst, w_alloc, w_vL, w_call, w_aNil, w_aCons, w_lCall, w_append, w_nil, w_lnil, w_seq, w_next, w_ret, w_set, w_expr, w_sif, w_sub, w_unp, w_fn1, w_fn2, w_fn3, w_fn4, w_fn5, w_join, w_vSrc, w_aSrc, w_lSrc, w_catLL, w_catOL, w_repL, w_sortV, w_asI, w_slE0, w_slE1, w_sl, q_srcT, q_srcS, q_srcR, q_zipT, q_slT, w_lc, w_forS, Int.toNat_natCast, v_0, v_S, List.replicate_succ, List.replicate_zero, Nat.reduceSub, List.getElem?_cons_zero, List.getElem?_cons_succ, List.set_cons_zero, List.set_cons_succ, if_true, if_false, Bool.false_eq_true, Bool.not_true, Bool.not_false, q_add, q_addT, q_addS, q_sub, q_eq, q_eqS, q_eqB, q_ne, q_neS, q_neB, q_lt, q_ltS, q_le, q_gt, q_ge, q_in1, q_nin1, q_isN, q_isnN, q_isB, q_isnB, q_isiI0, q_isiI1, q_isiI2, q_isiI3, q_isiI4, q_isiI5, q_isiB0, q_isiB1, q_isiB2, q_isiB3, q_isiB4, q_isiB5, q_isiS0, q_isiS1, q_isiS2, q_isiS3, q_isiS4, q_isiS5, q_isiT0, q_isiT1, q_isiT2, q_isiT3, q_isiT4, q_isiT5, q_isiR0, q_isiR1, q_isiR2, q_isiR3, q_isiR4, q_isiR5, q_isiN0, q_isiN1, q_isiN2, q_isiN3, q_isiN4, q_isiN5, q_lenS, q_lenT, q_lenR, q_min2, q_max2, q_strS, q_tupP, ix_0, ix_1, ix_2, ix_3, q_split (show oth.length + 2 ≤ LIM by simp only [LIM]; omega) (show 32 < 256 by decide)]
    rw [w_lcI (by simp only [List.length_map, LIM]; omega)]
    simp only [wipeE, List.set_cons_zero, List.set_cons_succ]
    refine (grow_parts (k := k + 5) ot (fun p hp h' => s_lawPart hp.1 hp.2) (fun x => rfl)).imp fun ys h7 q => ?_
    obtain ⟨rfl, p7⟩ := q
    have T7 := p7.twn T6
    simp only [w_raise, w_try, w_vMS, w_vML, w_fmt, w_js, w_fj0, w_fj1, w_disp2, w_get2, w_idxC, w_split, w_par, w_unpL, w_unpV, w_dnew, w_dnewN, w_subD, w_bind, w_noX, w_ok, w_C, w_op2, w_asB, w_op3, w_and, w_or, w_not, w_test, w_bAnd, w_bOr, w_bNot, w_if, w_lif, w_tup, w_lst, w_alloc, w_vL, w_call, w_aNil, w_aCons, w_lCall, w_append, w_nil, w_lnil, w_seq, w_next, w_ret, w_set, w_expr, w_sif, w_sub, w_unp, w_fn1, w_fn2, w_fn3, w_fn4, w_fn5, w_join, w_vSrc, w_aSrc, w_lSrc, w_catLL, w_catOL, w_repL, w_sortV, w_asI, w_slE0, w_slE1, w_sl, q_srcT, q_srcS, q_srcR, q_zipT, q_slT, w_lc, w_forS, Int.toNat_natCast, v_0, v_S, List.replicate_succ, List.replicate_zero, Nat.reduceSub, List.getElem?_cons_zero, List.getElem?_cons_succ, List.set_cons_zero, List.set_cons_succ, if_true, if_false, Bool.false_eq_true, Bool.not_true, Bool.not_false, q_add, q_addT, q_addS, q_sub, q_eq, q_eqS, q_eqB, q_ne, q_neS, q_neB, q_lt, q_ltS, q_le, q_gt, q_ge, q_in1, q_nin1, q_isN, q_isnN, q_isB, q_isnB, q_isiI0, q_isiI1, q_isiI2, q_isiI3, q_isiI4, q_isiI5, q_isiB0, q_isiB1, q_isiB2, q_isiB3, q_isiB4, q_isiB5, q_isiS0, q_isiS1, q_isiS2, q_isiS3, q_isiS4, q_isiS5, q_isiT0, q_isiT1, q_isiT2, q_isiT3, q_isiT4, q_isiT5, q_isiR0, q_isiR1, q_isiR2, q_isiR3, q_isiR4, q_isiR5, q_isiN0, q_isiN1, q_isiN2, q_isiN3, q_isiN4, q_isiN5, q_lenS, q_lenT, q_lenR, q_min2, q_max2, q_strS, q_tupP, ix_0, ix_1, ix_2, ix_3, s_formatG (dp_parts ot fun p hp => dp_lawF hp)]
    have fin : ∀ {h8 : MH} {x8 x9 : Option D}, Px h7 h8 → Twn ns 0 (2000 + 100 * (j + 1)) h8 := fun {h8 x8 x9} p8 => (p8.twn T7).mono (by omega)
    have no : ¬ IsNot oth → ∀ x8 : D, OkSX noE (sIf (vTest (op2 neM (vCall (run (k + 9) I__law_outcome) (aCons (vC (.int 0)) (aCons (vVar 7) aNil))) (vIf (vTest (vVar 9)) (vTup (aCons (vC (.str [114, 101, 116, 117, 114, 110, 101, 100])) (aCons (vVar 8) aNil))) (vCall (run (k + 9) I__law_raises) (aCons (vC (.str [116, 101, 120, 116])) aNil)))))
        (sRet (vC (.bl false))) sNext [some (.rol (ns.map .int)), some (.obj 0), some (.tup (fs.map FF.d)), some (.str (formLine fs)), some (.int j), some (.int a), some (.str g), some (.str oth), some x8, some (.bl false), none, none, none, none] h7)
        (fun e2 h2 => Twn ns 0 (2000 + 100 * (j + 1)) h2 ∧ ∃ x4 x5 x6 x7 x8 x9 : Option D, e2 = [some (.rol (ns.map .int)), some (.obj 0), some (.tup (fs.map FF.d)), some (.str (formLine fs)), x4, x5, x6, x7, x8, x9, none, none, none, none]) fun v _ => v = .bl true := fun hno x8 => by
      simp only [w_raise, w_try, w_vMS, w_vML, w_fmt, w_js, w_fj0, w_fj1, w_disp2, w_get2, w_idxC, w_split, w_par, w_unpL, w_unpV, w_dnew, w_dnewN, w_subD, w_bind, w_noX, w_ok, w_C, w_op2, w_asB, w_op3, w_and, w_or, w_not, w_test, w_bAnd, w_bOr, w_bNot, w_if, w_lif, w_tup, w_lst, w_alloc, w_vL, w_call, w_aNil, w_aCons, w_lCall, w_append, w_nil, w_lnil, w_seq, w_next, w_ret, w_set, w_expr, w_sif, w_sub, w_unp, w_fn1, w_fn2, w_fn3, w_fn4, w_fn5, w_join, w_vSrc, w_aSrc, w_lSrc, w_catLL, w_catOL, w_repL, w_sortV, w_asI, w_slE0, w_slE1, w_sl, q_srcT, q_srcS, q_srcR, q_zipT, q_slT, w_lc, w_forS, Int.toNat_natCast, v_0, v_S, List.replicate_succ, List.replicate_zero, Nat.reduceSub, List.getElem?_cons_zero, List.getElem?_cons_succ, List.set_cons_zero, List.set_cons_succ, if_true, if_false, Bool.false_eq_true, Bool.not_true, Bool.not_false, q_add, q_addT, q_addS, q_sub, q_eq, q_eqS, q_eqB, q_ne, q_neS, q_neB, q_lt, q_ltS, q_le, q_gt, q_ge, q_in1, q_nin1, q_isN, q_isnN, q_isB, q_isnB, q_isiI0, q_isiI1, q_isiI2, q_isiI3, q_isiI4, q_isiI5, q_isiB0, q_isiB1, q_isiB2, q_isiB3, q_isiB4, q_isiB5, q_isiS0, q_isiS1, q_isiS2, q_isiS3, q_isiS4, q_isiS5, q_isiT0, q_isiT1, q_isiT2, q_isiT3, q_isiT4, q_isiT5, q_isiR0, q_isiR1, q_isiR2, q_isiR3, q_isiR4, q_isiR5, q_isiN0, q_isiN1, q_isiN2, q_isiN3, q_isiN4, q_isiN5, q_lenS, q_lenT, q_lenR, q_min2, q_max2, q_strS, q_tupP, ix_0, ix_1, ix_2, ix_3]
      refine (out_text (k := k + 1) (by omega) ot.2 o6).imp fun v h8 q => ?_
      obtain ⟨p8, q⟩ := q
      rcases q with ⟨z, _⟩ | ⟨_, rfl⟩
      · exact absurd z hno
      refine (s_raises (k := k + 8) (3 : Fin 11)).imp fun v h9 q => ?_
      obtain ⟨rfl, p9⟩ := q
      have e3 : rTag ((3 : Fin 11) : Nat) = rTag 3 := rfl
      simp only [e3, ne_same pl_rt, w_raise, w_try, w_vMS, w_vML, w_fmt, w_js, w_fj0, w_fj1, w_disp2, w_get2, w_idxC, w_split, w_par, w_unpL, w_unpV, w_dnew, w_dnewN, w_subD, w_bind, w_noX, w_ok, w_C, w_op2, w_asB, w_op3, w_and, w_or, w_not, w_test, w_bAnd, w_bOr, w_bNot, w_if, w_lif, w_tup, w_lst, w_alloc, w_vL, w_call, w_aNil, w_aCons, w_lCall, w_append, w_nil, w_lnil, w_seq, w_next, w_ret, w_set, w_expr, w_sif, w_sub, w_unp, w_fn1, w_fn2, w_fn3, w_fn4, w_fn5, w_join, w_vSrc, w_aSrc, w_lSrc, w_catLL, w_catOL, w_repL, w_sortV, w_asI, w_slE0, w_slE1, w_sl, q_srcT, q_srcS, q_srcR, q_zipT, q_slT, w_lc, w_forS, Int.toNat_natCast, v_0, v_S, List.replicate_succ, List.replicate_zero, Nat.reduceSub, List.getElem?_cons_zero, List.getElem?_cons_succ, List.set_cons_zero, List.set_cons_succ, if_true, if_false, Bool.false_eq_true, Bool.not_true, Bool.not_false, q_add, q_addT, q_addS, q_sub, q_eq, q_eqS, q_eqB, q_ne, q_neS, q_neB, q_lt, q_ltS, q_le, q_gt, q_ge, q_in1, q_nin1, q_isN, q_isnN, q_isB, q_isnB, q_isiI0, q_isiI1, q_isiI2, q_isiI3, q_isiI4, q_isiI5, q_isiB0, q_isiB1, q_isiB2, q_isiB3, q_isiB4, q_isiB5, q_isiS0, q_isiS1, q_isiS2, q_isiS3, q_isiS4, q_isiS5, q_isiT0, q_isiT1, q_isiT2, q_isiT3, q_isiT4, q_isiT5, q_isiR0, q_isiR1, q_isiR2, q_isiR3, q_isiR4, q_isiR5, q_isiN0, q_isiN1, q_isiN2, q_isiN3, q_isiN4, q_isiN5, q_lenS, q_lenT, q_lenR, q_min2, q_max2, q_strS, q_tupP, ix_0, ix_1, ix_2, ix_3]
      exact ⟨fin (x8 := none) (x9 := none) (p8.trans p9), _, _, _, _, _, _, rfl⟩
    cases ef : formatB (.tup ((splC 32 oth).map lawF)) with
    | false =>
      simp only [w_raise, w_try, w_vMS, w_vML, w_fmt, w_js, w_fj0, w_fj1, w_disp2, w_get2, w_idxC, w_split, w_par, w_unpL, w_unpV, w_dnew, w_dnewN, w_subD, w_bind, w_noX, w_ok, w_C, w_op2, w_asB, w_op3, w_and, w_or, w_not, w_test, w_bAnd, w_bOr, w_bNot, w_if, w_lif, w_tup, w_lst, w_alloc, w_vL, w_call, w_aNil, w_aCons, w_lCall, w_append, w_nil, w_lnil, w_seq, w_next, w_ret, w_set, w_expr, w_sif, w_sub, w_unp, w_fn1, w_fn2, w_fn3, w_fn4, w_fn5, w_join, w_vSrc, w_aSrc, w_lSrc, w_catLL, w_catOL, w_repL, w_sortV, w_asI, w_slE0, w_slE1, w_sl, q_srcT, q_srcS, q_srcR, q_zipT, q_slT, w_lc, w_forS, Int.toNat_natCast, v_0, v_S, List.replicate_succ, List.replicate_zero, Nat.reduceSub, List.getElem?_cons_zero, List.getElem?_cons_succ, List.set_cons_zero, List.set_cons_succ, if_true, if_false, Bool.false_eq_true, Bool.not_true, Bool.not_false, q_add, q_addT, q_addS, q_sub, q_eq, q_eqS, q_eqB, q_ne, q_neS, q_neB, q_lt, q_ltS, q_le, q_gt, q_ge, q_in1, q_nin1, q_isN, q_isnN, q_isB, q_isnB, q_isiI0, q_isiI1, q_isiI2, q_isiI3, q_isiI4, q_isiI5, q_isiB0, q_isiB1, q_isiB2, q_isiB3, q_isiB4, q_isiB5, q_isiS0, q_isiS1, q_isiS2, q_isiS3, q_isiS4, q_isiS5, q_isiT0, q_isiT1, q_isiT2, q_isiT3, q_isiT4, q_isiT5, q_isiR0, q_isiR1, q_isiR2, q_isiR3, q_isiR4, q_isiR5, q_isiN0, q_isiN1, q_isiN2, q_isiN3, q_isiN4, q_isiN5, q_lenS, q_lenT, q_lenR, q_min2, q_max2, q_strS, q_tupP, ix_0, ix_1, ix_2, ix_3]
      have := no (fun ⟨fs', fo', e'⟩ => by
        have := (not_read fo' e').2
        rw [this, formatB_of fo'] at ef
        cases ef) (.tup ((splC 32 oth).map lawF))
      simp only [w_raise, w_try, w_vMS, w_vML, w_fmt, w_js, w_fj0, w_fj1, w_disp2, w_get2, w_idxC, w_split, w_par, w_unpL, w_unpV, w_dnew, w_dnewN, w_subD, w_bind, w_noX, w_ok, w_C, w_op2, w_asB, w_op3, w_and, w_or, w_not, w_test, w_bAnd, w_bOr, w_bNot, w_if, w_lif, w_tup, w_lst, w_alloc, w_vL, w_call, w_aNil, w_aCons, w_lCall, w_append, w_nil, w_lnil, w_seq, w_next, w_ret, w_set, w_expr, w_sif, w_sub, w_unp, w_fn1, w_fn2, w_fn3, w_fn4, w_fn5, w_join, w_vSrc, w_aSrc, w_lSrc, w_catLL, w_catOL, w_repL, w_sortV, w_asI, w_slE0, w_slE1, w_sl, q_srcT, q_srcS, q_srcR, q_zipT, q_slT, w_lc, w_forS, Int.toNat_natCast, v_0, v_S, List.replicate_succ, List.replicate_zero, Nat.reduceSub, List.getElem?_cons_zero, List.getElem?_cons_succ, List.set_cons_zero, List.set_cons_succ, if_true, if_false, Bool.false_eq_true, Bool.not_true, Bool.not_false, q_add, q_addT, q_addS, q_sub, q_eq, q_eqS, q_eqB, q_ne, q_neS, q_neB, q_lt, q_ltS, q_le, q_gt, q_ge, q_in1, q_nin1, q_isN, q_isnN, q_isB, q_isnB, q_isiI0, q_isiI1, q_isiI2, q_isiI3, q_isiI4, q_isiI5, q_isiB0, q_isiB1, q_isiB2, q_isiB3, q_isiB4, q_isiB5, q_isiS0, q_isiS1, q_isiS2, q_isiS3, q_isiS4, q_isiS5, q_isiT0, q_isiT1, q_isiT2, q_isiT3, q_isiT4, q_isiT5, q_isiR0, q_isiR1, q_isiR2, q_isiR3, q_isiR4, q_isiR5, q_isiN0, q_isiN1, q_isiN2, q_isiN3, q_isiN4, q_isiN5, q_lenS, q_lenT, q_lenR, q_min2, q_max2, q_strS, q_tupP, ix_0, ix_1, ix_2, ix_3] at this
      exact this
    | true =>
      obtain ⟨fs', e, fo'⟩ := format_of ef
      injection e with e
      have ls' := lines_sum fo'.1
      have fl6 := fo'.2.2
      rw [e]
      simp only [w_raise, w_try, w_vMS, w_vML, w_fmt, w_js, w_fj0, w_fj1, w_disp2, w_get2, w_idxC, w_split, w_par, w_unpL, w_unpV, w_dnew, w_dnewN, w_subD, w_bind, w_noX, w_ok, w_C, w_op2, w_asB, w_op3, w_and, w_or, w_not, w_test, w_bAnd, w_bOr, w_bNot, w_if, w_lif, w_tup, w_lst, w_alloc, w_vL, w_call, w_aNil, w_aCons, w_lCall, w_append, w_nil, w_lnil, w_seq, w_next, w_ret, w_set, w_expr, w_sif, w_sub, w_unp, w_fn1, w_fn2, w_fn3, w_fn4, w_fn5, w_join, w_vSrc, w_aSrc, w_lSrc, w_catLL, w_catOL, w_repL, w_sortV, w_asI, w_slE0, w_slE1, w_sl, q_srcT, q_srcS, q_srcR, q_zipT, q_slT, w_lc, w_forS, Int.toNat_natCast, v_0, v_S, List.replicate_succ, List.replicate_zero, Nat.reduceSub, List.getElem?_cons_zero, List.getElem?_cons_succ, List.set_cons_zero, List.set_cons_succ, if_true, if_false, Bool.false_eq_true, Bool.not_true, Bool.not_false, q_add, q_addT, q_addS, q_sub, q_eq, q_eqS, q_eqB, q_ne, q_neS, q_neB, q_lt, q_ltS, q_le, q_gt, q_ge, q_in1, q_nin1, q_isN, q_isnN, q_isB, q_isnB, q_isiI0, q_isiI1, q_isiI2, q_isiI3, q_isiI4, q_isiI5, q_isiB0, q_isiB1, q_isiB2, q_isiB3, q_isiB4, q_isiB5, q_isiS0, q_isiS1, q_isiS2, q_isiS3, q_isiS4, q_isiS5, q_isiT0, q_isiT1, q_isiT2, q_isiT3, q_isiT4, q_isiT5, q_isiR0, q_isiR1, q_isiR2, q_isiR3, q_isiR4, q_isiR5, q_isiN0, q_isiN1, q_isiN2, q_isiN3, q_isiN4, q_isiN5, q_lenS, q_lenT, q_lenR, q_min2, q_max2, q_strS, q_tupP, ix_0, ix_1, ix_2, ix_3]
      rw [w_lcI (by simp only [List.length_map, LIM]; omega)]
      simp only [wipeE, List.set_cons_zero, List.set_cons_succ]
      rw [s_lawLines (k := k + 7) fo'.1 (fun x => rfl), w_ok, join_sep (by simp only [List.length_map, List.length_cons, List.length_nil, LIM]; omega), w_ok]
      have el : TL.joinL [32] (fs'.map FF.line) = formLine fs' := rfl
      simp only [el, w_raise, w_try, w_vMS, w_vML, w_fmt, w_js, w_fj0, w_fj1, w_disp2, w_get2, w_idxC, w_split, w_par, w_unpL, w_unpV, w_dnew, w_dnewN, w_subD, w_bind, w_noX, w_ok, w_C, w_op2, w_asB, w_op3, w_and, w_or, w_not, w_test, w_bAnd, w_bOr, w_bNot, w_if, w_lif, w_tup, w_lst, w_alloc, w_vL, w_call, w_aNil, w_aCons, w_lCall, w_append, w_nil, w_lnil, w_seq, w_next, w_ret, w_set, w_expr, w_sif, w_sub, w_unp, w_fn1, w_fn2, w_fn3, w_fn4, w_fn5, w_join, w_vSrc, w_aSrc, w_lSrc, w_catLL, w_catOL, w_repL, w_sortV, w_asI, w_slE0, w_slE1, w_sl, q_srcT, q_srcS, q_srcR, q_zipT, q_slT, w_lc, w_forS, Int.toNat_natCast, v_0, v_S, List.replicate_succ, List.replicate_zero, Nat.reduceSub, List.getElem?_cons_zero, List.getElem?_cons_succ, List.set_cons_zero, List.set_cons_succ, if_true, if_false, Bool.false_eq_true, Bool.not_true, Bool.not_false, q_add, q_addT, q_addS, q_sub, q_eq, q_eqS, q_eqB, q_ne, q_neS, q_neB, q_lt, q_ltS, q_le, q_gt, q_ge, q_in1, q_nin1, q_isN, q_isnN, q_isB, q_isnB, q_isiI0, q_isiI1, q_isiI2, q_isiI3, q_isiI4, q_isiI5, q_isiB0, q_isiB1, q_isiB2, q_isiB3, q_isiB4, q_isiB5, q_isiS0, q_isiS1, q_isiS2, q_isiS3, q_isiS4, q_isiS5, q_isiT0, q_isiT1, q_isiT2, q_isiT3, q_isiT4, q_isiT5, q_isiR0, q_isiR1, q_isiR2, q_isiR3, q_isiR4, q_isiR5, q_isiN0, q_isiN1, q_isiN2, q_isiN3, q_isiN4, q_isiN5, q_lenS, q_lenT, q_lenR, q_min2, q_max2, q_strS, q_tupP, ix_0, ix_1, ix_2, ix_3]
      by_cases cs : formLine fs' = oth
      · simp only [cs, w_raise, w_try, w_vMS, w_vML, w_fmt, w_js, w_fj0, w_fj1, w_disp2, w_get2, w_idxC, w_split, w_par, w_unpL, w_unpV, w_dnew, w_dnewN, w_subD, w_bind, w_noX, w_ok, w_C, w_op2, w_asB, w_op3, w_and, w_or, w_not, w_test, w_bAnd, w_bOr, w_bNot, w_if, w_lif, w_tup, w_lst, w_alloc, w_vL, w_call, w_aNil, w_aCons, w_lCall, w_append, w_nil, w_lnil, w_seq, w_next, w_ret, w_set, w_expr, w_sif, w_sub, w_unp, w_fn1, w_fn2, w_fn3, w_fn4, w_fn5, w_join, w_vSrc, w_aSrc, w_lSrc, w_catLL, w_catOL, w_repL, w_sortV, w_asI, w_slE0, w_slE1, w_sl, q_srcT, q_srcS, q_srcR, q_zipT, q_slT, w_lc, w_forS, Int.toNat_natCast, v_0, v_S, List.replicate_succ, List.replicate_zero, Nat.reduceSub, List.getElem?_cons_zero, List.getElem?_cons_succ, List.set_cons_zero, List.set_cons_succ, if_true, if_false, Bool.false_eq_true, Bool.not_true, Bool.not_false, q_add, q_addT, q_addS, q_sub, q_eq, q_eqS, q_eqB, q_ne, q_neS, q_neB, q_lt, q_ltS, q_le, q_gt, q_ge, q_in1, q_nin1, q_isN, q_isnN, q_isB, q_isnB, q_isiI0, q_isiI1, q_isiI2, q_isiI3, q_isiI4, q_isiI5, q_isiB0, q_isiB1, q_isiB2, q_isiB3, q_isiB4, q_isiB5, q_isiS0, q_isiS1, q_isiS2, q_isiS3, q_isiS4, q_isiS5, q_isiT0, q_isiT1, q_isiT2, q_isiT3, q_isiT4, q_isiT5, q_isiR0, q_isiR1, q_isiR2, q_isiR3, q_isiR4, q_isiR5, q_isiN0, q_isiN1, q_isiN2, q_isiN3, q_isiN4, q_isiN5, q_lenS, q_lenT, q_lenR, q_min2, q_max2, q_strS, q_tupP, ix_0, ix_1, ix_2, ix_3, decide_true, decide_false, List.cons.injEq, reduceCtorEq, and_false, false_and, and_true, true_and, Nat.reduceEqDiff, Int.reduceLE, Int.reduceEq, Int.reduceLT]
        refine (out_text (k := k + 1) (by omega) ot.2 o6).imp fun v h8 q => ?_
        obtain ⟨p8, q⟩ := q
        rcases q with ⟨_, rfl⟩ | ⟨z, _⟩
        · rw [(not_read fo' cs).1]
          simp only [w_raise, w_try, w_vMS, w_vML, w_fmt, w_js, w_fj0, w_fj1, w_disp2, w_get2, w_idxC, w_split, w_par, w_unpL, w_unpV, w_dnew, w_dnewN, w_subD, w_bind, w_noX, w_ok, w_C, w_op2, w_asB, w_op3, w_and, w_or, w_not, w_test, w_bAnd, w_bOr, w_bNot, w_if, w_lif, w_tup, w_lst, w_alloc, w_vL, w_call, w_aNil, w_aCons, w_lCall, w_append, w_nil, w_lnil, w_seq, w_next, w_ret, w_set, w_expr, w_sif, w_sub, w_unp, w_fn1, w_fn2, w_fn3, w_fn4, w_fn5, w_join, w_vSrc, w_aSrc, w_lSrc, w_catLL, w_catOL, w_repL, w_sortV, w_asI, w_slE0, w_slE1, w_sl, q_srcT, q_srcS, q_srcR, q_zipT, q_slT, w_lc, w_forS, Int.toNat_natCast, v_0, v_S, List.replicate_succ, List.replicate_zero, Nat.reduceSub, List.getElem?_cons_zero, List.getElem?_cons_succ, List.set_cons_zero, List.set_cons_succ, if_true, if_false, Bool.false_eq_true, Bool.not_true, Bool.not_false, q_add, q_addT, q_addS, q_sub, q_eq, q_eqS, q_eqB, q_ne, q_neS, q_neB, q_lt, q_ltS, q_le, q_gt, q_ge, q_in1, q_nin1, q_isN, q_isnN, q_isB, q_isnB, q_isiI0, q_isiI1, q_isiI2, q_isiI3, q_isiI4, q_isiI5, q_isiB0, q_isiB1, q_isiB2, q_isiB3, q_isiB4, q_isiB5, q_isiS0, q_isiS1, q_isiS2, q_isiS3, q_isiS4, q_isiS5, q_isiT0, q_isiT1, q_isiT2, q_isiT3, q_isiT4, q_isiT5, q_isiR0, q_isiR1, q_isiR2, q_isiR3, q_isiR4, q_isiR5, q_isiN0, q_isiN1, q_isiN2, q_isiN3, q_isiN4, q_isiN5, q_lenS, q_lenT, q_lenR, q_min2, q_max2, q_strS, q_tupP, ix_0, ix_1, ix_2, ix_3, List.length_cons, List.length_nil, lim_0, lim_1, lim_2, lim_3, lim_4, lim_5, lim_6, lim_7, lim_8, lim_9, lim_10, lim_11, lim_12, lim_13, lim_14, lim_15, lim_16, lim_17, lim_18, lim_19, lim_20, lim_21, lim_22, lim_23, Nat.reduceAdd, Nat.reduceLeDiff, ne_same (pl_ret (pl_form fo'.1))]
          exact ⟨fin (x8 := none) (x9 := none) p8, _, _, _, _, _, _, rfl⟩
        · exact absurd ⟨fs', fo', cs⟩ z
      · simp only [cs, w_raise, w_try, w_vMS, w_vML, w_fmt, w_js, w_fj0, w_fj1, w_disp2, w_get2, w_idxC, w_split, w_par, w_unpL, w_unpV, w_dnew, w_dnewN, w_subD, w_bind, w_noX, w_ok, w_C, w_op2, w_asB, w_op3, w_and, w_or, w_not, w_test, w_bAnd, w_bOr, w_bNot, w_if, w_lif, w_tup, w_lst, w_alloc, w_vL, w_call, w_aNil, w_aCons, w_lCall, w_append, w_nil, w_lnil, w_seq, w_next, w_ret, w_set, w_expr, w_sif, w_sub, w_unp, w_fn1, w_fn2, w_fn3, w_fn4, w_fn5, w_join, w_vSrc, w_aSrc, w_lSrc, w_catLL, w_catOL, w_repL, w_sortV, w_asI, w_slE0, w_slE1, w_sl, q_srcT, q_srcS, q_srcR, q_zipT, q_slT, w_lc, w_forS, Int.toNat_natCast, v_0, v_S, List.replicate_succ, List.replicate_zero, Nat.reduceSub, List.getElem?_cons_zero, List.getElem?_cons_succ, List.set_cons_zero, List.set_cons_succ, if_true, if_false, Bool.false_eq_true, Bool.not_true, Bool.not_false, q_add, q_addT, q_addS, q_sub, q_eq, q_eqS, q_eqB, q_ne, q_neS, q_neB, q_lt, q_ltS, q_le, q_gt, q_ge, q_in1, q_nin1, q_isN, q_isnN, q_isB, q_isnB, q_isiI0, q_isiI1, q_isiI2, q_isiI3, q_isiI4, q_isiI5, q_isiB0, q_isiB1, q_isiB2, q_isiB3, q_isiB4, q_isiB5, q_isiS0, q_isiS1, q_isiS2, q_isiS3, q_isiS4, q_isiS5, q_isiT0, q_isiT1, q_isiT2, q_isiT3, q_isiT4, q_isiT5, q_isiR0, q_isiR1, q_isiR2, q_isiR3, q_isiR4, q_isiR5, q_isiN0, q_isiN1, q_isiN2, q_isiN3, q_isiN4, q_isiN5, q_lenS, q_lenT, q_lenR, q_min2, q_max2, q_strS, q_tupP, ix_0, ix_1, ix_2, ix_3, decide_true, decide_false, List.cons.injEq, reduceCtorEq, and_false, false_and, and_true, true_and, Nat.reduceEqDiff, Int.reduceLE, Int.reduceEq, Int.reduceLT]
        have := no (fun ⟨f2, fo2, e2⟩ => by
          have := (not_read fo2 e2).2
          rw [e] at this
          rw [ffs_inj this] at cs
          exact cs e2) (.tup (fs'.map FF.d))
        simp only [w_raise, w_try, w_vMS, w_vML, w_fmt, w_js, w_fj0, w_fj1, w_disp2, w_get2, w_idxC, w_split, w_par, w_unpL, w_unpV, w_dnew, w_dnewN, w_subD, w_bind, w_noX, w_ok, w_C, w_op2, w_asB, w_op3, w_and, w_or, w_not, w_test, w_bAnd, w_bOr, w_bNot, w_if, w_lif, w_tup, w_lst, w_alloc, w_vL, w_call, w_aNil, w_aCons, w_lCall, w_append, w_nil, w_lnil, w_seq, w_next, w_ret, w_set, w_expr, w_sif, w_sub, w_unp, w_fn1, w_fn2, w_fn3, w_fn4, w_fn5, w_join, w_vSrc, w_aSrc, w_lSrc, w_catLL, w_catOL, w_repL, w_sortV, w_asI, w_slE0, w_slE1, w_sl, q_srcT, q_srcS, q_srcR, q_zipT, q_slT, w_lc, w_forS, Int.toNat_natCast, v_0, v_S, List.replicate_succ, List.replicate_zero, Nat.reduceSub, List.getElem?_cons_zero, List.getElem?_cons_succ, List.set_cons_zero, List.set_cons_succ, if_true, if_false, Bool.false_eq_true, Bool.not_true, Bool.not_false, q_add, q_addT, q_addS, q_sub, q_eq, q_eqS, q_eqB, q_ne, q_neS, q_neB, q_lt, q_ltS, q_le, q_gt, q_ge, q_in1, q_nin1, q_isN, q_isnN, q_isB, q_isnB, q_isiI0, q_isiI1, q_isiI2, q_isiI3, q_isiI4, q_isiI5, q_isiB0, q_isiB1, q_isiB2, q_isiB3, q_isiB4, q_isiB5, q_isiS0, q_isiS1, q_isiS2, q_isiS3, q_isiS4, q_isiS5, q_isiT0, q_isiT1, q_isiT2, q_isiT3, q_isiT4, q_isiT5, q_isiR0, q_isiR1, q_isiR2, q_isiR3, q_isiR4, q_isiR5, q_isiN0, q_isiN1, q_isiN2, q_isiN3, q_isiN4, q_isiN5, q_lenS, q_lenT, q_lenR, q_min2, q_max2, q_strS, q_tupP, ix_0, ix_1, ix_2, ix_3] at this
        exact this
  · rintro e h3 ⟨T3, x4, x5, x6, x7, x8, x9, rfl⟩
    have al : ∀ (h' : MH) (xs : List D), ∃ h2, h2 = h' ++ [.lst xs] ∧ Px h' h2 ∧ h2[h'.length]? = some (.lst xs) := fun h' xs => ⟨_, rfl, Px.app, getElem?_app⟩
    have lo : ∀ (h' : MH) (m : Nat) (xs : List D), h'[m]? = some (.lst xs) → lstOf (.obj m) h' = some xs := fun h' m xs e => by simp [lstOf, e]
    simp only [w_raise, w_try, w_vMS, w_vML, w_fmt, w_js, w_fj0, w_fj1, w_disp2, w_get2, w_idxC, w_split, w_par, w_unpL, w_unpV, w_dnew, w_dnewN, w_subD, w_bind, w_noX, w_ok, w_C, w_op2, w_asB, w_op3, w_and, w_or, w_not, w_test, w_bAnd, w_bOr, w_bNot, w_if, w_lif, w_tup, w_lst, w_alloc, w_vL, w_call, w_aNil, w_aCons, w_lCall, w_append, w_nil, w_lnil, w_seq, w_next, w_ret, w_set, w_expr, w_sif, w_sub, w_unp, w_fn1, w_fn2, w_fn3, w_fn4, w_fn5, w_join, w_vSrc, w_aSrc, w_lSrc, w_catLL, w_catOL, w_repL, w_sortV, w_asI, w_slE0, w_slE1, w_sl, q_srcT, q_srcS, q_srcR, q_zipT, q_slT, w_lc, w_forS, Int.toNat_natCast, v_0, v_S, List.replicate_succ, List.replicate_zero, Nat.reduceSub, List.getElem?_cons_zero, List.getElem?_cons_succ, List.set_cons_zero, List.set_cons_succ, if_true, if_false, Bool.false_eq_true, Bool.not_true, Bool.not_false, q_add, q_addT, q_addS, q_sub, q_eq, q_eqS, q_eqB, q_ne, q_neS, q_neB, q_lt, q_ltS, q_le, q_gt, q_ge, q_in1, q_nin1, q_isN, q_isnN, q_isB, q_isnB, q_isiI0, q_isiI1, q_isiI2, q_isiI3, q_isiI4, q_isiI5, q_isiB0, q_isiB1, q_isiB2, q_isiB3, q_isiB4, q_isiB5, q_isiS0, q_isiS1, q_isiS2, q_isiS3, q_isiS4, q_isiS5, q_isiT0, q_isiT1, q_isiT2, q_isiT3, q_isiT4, q_isiT5, q_isiR0, q_isiR1, q_isiR2, q_isiR3, q_isiR4, q_isiR5, q_isiN0, q_isiN1, q_isiN2, q_isiN3, q_isiN4, q_isiN5, q_lenS, q_lenT, q_lenR, q_min2, q_max2, q_strS, q_tupP, ix_0, ix_1, ix_2, ix_3, List.length_cons, List.length_nil, lim_0, lim_1, lim_2, lim_3, lim_4, lim_5, lim_6, lim_7, lim_8, lim_9, lim_10, lim_11, lim_12, lim_13, lim_14, lim_15, lim_16, lim_17, lim_18, lim_19, lim_20, lim_21, lim_22, lim_23, Nat.reduceAdd, Nat.reduceLeDiff]
    obtain ⟨h4, e4, p4, g4⟩ := al h3 _
    rw [← e4]
    try simp only [w_raise, w_try, w_vMS, w_vML, w_fmt, w_js, w_fj0, w_fj1, w_disp2, w_get2, w_idxC, w_split, w_par, w_unpL, w_unpV, w_dnew, w_dnewN, w_subD, w_bind, w_noX, w_ok, w_C, w_op2, w_asB, w_op3, w_and, w_or, w_not, w_test, w_bAnd, w_bOr, w_bNot, w_if, w_lif, w_tup, w_lst, w_alloc, w_vL, w_call, w_aNil, w_aCons, w_lCall, w_append, w_nil, w_lnil, w_seq, w_next, w_ret, w_set, w_expr, w_sif, w_sub, w_unp, w_fn1, w_fn2, w_fn3, w_fn4, w_fn5, w_join, w_vSrc, w_aSrc, w_lSrc, w_catLL, w_catOL, w_repL, w_sortV, w_asI, w_slE0, w_slE1, w_sl, q_srcT, q_srcS, q_srcR, q_zipT, q_slT, w_lc, w_forS, Int.toNat_natCast, v_0, v_S, List.replicate_succ, List.replicate_zero, Nat.reduceSub, List.getElem?_cons_zero, List.getElem?_cons_succ, List.set_cons_zero, List.set_cons_succ, if_true, if_false, Bool.false_eq_true, Bool.not_true, Bool.not_false, q_add, q_addT, q_addS, q_sub, q_eq, q_eqS, q_eqB, q_ne, q_neS, q_neB, q_lt, q_ltS, q_le, q_gt, q_ge, q_in1, q_nin1, q_isN, q_isnN, q_isB, q_isnB, q_isiI0, q_isiI1, q_isiI2, q_isiI3, q_isiI4, q_isiI5, q_isiB0, q_isiB1, q_isiB2, q_isiB3, q_isiB4, q_isiB5, q_isiS0, q_isiS1, q_isiS2, q_isiS3, q_isiS4, q_isiS5, q_isiT0, q_isiT1, q_isiT2, q_isiT3, q_isiT4, q_isiT5, q_isiR0, q_isiR1, q_isiR2, q_isiR3, q_isiR4, q_isiR5, q_isiN0, q_isiN1, q_isiN2, q_isiN3, q_isiN4, q_isiN5, q_lenS, q_lenT, q_lenR, q_min2, q_max2, q_strS, q_tupP, ix_0, ix_1, ix_2, ix_3, List.length_cons, List.length_nil, lim_0, lim_1, lim_2, lim_3, lim_4, lim_5, lim_6, lim_7, lim_8, lim_9, lim_10, lim_11, lim_12, lim_13, lim_14, lim_15, lim_16, lim_17, lim_18, lim_19, lim_20, lim_21, lim_22, lim_23, Nat.reduceAdd, Nat.reduceLeDiff]
    obtain ⟨h5, e5, p5, g5⟩ := al h4 _
    rw [← e5]
    have l24 : (24 ≤ LIM) = True := by simp [LIM]
    have l27 : (27 ≤ LIM) = True := by simp [LIM]
    simp only [w_raise, w_try, w_vMS, w_vML, w_fmt, w_js, w_fj0, w_fj1, w_disp2, w_get2, w_idxC, w_split, w_par, w_unpL, w_unpV, w_dnew, w_dnewN, w_subD, w_bind, w_noX, w_ok, w_C, w_op2, w_asB, w_op3, w_and, w_or, w_not, w_test, w_bAnd, w_bOr, w_bNot, w_if, w_lif, w_tup, w_lst, w_alloc, w_vL, w_call, w_aNil, w_aCons, w_lCall, w_append, w_nil, w_lnil, w_seq, w_next, w_ret, w_set, w_expr, w_sif, w_sub, w_unp, w_fn1, w_fn2, w_fn3, w_fn4, w_fn5, w_join, w_vSrc, w_aSrc, w_lSrc, w_catLL, w_catOL, w_repL, w_sortV, w_asI, w_slE0, w_slE1, w_sl, q_srcT, q_srcS, q_srcR, q_zipT, q_slT, w_lc, w_forS, Int.toNat_natCast, v_0, v_S, List.replicate_succ, List.replicate_zero, Nat.reduceSub, List.getElem?_cons_zero, List.getElem?_cons_succ, List.set_cons_zero, List.set_cons_succ, if_true, if_false, Bool.false_eq_true, Bool.not_true, Bool.not_false, q_add, q_addT, q_addS, q_sub, q_eq, q_eqS, q_eqB, q_ne, q_neS, q_neB, q_lt, q_ltS, q_le, q_gt, q_ge, q_in1, q_nin1, q_isN, q_isnN, q_isB, q_isnB, q_isiI0, q_isiI1, q_isiI2, q_isiI3, q_isiI4, q_isiI5, q_isiB0, q_isiB1, q_isiB2, q_isiB3, q_isiB4, q_isiB5, q_isiS0, q_isiS1, q_isiS2, q_isiS3, q_isiS4, q_isiS5, q_isiT0, q_isiT1, q_isiT2, q_isiT3, q_isiT4, q_isiT5, q_isiR0, q_isiR1, q_isiR2, q_isiR3, q_isiR4, q_isiR5, q_isiN0, q_isiN1, q_isiN2, q_isiN3, q_isiN4, q_isiN5, q_lenS, q_lenT, q_lenR, q_min2, q_max2, q_strS, q_tupP, ix_0, ix_1, ix_2, ix_3, List.length_cons, List.length_nil, lim_0, lim_1, lim_2, lim_3, lim_4, lim_5, lim_6, lim_7, lim_8, lim_9, lim_10, lim_11, lim_12, lim_13, lim_14, lim_15, lim_16, lim_17, lim_18, lim_19, lim_20, lim_21, lim_22, lim_23, Nat.reduceAdd, Nat.reduceLeDiff, lo _ _ _ (p5.get g4), List.cons_append, List.nil_append, l24]
    obtain ⟨h6, e6, p6, g6⟩ := al h5 _
    rw [← e6]
    try simp only [w_raise, w_try, w_vMS, w_vML, w_fmt, w_js, w_fj0, w_fj1, w_disp2, w_get2, w_idxC, w_split, w_par, w_unpL, w_unpV, w_dnew, w_dnewN, w_subD, w_bind, w_noX, w_ok, w_C, w_op2, w_asB, w_op3, w_and, w_or, w_not, w_test, w_bAnd, w_bOr, w_bNot, w_if, w_lif, w_tup, w_lst, w_alloc, w_vL, w_call, w_aNil, w_aCons, w_lCall, w_append, w_nil, w_lnil, w_seq, w_next, w_ret, w_set, w_expr, w_sif, w_sub, w_unp, w_fn1, w_fn2, w_fn3, w_fn4, w_fn5, w_join, w_vSrc, w_aSrc, w_lSrc, w_catLL, w_catOL, w_repL, w_sortV, w_asI, w_slE0, w_slE1, w_sl, q_srcT, q_srcS, q_srcR, q_zipT, q_slT, w_lc, w_forS, Int.toNat_natCast, v_0, v_S, List.replicate_succ, List.replicate_zero, Nat.reduceSub, List.getElem?_cons_zero, List.getElem?_cons_succ, List.set_cons_zero, List.set_cons_succ, if_true, if_false, Bool.false_eq_true, Bool.not_true, Bool.not_false, q_add, q_addT, q_addS, q_sub, q_eq, q_eqS, q_eqB, q_ne, q_neS, q_neB, q_lt, q_ltS, q_le, q_gt, q_ge, q_in1, q_nin1, q_isN, q_isnN, q_isB, q_isnB, q_isiI0, q_isiI1, q_isiI2, q_isiI3, q_isiI4, q_isiI5, q_isiB0, q_isiB1, q_isiB2, q_isiB3, q_isiB4, q_isiB5, q_isiS0, q_isiS1, q_isiS2, q_isiS3, q_isiS4, q_isiS5, q_isiT0, q_isiT1, q_isiT2, q_isiT3, q_isiT4, q_isiT5, q_isiR0, q_isiR1, q_isiR2, q_isiR3, q_isiR4, q_isiR5, q_isiN0, q_isiN1, q_isiN2, q_isiN3, q_isiN4, q_isiN5, q_lenS, q_lenT, q_lenR, q_min2, q_max2, q_strS, q_tupP, ix_0, ix_1, ix_2, ix_3, List.length_cons, List.length_nil, lim_0, lim_1, lim_2, lim_3, lim_4, lim_5, lim_6, lim_7, lim_8, lim_9, lim_10, lim_11, lim_12, lim_13, lim_14, lim_15, lim_16, lim_17, lim_18, lim_19, lim_20, lim_21, lim_22, lim_23, Nat.reduceAdd, Nat.reduceLeDiff]
    rw [add_str (by simp only [List.length_cons, List.length_nil, LIM]; omega), w_ok]
    simp only [w_raise, w_try, w_vMS, w_vML, w_fmt, w_js, w_fj0, w_fj1, w_disp2, w_get2, w_idxC, w_split, w_par, w_unpL, w_unpV, w_dnew, w_dnewN, w_subD, w_bind, w_noX, w_ok, w_C, w_op2, w_asB, w_op3, w_and, w_or, w_not, w_test, w_bAnd, w_bOr, w_bNot, w_if, w_lif, w_tup, w_lst, w_alloc, w_vL, w_call, w_aNil, w_aCons, w_lCall, w_append, w_nil, w_lnil, w_seq, w_next, w_ret, w_set, w_expr, w_sif, w_sub, w_unp, w_fn1, w_fn2, w_fn3, w_fn4, w_fn5, w_join, w_vSrc, w_aSrc, w_lSrc, w_catLL, w_catOL, w_repL, w_sortV, w_asI, w_slE0, w_slE1, w_sl, q_srcT, q_srcS, q_srcR, q_zipT, q_slT, w_lc, w_forS, Int.toNat_natCast, v_0, v_S, List.replicate_succ, List.replicate_zero, Nat.reduceSub, List.getElem?_cons_zero, List.getElem?_cons_succ, List.set_cons_zero, List.set_cons_succ, if_true, if_false, Bool.false_eq_true, Bool.not_true, Bool.not_false, q_add, q_addT, q_addS, q_sub, q_eq, q_eqS, q_eqB, q_ne, q_neS, q_neB, q_lt, q_ltS, q_le, q_gt, q_ge, q_in1, q_nin1, q_isN, q_isnN, q_isB, q_isnB, q_isiI0, q_isiI1, q_isiI2, q_isiI3, q_isiI4, q_isiI5, q_isiB0, q_isiB1, q_isiB2, q_isiB3, q_isiB4, q_isiB5, q_isiS0, q_isiS1, q_isiS2, q_isiS3, q_isiS4, q_isiS5, q_isiT0, q_isiT1, q_isiT2, q_isiT3, q_isiT4, q_isiT5, q_isiR0, q_isiR1, q_isiR2, q_isiR3, q_isiR4, q_isiR5, q_isiN0, q_isiN1, q_isiN2, q_isiN3, q_isiN4, q_isiN5, q_lenS, q_lenT, q_lenR, q_min2, q_max2, q_strS, q_tupP, ix_0, ix_1, ix_2, ix_3, List.length_cons, List.length_nil, lim_0, lim_1, lim_2, lim_3, lim_4, lim_5, lim_6, lim_7, lim_8, lim_9, lim_10, lim_11, lim_12, lim_13, lim_14, lim_15, lim_16, lim_17, lim_18, lim_19, lim_20, lim_21, lim_22, lim_23, Nat.reduceAdd, Nat.reduceLeDiff, lo _ _ _ g6, List.cons_append, List.nil_append, l27]
    obtain ⟨h7, e7, p7, g7⟩ := al h6 _
    rw [← e7]
    try simp only [w_raise, w_try, w_vMS, w_vML, w_fmt, w_js, w_fj0, w_fj1, w_disp2, w_get2, w_idxC, w_split, w_par, w_unpL, w_unpV, w_dnew, w_dnewN, w_subD, w_bind, w_noX, w_ok, w_C, w_op2, w_asB, w_op3, w_and, w_or, w_not, w_test, w_bAnd, w_bOr, w_bNot, w_if, w_lif, w_tup, w_lst, w_alloc, w_vL, w_call, w_aNil, w_aCons, w_lCall, w_append, w_nil, w_lnil, w_seq, w_next, w_ret, w_set, w_expr, w_sif, w_sub, w_unp, w_fn1, w_fn2, w_fn3, w_fn4, w_fn5, w_join, w_vSrc, w_aSrc, w_lSrc, w_catLL, w_catOL, w_repL, w_sortV, w_asI, w_slE0, w_slE1, w_sl, q_srcT, q_srcS, q_srcR, q_zipT, q_slT, w_lc, w_forS, Int.toNat_natCast, v_0, v_S, List.replicate_succ, List.replicate_zero, Nat.reduceSub, List.getElem?_cons_zero, List.getElem?_cons_succ, List.set_cons_zero, List.set_cons_succ, if_true, if_false, Bool.false_eq_true, Bool.not_true, Bool.not_false, q_add, q_addT, q_addS, q_sub, q_eq, q_eqS, q_eqB, q_ne, q_neS, q_neB, q_lt, q_ltS, q_le, q_gt, q_ge, q_in1, q_nin1, q_isN, q_isnN, q_isB, q_isnB, q_isiI0, q_isiI1, q_isiI2, q_isiI3, q_isiI4, q_isiI5, q_isiB0, q_isiB1, q_isiB2, q_isiB3, q_isiB4, q_isiB5, q_isiS0, q_isiS1, q_isiS2, q_isiS3, q_isiS4, q_isiS5, q_isiT0, q_isiT1, q_isiT2, q_isiT3, q_isiT4, q_isiT5, q_isiR0, q_isiR1, q_isiR2, q_isiR3, q_isiR4, q_isiR5, q_isiN0, q_isiN1, q_isiN2, q_isiN3, q_isiN4, q_isiN5, q_lenS, q_lenT, q_lenR, q_min2, q_max2, q_strS, q_tupP, ix_0, ix_1, ix_2, ix_3, List.length_cons, List.length_nil, lim_0, lim_1, lim_2, lim_3, lim_4, lim_5, lim_6, lim_7, lim_8, lim_9, lim_10, lim_11, lim_12, lim_13, lim_14, lim_15, lim_16, lim_17, lim_18, lim_19, lim_20, lim_21, lim_22, lim_23, Nat.reduceAdd, Nat.reduceLeDiff]
    have sz : (Sc.live h6.length).size h7 = 27 := by simp [Sc.size, g7]
    have src : srcOf (.obj h6.length) h7 = .ok (.live h6.length) h7 := by simp [srcOf, g7]
    simp only [src, w_ok, sz]
    rw [if_pos (by simp only [LIM]; omega)]
    have gg : h7[h6.length]? = some (.lst (bads1 ++ bads2 ++ [.tup (fs.map FF.d), .obj h4.length] ++ [.str (formLine fs ++ [32]), .bl true, .str [42, 49, 44, 50]])) := g7
    have bd : ∀ d ∈ bads1 ++ bads2 ++ [.tup (fs.map FF.d), .obj h4.length] ++ [.str (formLine fs ++ [32]), .bl true, .str [42, 49, 44, 50]], Bad h7 d := by
      intro d hd
      simp only [List.mem_append, List.mem_cons, List.not_mem_nil, or_false] at hd
      rcases hd with ((hd | hd) | rfl | rfl) | rfl | rfl | rfl
      · exact bads1_ok d hd
      · exact bads2_ok d hd
      · exact .inr ⟨bas_tup (by simp; omega), rfl⟩
      · refine .inr ⟨⟨⟨4, ?_, by decide⟩, fun s e => (by cases e), fun s e => (by cases e)⟩, rfl⟩
        simp [tyOf, p7.get (p6.get g5)]
      · refine .inl ⟨_, rfl, by simp; omega, fun c hc => ?_, ?_, not_sp⟩
        · rcases List.mem_append.mp hc with hc | hc
          · have := l2 c hc; omega
          · simp at hc; omega
        · rw [List.count_append]
          have : ([32] : Sg).count 42 = 0 := by decide
          omega
      · exact .inr ⟨⟨⟨1, rfl, by decide⟩, fun s e => (by cases e), fun s e => (by cases e)⟩, rfl⟩
      · exact bad_c
    refine (lcGo_live (fun _ => false) (by simp [wipeE]) 28 0 h7 gg (by simp [bads1, bads2]) (by simp) fun x hx h' p' => ?_).imp fun ys h8 q => ?_
    · simp only [wipeE, w_raise, w_try, w_vMS, w_vML, w_fmt, w_js, w_fj0, w_fj1, w_disp2, w_get2, w_idxC, w_split, w_par, w_unpL, w_unpV, w_dnew, w_dnewN, w_subD, w_bind, w_noX, w_ok, w_C, w_op2, w_asB, w_op3, w_and, w_or, w_not, w_test, w_bAnd, w_bOr, w_bNot, w_if, w_lif, w_tup, w_lst, w_alloc, w_vL, w_call, w_aNil, w_aCons, w_lCall, w_append, w_nil, w_lnil, w_seq, w_next, w_ret, w_set, w_expr, w_sif, w_sub, w_unp, w_fn1, w_fn2, w_fn3, w_fn4, w_fn5, w_join, w_vSrc, w_aSrc, w_lSrc, w_catLL, w_catOL, w_repL, w_sortV, w_asI, w_slE0, w_slE1, w_sl, q_srcT, q_srcS, q_srcR, q_zipT, q_slT, w_lc, w_forS, Int.toNat_natCast, v_0, v_S, List.replicate_succ, List.replicate_zero, Nat.reduceSub, List.getElem?_cons_zero, List.getElem?_cons_succ, List.set_cons_zero, List.set_cons_succ, if_true, if_false, Bool.false_eq_true, Bool.not_true, Bool.not_false, q_add, q_addT, q_addS, q_sub, q_eq, q_eqS, q_eqB, q_ne, q_neS, q_neB, q_lt, q_ltS, q_le, q_gt, q_ge, q_in1, q_nin1, q_isN, q_isnN, q_isB, q_isnB, q_isiI0, q_isiI1, q_isiI2, q_isiI3, q_isiI4, q_isiI5, q_isiB0, q_isiB1, q_isiB2, q_isiB3, q_isiB4, q_isiB5, q_isiS0, q_isiS1, q_isiS2, q_isiS3, q_isiS4, q_isiS5, q_isiT0, q_isiT1, q_isiT2, q_isiT3, q_isiT4, q_isiT5, q_isiR0, q_isiR1, q_isiR2, q_isiR3, q_isiR4, q_isiR5, q_isiN0, q_isiN1, q_isiN2, q_isiN3, q_isiN4, q_isiN5, q_lenS, q_lenT, q_lenR, q_min2, q_max2, q_strS, q_tupP, ix_0, ix_1, ix_2, ix_3]
      refine (out_is (k := k + 1) ((bd x hx).grow p')).imp fun v h9 q => ?_
      obtain ⟨p9, rfl⟩ := q
      refine (s_raises (k := k + 8) (3 : Fin 11)).imp fun v h10 q => ?_
      obtain ⟨rfl, p10⟩ := q
      have e3 : rTag ((3 : Fin 11) : Nat) = rTag 3 := rfl
      simp only [e3, ne_same pl_rt, w_raise, w_try, w_vMS, w_vML, w_fmt, w_js, w_fj0, w_fj1, w_disp2, w_get2, w_idxC, w_split, w_par, w_unpL, w_unpV, w_dnew, w_dnewN, w_subD, w_bind, w_noX, w_ok, w_C, w_op2, w_asB, w_op3, w_and, w_or, w_not, w_test, w_bAnd, w_bOr, w_bNot, w_if, w_lif, w_tup, w_lst, w_alloc, w_vL, w_call, w_aNil, w_aCons, w_lCall, w_append, w_nil, w_lnil, w_seq, w_next, w_ret, w_set, w_expr, w_sif, w_sub, w_unp, w_fn1, w_fn2, w_fn3, w_fn4, w_fn5, w_join, w_vSrc, w_aSrc, w_lSrc, w_catLL, w_catOL, w_repL, w_sortV, w_asI, w_slE0, w_slE1, w_sl, q_srcT, q_srcS, q_srcR, q_zipT, q_slT, w_lc, w_forS, Int.toNat_natCast, v_0, v_S, List.replicate_succ, List.replicate_zero, Nat.reduceSub, List.getElem?_cons_zero, List.getElem?_cons_succ, List.set_cons_zero, List.set_cons_succ, if_true, if_false, Bool.false_eq_true, Bool.not_true, Bool.not_false, q_add, q_addT, q_addS, q_sub, q_eq, q_eqS, q_eqB, q_ne, q_neS, q_neB, q_lt, q_ltS, q_le, q_gt, q_ge, q_in1, q_nin1, q_isN, q_isnN, q_isB, q_isnB, q_isiI0, q_isiI1, q_isiI2, q_isiI3, q_isiI4, q_isiI5, q_isiB0, q_isiB1, q_isiB2, q_isiB3, q_isiB4, q_isiB5, q_isiS0, q_isiS1, q_isiS2, q_isiS3, q_isiS4, q_isiS5, q_isiT0, q_isiT1, q_isiT2, q_isiT3, q_isiT4, q_isiT5, q_isiR0, q_isiR1, q_isiR2, q_isiR3, q_isiR4, q_isiR5, q_isiN0, q_isiN1, q_isiN2, q_isiN3, q_isiN4, q_isiN5, q_lenS, q_lenT, q_lenR, q_min2, q_max2, q_strS, q_tupP, ix_0, ix_1, ix_2, ix_3]
      exact ⟨trivial, p9.trans p10⟩
    · obtain ⟨rfl, p8⟩ := q
      have ff : (List.filter (fun _ => false) (List.drop 0 (bads1 ++ bads2 ++ [.tup (fs.map FF.d), .obj h4.length] ++ [.str (formLine fs ++ [32]), .bl true, .str [42, 49, 44, 50]]))) = [] := by simp
      simp only [ff, List.isEmpty_nil, w_raise, w_try, w_vMS, w_vML, w_fmt, w_js, w_fj0, w_fj1, w_disp2, w_get2, w_idxC, w_split, w_par, w_unpL, w_unpV, w_dnew, w_dnewN, w_subD, w_bind, w_noX, w_ok, w_C, w_op2, w_asB, w_op3, w_and, w_or, w_not, w_test, w_bAnd, w_bOr, w_bNot, w_if, w_lif, w_tup, w_lst, w_alloc, w_vL, w_call, w_aNil, w_aCons, w_lCall, w_append, w_nil, w_lnil, w_seq, w_next, w_ret, w_set, w_expr, w_sif, w_sub, w_unp, w_fn1, w_fn2, w_fn3, w_fn4, w_fn5, w_join, w_vSrc, w_aSrc, w_lSrc, w_catLL, w_catOL, w_repL, w_sortV, w_asI, w_slE0, w_slE1, w_sl, q_srcT, q_srcS, q_srcR, q_zipT, q_slT, w_lc, w_forS, Int.toNat_natCast, v_0, v_S, List.replicate_succ, List.replicate_zero, Nat.reduceSub, List.getElem?_cons_zero, List.getElem?_cons_succ, List.set_cons_zero, List.set_cons_succ, if_true, if_false, Bool.false_eq_true, Bool.not_true, Bool.not_false, q_add, q_addT, q_addS, q_sub, q_eq, q_eqS, q_eqB, q_ne, q_neS, q_neB, q_lt, q_ltS, q_le, q_gt, q_ge, q_in1, q_nin1, q_isN, q_isnN, q_isB, q_isnB, q_isiI0, q_isiI1, q_isiI2, q_isiI3, q_isiI4, q_isiI5, q_isiB0, q_isiB1, q_isiB2, q_isiB3, q_isiB4, q_isiB5, q_isiS0, q_isiS1, q_isiS2, q_isiS3, q_isiS4, q_isiS5, q_isiT0, q_isiT1, q_isiT2, q_isiT3, q_isiT4, q_isiT5, q_isiR0, q_isiR1, q_isiR2, q_isiR3, q_isiR4, q_isiR5, q_isiN0, q_isiN1, q_isiN2, q_isiN3, q_isiN4, q_isiN5, q_lenS, q_lenT, q_lenR, q_min2, q_max2, q_strS, q_tupP, ix_0, ix_1, ix_2, ix_3, List.length_cons, List.length_nil, lim_0, lim_1, lim_2, lim_3, lim_4, lim_5, lim_6, lim_7, lim_8, lim_9, lim_10, lim_11, lim_12, lim_13, lim_14, lim_15, lim_16, lim_17, lim_18, lim_19, lim_20, lim_21, lim_22, lim_23, Nat.reduceAdd, Nat.reduceLeDiff]
      refine (out_text (k := k + 1) (by decide) (by decide) (by decide)).imp fun v h9 q => ?_
      rcases q.2 with ⟨_, rfl⟩ | ⟨z, _⟩
      · have := (not_read last_ok last_line).1
        rw [this]
        have e5 : (D.tup (lastF.map FF.d)) = .tup [.tup [.str [114, 101, 112, 101, 97, 116], .tup [.str [99, 104, 111, 105, 99, 101], .tup [.str [97], .str [98, 99]]], .int 0, .int 3], .tup [.str [108, 101, 116, 116, 101, 114, 115], .int 0, .int 4]] := rfl
        rw [e5, eq_same (by decide), w_ok]
      · exact absurd ⟨lastF, last_ok, last_line⟩ z
theorem law_holds (ns : List Int) (hn : ns.length ≤ 63) : ∃ h, run 100 I_law [.rol (ns.map .int)] [] = .ok (.bl true) h := by
  obtain ⟨v, h, e, rfl⟩ := (law_run (k := 90) hn).ex
  exact ⟨h, e⟩
end FT
end
section
set_option maxRecDepth 100000
namespace FT
open PySem L2
set_option autoImplicit false
def topS (i : Nat) : Stmt := PySem.Challenge.pw_fieldtexts_k72_whole_notation.main.body.getD i (.Pass ⟨0, 0, 0, 0⟩)
/-- what the top has left -/
structure Txt (K : PySem.W.Frag) (mg : Str → Option Value) : Prop where
  b_ValueError : mg "ValueError" = none
  b_all : mg "all" = none
  b_bool : mg "bool" = none
  b_int : mg "int" = none
  b_isinstance : mg "isinstance" = none
  b_len : mg "len" = none
  b_list : mg "list" = none
  b_max : mg "max" = none
  b_min : mg "min" = none
  b_range : mg "range" = none
  b_set : mg "set" = none
  b_sorted : mg "sorted" = none
  b_str : mg "str" = none
  b_tuple : mg "tuple" = none
  c_DIGITS_notation : GTup K mg "DIGITS_notation" [[48], [49], [50], [51], [52]]
  c_SIGNS : ∃ t, mg "SIGNS" = some (.str "-.0123456789:abcdef" t)
  g_Doubtful : ∃ a, mg "Doubtful" = some (.ref a)
  g_InvalidField : ∃ a, mg "InvalidField" = some (.ref a)
  g_InvalidFormat : ∃ a, mg "InvalidFormat" = some (.ref a)
  g_InvalidNumber : ∃ a, mg "InvalidNumber" = some (.ref a)
  g_InvalidPlaces : ∃ a, mg "InvalidPlaces" = some (.ref a)
  g_InvalidRecord : ∃ a, mg "InvalidRecord" = some (.ref a)
  g_InvalidText : ∃ a, mg "InvalidText" = some (.ref a)
  g_LastField : ∃ a, mg "LastField" = some (.ref a)
  g_NoReading : ∃ a, mg "NoReading" = some (.ref a)
  g_NothingToUndo : ∃ a, mg "NothingToUndo" = some (.ref a)
  g_TooMany : ∃ a, mg "TooMany" = some (.ref a)
  x_InvalidFormat : ∃ C, ExF K mg "InvalidFormat" C
  x_InvalidText : ∃ C, ExF K mg "InvalidText" C
  e_exc : (∃ F, mg "FieldError" = some (.ref F) ∧ ∀ c ∈ raisedL, ∀ C, mg c = some (.ref C) → PySem.W.exmOne K (.ref C) (.ref F) = some true) ∧ ExI K mg raisedL subsL
/-- every def keeps its mirror's promise, at the level k -/
structure Al (P : Program) (w : World) (K : PySem.W.Frag) (mg : Str → Option Value) (base : Heap) (r : Nat → List D → MH → R D) (k : Nat) : Prop where
  c_is_between : Cal P w K mg base k "is_between" 3 (r I_is_between)
  c_is_text : Cal P w K mg base k "is_text" 3 (r I_is_text)
  c_is_span : Cal P w K mg base k "is_span" 4 (r I_is_span)
  c_is_simple : Cal P w K mg base k "is_simple" 1 (r I_is_simple)
  c_is_field : Cal P w K mg base k "is_field" 1 (r I_is_field)
  c_is_format : Cal P w K mg base k "is_format" 1 (r I_is_format)
  c_check_format : Cal P w K mg base k "check_format" 1 (r I_check_format)
  c_field_text : Cal P w K mg base k "field_text" 1 (r I_field_text)
  c_form_text : Cal P w K mg base k "form_text" 1 (r I_form_text)
  c_notation : Cal P w K mg base k "notation" 1 (r I_notation)
  c_number_of : Cal P w K mg base k "number_of" 1 (r I_number_of)
  c_numbers_in : Cal P w K mg base k "numbers_in" 1 (r I_numbers_in)
  c_read_field : Cal P w K mg base k "read_field" 1 (r I_read_field)
  c_format_from : Cal P w K mg base k "format_from" 1 (r I_format_from)
  c__law_town : Cal P w K mg base k "_law_town" 1 (r I__law_town)
  c__law_draw : Cal P w K mg base k "_law_draw" 3 (r I__law_draw)
  c__law_pick : Cal P w K mg base k "_law_pick" 3 (r I__law_pick)
  c__law_outcome : Cal P w K mg base k "_law_outcome" 2 (r I__law_outcome)
  c__law_name : Cal P w K mg base k "_law_name" 1 (r I__law_name)
  c__law_raises : Cal P w K mg base k "_law_raises" 1 (r I__law_raises)
  c__law_signs : Cal P w K mg base k "_law_signs" 4 (r I__law_signs)
  c__law_simple : Cal P w K mg base k "_law_simple" 3 (r I__law_simple)
  c__law_field : Cal P w K mg base k "_law_field" 3 (r I__law_field)
  c__law_form : Cal P w K mg base k "_law_form" 4 (r I__law_form)
  c__law_call : Cal P w K mg base k "_law_call" 2 (r I__law_call)
  c__law_line : Cal P w K mg base k "_law_line" 1 (r I__law_line)
  c__law_number : Cal P w K mg base k "_law_number" 1 (r I__law_number)
  c__law_part : Cal P w K mg base k "_law_part" 1 (r I__law_part)
  c_law : Cal P w K mg base k "law" 1 (r I_law)
end FT
end
section
set_option maxRecDepth 100000
set_option maxHeartbeats 2000000
namespace FT
open PySem L2
set_option autoImplicit false
variable {P : Program} {w : World} {K : PySem.W.Frag} {mg : Str → Option Value} {base : Heap}
abbrev N__law_call : List Str := ["way", "arguments"]
theorem sc__law_call : FnScope N__law_call ["way", "arguments"] (defScope (topS 44)) := ⟨rfl, rfl, rfl, by decide +kernel, rfl, by decide +kernel, by decide +kernel⟩
theorem d__law_call {k : Nat} {f : Addr} {fd : FuncData} (T : Txt K mg) (G : Al P w K mg base (run k) k) (F : Fun K "_law_call" "_law_call" (topS 44) f fd) : FnOk P w K mg base (L2.CX P w) (k + 1) f fd ["way", "arguments"] (spM w K mg 2 (m__law_call (run k))) := by
  have sc := sc__law_call
  refine fn_ok F sc rfl rfl fun cdv A outer s H Ex hr => ?_
  have tk := takes_of (X := cxOf (L2.CX P w) P w K mg base N__law_call "_law_call" (defScope (topS 44)) f cdv A outer s H Ex) rfl rfl rfl rfl
  exact (mss_one (ms_ret (me_call G.c_format_from hr (by rfl) tk (ma_cons (me_var 1) ma_nil))))
end FT
end
section
set_option maxRecDepth 100000
set_option maxHeartbeats 2000000
namespace FT
open PySem L2
set_option autoImplicit false
variable {P : Program} {w : World} {K : PySem.W.Frag} {mg : Str → Option Value} {base : Heap}
abbrev N__law_draw : List Str := ["script", "town", "limit", "at", "left", "number"]
theorem sc__law_draw : FnScope N__law_draw ["script", "town", "limit"] (defScope (topS 35)) := ⟨rfl, rfl, rfl, by decide +kernel, rfl, by decide +kernel, by decide +kernel⟩
theorem d__law_draw {k : Nat} {f : Addr} {fd : FuncData} (T : Txt K mg) (G : Al P w K mg base (run k) k) (F : Fun K "_law_draw" "_law_draw" (topS 35) f fd) : FnOk P w K mg base (L2.CX P w) (k + 1) f fd ["script", "town", "limit"] (spM w K mg 3 (m__law_draw (run k))) := by
  have sc := sc__law_draw
  refine fn_ok F sc rfl rfl fun cdv A outer s H Ex hr => ?_
  have tk := takes_of (X := cxOf (L2.CX P w) P w K mg base N__law_draw "_law_draw" (defScope (topS 35)) f cdv A outer s H Ex) rfl rfl rfl rfl
  exact (mss_cons (ms_sub (me_op p_add (me_ix (me_var 1) me_int) me_int) (me_var 1) me_int)
    (mss_cons (ms_if (mt_eqNil (hu64 hr) (me_var 0))
    (mss_one (ms_ret (me_op p_mod (me_op p_fdiv (me_op p_mul (me_op p_mul (me_ix (me_var 1) me_int) (me_ix (me_var 1) me_int)) me_int) me_int) (me_var 2))))
    mss_nil)
    (mss_cons (ms_set (i := 3) sc.nd rfl (by first | exact Or.inl rfl | exact Or.inr rfl) (me_op p_mod (me_ix (me_var 1) me_int) (me_callB call_lenM v_len (by rfl) T.b_len (by decide +kernel) (ma_cons (me_var 0) ma_nil))))
    (mss_cons (ms_set (i := 4) sc.nd rfl (by first | exact Or.inl rfl | exact Or.inr rfl) (me_ix (me_var 1) (me_op p_add me_int (me_var 3))))
    (mss_cons (ms_if (mt_w (mw_and (mt_cmp p_ge (me_ix (me_var 0) (me_var 3)) (me_op p_pow me_int me_int)) (mw_and1 (mt_cmp p_gt (me_var 4) me_int))))
    (mss_cons (ms_sub (me_op p_fdiv (me_var 4) (me_var 2)) (me_var 1) (me_op p_add me_int (me_var 3)))
    (mss_one (ms_ret (me_op p_mod (me_var 4) (me_var 2)))))
    mss_nil)
    (mss_cons (ms_set (i := 5) sc.nd rfl (by first | exact Or.inl rfl | exact Or.inr rfl) (me_op p_mod (me_op p_add (me_ix (me_var 0) (me_var 3)) (me_op p_mul me_int (me_ix (me_var 1) me_int))) me_int))
    (mss_cons (ms_set (i := 5) sc.nd rfl (by first | exact Or.inl rfl | exact Or.inr rfl) (me_op p_mod (me_op p_pow (me_var 5) me_int) me_int))
    (mss_one (ms_ret (me_op p_mod (me_op p_fdiv (me_op p_mod (me_op p_add (me_op p_mul (me_op p_fdiv (me_var 5) me_int) me_int) (me_var 5)) me_int) me_int) (me_var 2)))))))))))
end FT
end
section
set_option maxRecDepth 100000
set_option maxHeartbeats 2000000
namespace FT
open PySem L2
set_option autoImplicit false
variable {P : Program} {w : World} {K : PySem.W.Frag} {mg : Str → Option Value} {base : Heap}
abbrev N__law_field : List Str := ["script", "town", "most", "field", "low"]
theorem sc__law_field : FnScope N__law_field ["script", "town", "most"] (defScope (topS 42)) := ⟨rfl, rfl, rfl, by decide +kernel, rfl, by decide +kernel, by decide +kernel⟩
theorem d__law_field {k : Nat} {f : Addr} {fd : FuncData} (T : Txt K mg) (G : Al P w K mg base (run k) k) (F : Fun K "_law_field" "_law_field" (topS 42) f fd) : FnOk P w K mg base (L2.CX P w) (k + 1) f fd ["script", "town", "most"] (spM w K mg 3 (m__law_field (run k))) := by
  have sc := sc__law_field
  refine fn_ok F sc rfl rfl fun cdv A outer s H Ex hr => ?_
  have tk := takes_of (X := cxOf (L2.CX P w) P w K mg base N__law_field "_law_field" (defScope (topS 42)) f cdv A outer s H Ex) rfl rfl rfl rfl
  exact (mss_cons (ms_set (i := 3) sc.nd rfl (by first | exact Or.inl rfl | exact Or.inr rfl) (me_call G.c__law_simple hr (by rfl) tk (ma_cons (me_var 0) (ma_cons (me_var 1) (ma_cons (me_var 2) ma_nil)))))
    (mss_cons (ms_if (mt_cmp p_gt (me_call G.c__law_draw hr (by rfl) tk (ma_cons (me_var 0) (ma_cons (me_var 1) (ma_cons me_int ma_nil)))) me_int)
    (mss_one (ms_ret (me_var 3)))
    mss_nil)
    (mss_cons (ms_set (i := 4) sc.nd rfl (by first | exact Or.inl rfl | exact Or.inr rfl) (me_call G.c__law_draw hr (by rfl) tk (ma_cons (me_var 0) (ma_cons (me_var 1) (ma_cons me_int ma_nil)))))
    (mss_one (ms_ret (me_tup (ma_cons me_str (ma_cons (me_var 3) (ma_cons (me_var 4) (ma_cons (me_callB (call_max2 rfl) v_max2 (by rfl) T.b_max (by decide +kernel) (ma_cons me_int (ma_cons (me_op p_add (me_var 4) (me_call G.c__law_draw hr (by rfl) tk (ma_cons (me_var 0) (ma_cons (me_var 1) (ma_cons me_int ma_nil))))) ma_nil))) ma_nil))))))))))
end FT
end
section
set_option maxRecDepth 100000
set_option maxHeartbeats 2000000
namespace FT
open PySem L2
set_option autoImplicit false
variable {P : Program} {w : World} {K : PySem.W.Frag} {mg : Str → Option Value} {base : Heap}
abbrev N__law_form : List Str := ["script", "town", "fields", "most", "k"]
theorem sc__law_form : FnScope N__law_form ["script", "town", "fields", "most"] (defScope (topS 43)) := ⟨rfl, rfl, rfl, by decide +kernel, rfl, by decide +kernel, by decide +kernel⟩
theorem d__law_form {k : Nat} {f : Addr} {fd : FuncData} (T : Txt K mg) (G : Al P w K mg base (run k) k) (F : Fun K "_law_form" "_law_form" (topS 43) f fd) : FnOk P w K mg base (L2.CX P w) (k + 1) f fd ["script", "town", "fields", "most"] (spM w K mg 4 (m__law_form (run k))) := by
  have sc := sc__law_form
  refine fn_ok F sc rfl rfl fun cdv A outer s H Ex hr => ?_
  have tk := takes_of (X := cxOf (L2.CX P w) P w K mg base N__law_form "_law_form" (defScope (topS 43)) f cdv A outer s H Ex) rfl rfl rfl rfl
  exact (mss_one (ms_ret (me_callTyL call_tuple_of l_tup (by rfl) T.b_tuple (by decide +kernel) (ml_lc (own' := [("k", 4)]) rfl sc.nd (mi_range1 (by rfl) T.b_range (ma_cons (me_op p_add me_int (me_call G.c__law_draw hr (by rfl) tk (ma_cons (me_var 0) (ma_cons (me_var 1) (ma_cons (me_var 2) ma_nil))))) ma_nil)) (blkOk_by (N := N__law_form) (sc := defScope (topS 43)) (by decide +kernel)) (by decide) (fun _ _ _ _ _ => (mg_name (i := 4) sc.nd rfl (by first | exact Or.inl rfl | exact Or.inr rfl))) (fun _ _ _ _ _ => mts_nil) (fun _ _ _ _ _ => (me_call G.c__law_field hr (by rfl) takes0 (ma_cons (me_var 0) (ma_cons (me_var 1) (ma_cons (me_var 3) ma_nil)))))))))
end FT
end
section
set_option maxRecDepth 100000
set_option maxHeartbeats 2000000
namespace FT
open PySem L2
set_option autoImplicit false
variable {P : Program} {w : World} {K : PySem.W.Frag} {mg : Str → Option Value} {base : Heap}
abbrev N__law_line : List Str := ["field", "text"]
theorem sc__law_line : FnScope N__law_line ["field"] (defScope (topS 45)) := ⟨rfl, rfl, rfl, by decide +kernel, rfl, by decide +kernel, by decide +kernel⟩
theorem d__law_line {k : Nat} {f : Addr} {fd : FuncData} (T : Txt K mg) (G : Al P w K mg base (run k) k) (F : Fun K "_law_line" "_law_line" (topS 45) f fd) : FnOk P w K mg base (L2.CX P w) (k + 1) f fd ["field"] (spM w K mg 1 (m__law_line (run k))) := by
  have sc := sc__law_line
  refine fn_ok F sc rfl rfl fun cdv A outer s H Ex hr => ?_
  have tk := takes_of (X := cxOf (L2.CX P w) P w K mg base N__law_line "_law_line" (defScope (topS 45)) f cdv A outer s H Ex) rfl rfl rfl rfl
  exact (mss_cons (ms_if (mt_cmp (p_eq (hu64 hr)) (me_ix (me_var 0) me_int) me_str)
    (mss_one (ms_ret (me_op p_add (me_op p_add (me_op p_add (me_op p_add (me_call G.c__law_line hr (by rfl) tk (ma_cons (me_ix (me_var 0) me_int) ma_nil)) me_str) (me_callTy call_strM v_str (by rfl) T.b_str (by decide +kernel) (ma_cons (me_ix (me_var 0) me_int) ma_nil))) me_str) (me_callTy call_strM v_str (by rfl) T.b_str (by decide +kernel) (ma_cons (me_ix (me_var 0) me_int) ma_nil)))))
    mss_nil)
    (mss_cons (ms_if (mt_cmp (p_eq (hu64 hr)) (me_ix (me_var 0) me_int) me_str)
    (mss_one (ms_ret (me_op p_add me_str (me_ix (me_var 0) me_int))))
    mss_nil)
    (mss_cons (ms_if (mt_cmp (p_eq (hu64 hr)) (me_ix (me_var 0) me_int) me_str)
    (mss_one (ms_ret (me_join me_str (ml_lc (own' := [("text", 1)]) rfl sc.nd (mi_val (me_ix (me_var 0) me_int)) (blkOk_by (N := N__law_line) (sc := defScope (topS 45)) (by decide +kernel)) (by decide) (fun _ _ _ _ _ => (mg_name (i := 1) sc.nd rfl (by first | exact Or.inl rfl | exact Or.inr rfl))) (fun _ _ _ _ _ => mts_nil) (fun _ _ _ _ _ => (me_op p_add me_str (me_var 1)))))))
    mss_nil)
    (mss_cons (ms_if (mt_cmp (p_eq (hu64 hr)) (me_ix (me_var 0) me_int) me_str)
    (mss_one (ms_ret (me_op p_add me_str (me_callTy call_strM v_str (by rfl) T.b_str (by decide +kernel) (ma_cons (me_ix (me_var 0) me_int) ma_nil)))))
    mss_nil)
    (mss_one (ms_ret (me_op p_add (me_op p_add (me_op p_add (me_ix (me_ix (me_var 0) me_int) me_int) (me_callTy call_strM v_str (by rfl) T.b_str (by decide +kernel) (ma_cons (me_ix (me_var 0) me_int) ma_nil))) me_str) (me_callTy call_strM v_str (by rfl) T.b_str (by decide +kernel) (ma_cons (me_ix (me_var 0) me_int) ma_nil)))))))))
end FT
end
section
set_option maxRecDepth 100000
set_option maxHeartbeats 2000000
namespace FT
open PySem L2
set_option autoImplicit false
variable {P : Program} {w : World} {K : PySem.W.Frag} {mg : Str → Option Value} {base : Heap}
abbrev N__law_name : List Str := ["caught", "found"]
theorem sc__law_name : FnScope N__law_name ["caught"] (defScope (topS 38)) := ⟨rfl, rfl, rfl, by decide +kernel, rfl, by decide +kernel, by decide +kernel⟩
theorem d__law_name {k : Nat} {f : Addr} {fd : FuncData} (T : Txt K mg) (G : Al P w K mg base (run k) k) (F : Fun K "_law_name" "_law_name" (topS 38) f fd) : FnOk P w K mg base (L2.CX P w) (k + 1) f fd ["caught"] (spM w K mg 1 (m__law_name (run k))) := by
  have sc := sc__law_name
  refine fn_ok F sc rfl rfl fun cdv A outer s H Ex hr => ?_
  have tk := takes_of (X := cxOf (L2.CX P w) P w K mg base N__law_name "_law_name" (defScope (topS 38)) f cdv A outer s H Ex) rfl rfl rfl rfl
  exact (mss_cons (ms_if (mt_not (mt_val (me_callB call_isX (v_isiE T.e_exc.2) (by rfl) T.b_isinstance (by decide +kernel) (ma_cons (me_var 0) (ma_cons (me_ty 7 (by rfl) T.b_ValueError (by decide +kernel)) ma_nil)))))
    (mss_one (ms_ret me_negC))
    mss_nil)
    (mss_cons (ms_set (i := 1) sc.nd rfl (by first | exact Or.inl rfl | exact Or.inr rfl) (me_alloc (ml_lst (ma_cons (me_callB call_isX (v_isiE T.e_exc.2) (by rfl) T.b_isinstance (by decide +kernel) (ma_cons (me_var 0) (ma_cons (me_gfn (by rfl) T.g_InvalidFormat) ma_nil))) (ma_cons (me_callB call_isX (v_isiE T.e_exc.2) (by rfl) T.b_isinstance (by decide +kernel) (ma_cons (me_var 0) (ma_cons (me_gfn (by rfl) T.g_InvalidField) ma_nil))) ma_nil)))))
    (mss_cons (ms_set (i := 1) sc.nd rfl (by first | exact Or.inl rfl | exact Or.inr rfl) (me_alloc (ml_catOL (me_var 1) (ml_lst (ma_cons (me_callB call_isX (v_isiE T.e_exc.2) (by rfl) T.b_isinstance (by decide +kernel) (ma_cons (me_var 0) (ma_cons (me_gfn (by rfl) T.g_InvalidRecord) ma_nil))) (ma_cons (me_callB call_isX (v_isiE T.e_exc.2) (by rfl) T.b_isinstance (by decide +kernel) (ma_cons (me_var 0) (ma_cons (me_gfn (by rfl) T.g_InvalidText) ma_nil))) ma_nil))))))
    (mss_cons (ms_set (i := 1) sc.nd rfl (by first | exact Or.inl rfl | exact Or.inr rfl) (me_alloc (ml_catOL (me_var 1) (ml_lst (ma_cons (me_callB call_isX (v_isiE T.e_exc.2) (by rfl) T.b_isinstance (by decide +kernel) (ma_cons (me_var 0) (ma_cons (me_gfn (by rfl) T.g_InvalidNumber) ma_nil))) (ma_cons (me_callB call_isX (v_isiE T.e_exc.2) (by rfl) T.b_isinstance (by decide +kernel) (ma_cons (me_var 0) (ma_cons (me_gfn (by rfl) T.g_InvalidPlaces) ma_nil))) ma_nil))))))
    (mss_cons (ms_set (i := 1) sc.nd rfl (by first | exact Or.inl rfl | exact Or.inr rfl) (me_alloc (ml_catOL (me_var 1) (ml_lst (ma_cons (me_callB call_isX (v_isiE T.e_exc.2) (by rfl) T.b_isinstance (by decide +kernel) (ma_cons (me_var 0) (ma_cons (me_gfn (by rfl) T.g_NoReading) ma_nil))) (ma_cons (me_callB call_isX (v_isiE T.e_exc.2) (by rfl) T.b_isinstance (by decide +kernel) (ma_cons (me_var 0) (ma_cons (me_gfn (by rfl) T.g_Doubtful) ma_nil))) ma_nil))))))
    (mss_cons (ms_set (i := 1) sc.nd rfl (by first | exact Or.inl rfl | exact Or.inr rfl) (me_alloc (ml_catOL (me_var 1) (ml_lst (ma_cons (me_callB call_isX (v_isiE T.e_exc.2) (by rfl) T.b_isinstance (by decide +kernel) (ma_cons (me_var 0) (ma_cons (me_gfn (by rfl) T.g_TooMany) ma_nil))) (ma_cons (me_callB call_isX (v_isiE T.e_exc.2) (by rfl) T.b_isinstance (by decide +kernel) (ma_cons (me_var 0) (ma_cons (me_gfn (by rfl) T.g_LastField) ma_nil))) ma_nil))))))
    (mss_cons (ms_set (i := 1) sc.nd rfl (by first | exact Or.inl rfl | exact Or.inr rfl) (me_alloc (ml_catOL (me_var 1) (ml_lst (ma_cons (me_callB call_isX (v_isiE T.e_exc.2) (by rfl) T.b_isinstance (by decide +kernel) (ma_cons (me_var 0) (ma_cons (me_gfn (by rfl) T.g_NothingToUndo) ma_nil))) ma_nil)))))
    (mss_one (ms_ret (me_if (mt_cmp (p_eq (hu64 hr)) (me_countL (hu65 hr) (me_var 1) me_bl) me_int) (me_indexL (hu65 hr) (me_var 1) me_bl) me_negC))))))))))
end FT
end
section
set_option maxRecDepth 100000
set_option maxHeartbeats 2000000
namespace FT
open PySem L2
set_option autoImplicit false
variable {P : Program} {w : World} {K : PySem.W.Frag} {mg : Str → Option Value} {base : Heap}
abbrev N__law_number : List Str := ["text"]
theorem sc__law_number : FnScope N__law_number ["text"] (defScope (topS 46)) := ⟨rfl, rfl, rfl, by decide +kernel, rfl, by decide +kernel, by decide +kernel⟩
theorem d__law_number {k : Nat} {f : Addr} {fd : FuncData} (T : Txt K mg) (G : Al P w K mg base (run k) k) (F : Fun K "_law_number" "_law_number" (topS 46) f fd) : FnOk P w K mg base (L2.CX P w) (k + 1) f fd ["text"] (spM w K mg 1 (m__law_number (run k))) := by
  have sc := sc__law_number
  refine fn_ok F sc rfl rfl fun cdv A outer s H Ex hr => ?_
  have tk := takes_of (X := cxOf (L2.CX P w) P w K mg base N__law_number "_law_number" (defScope (topS 46)) f cdv A outer s H Ex) rfl rfl rfl rfl
  exact (mss_one (ms_ret (me_if (mt_cmp (p_in (hu65 hr)) (me_var 0) (me_tup (ma_cons me_str (ma_cons me_str (ma_cons me_str (ma_cons me_str (ma_cons me_str ma_nil))))))) (me_callTy call_intM v_int (by rfl) T.b_int (by decide +kernel) (ma_cons (me_var 0) ma_nil)) me_negC)))
end FT
end
section
set_option maxRecDepth 100000
set_option maxHeartbeats 2000000
namespace FT
open PySem L2
set_option autoImplicit false
variable {P : Program} {w : World} {K : PySem.W.Frag} {mg : Str → Option Value} {base : Heap}
abbrev N__law_outcome : List Str := ["way", "arguments", "caught", "result", "error"]
theorem sc__law_outcome : FnScope N__law_outcome ["way", "arguments"] (defScope (topS 37)) := ⟨rfl, rfl, rfl, by decide +kernel, rfl, by decide +kernel, by decide +kernel⟩
theorem d__law_outcome {k : Nat} {f : Addr} {fd : FuncData} (T : Txt K mg) (G : Al P w K mg base (run k) k) (F : Fun K "_law_outcome" "_law_outcome" (topS 37) f fd) : FnOk P w K mg base (L2.CX P w) (k + 1) f fd ["way", "arguments"] (spM w K mg 2 (m__law_outcome (run k))) := by
  have sc := sc__law_outcome
  refine fn_ok F sc rfl rfl fun cdv A outer s H Ex hr => ?_
  have tk := takes_of (X := cxOf (L2.CX P w) P w K mg base N__law_outcome "_law_outcome" (defScope (topS 37)) f cdv A outer s H Ex) rfl rfl rfl rfl
  exact (mss_cons (ms_set (i := 2) sc.nd rfl (by first | exact Or.inl rfl | exact Or.inr rfl) me_non)
    (mss_cons (ms_set (i := 3) sc.nd rfl (by first | exact Or.inl rfl | exact Or.inr rfl) me_non)
    (mss_cons (ms_try (i := 4) (cls := raisedL) rfl rfl sc.nd rfl rfl ⟨by rfl, by decide, .inl T.e_exc.1.choose_spec.1⟩ T.e_exc.1.choose_spec.2
    (fun W pn xe tk => (mss_one (ms_set (i := 3) sc.nd rfl (by first | exact Or.inl rfl | exact Or.inr rfl) (me_call G.c__law_call hr (by rfl) tk (ma_cons (me_var 0) (ma_cons (me_var 1) ma_nil))))))
    (fun a pn => (mss_one (ms_set (i := 2) sc.nd rfl (by first | exact Or.inl rfl | exact Or.inr rfl) (me_var 4)))))
    (mss_cons (ms_if (mt_cmp p_is (me_var 2) me_non)
    (mss_one (ms_ret (me_tup (ma_cons me_str (ma_cons (me_var 3) ma_nil)))))
    mss_nil)
    (mss_one (ms_ret (me_tup (ma_cons me_str (ma_cons (me_call G.c__law_name hr (by rfl) tk (ma_cons (me_var 2) ma_nil)) ma_nil)))))))))
end FT
end
section
set_option maxRecDepth 100000
set_option maxHeartbeats 2000000
namespace FT
open PySem L2
set_option autoImplicit false
variable {P : Program} {w : World} {K : PySem.W.Frag} {mg : Str → Option Value} {base : Heap}
abbrev N__law_part : List Str := ["text", "front", "back", "name", "part"]
theorem sc__law_part : FnScope N__law_part ["text"] (defScope (topS 47)) := ⟨rfl, rfl, rfl, by decide +kernel, rfl, by decide +kernel, by decide +kernel⟩
theorem d__law_part {k : Nat} {f : Addr} {fd : FuncData} (T : Txt K mg) (G : Al P w K mg base (run k) k) (F : Fun K "_law_part" "_law_part" (topS 47) f fd) : FnOk P w K mg base (L2.CX P w) (k + 1) f fd ["text"] (spM w K mg 1 (m__law_part (run k))) := by
  have sc := sc__law_part
  refine fn_ok F sc rfl rfl fun cdv A outer s H Ex hr => ?_
  have tk := takes_of (X := cxOf (L2.CX P w) P w K mg base N__law_part "_law_part" (defScope (topS 47)) f cdv A outer s H Ex) rfl rfl rfl rfl
  exact (mss_cons (ms_if (mt_cmp (p_eq (hu64 hr)) (me_countS (me_var 0) me_str) me_int)
    (mss_cons (ms_unpL (is := [1, 2]) rfl (ml_split (me_var 0) me_str) (pgs_cons (pg_name (i := 1) sc.nd rfl (by first | exact Or.inl rfl | exact Or.inr rfl)) (pgs_cons (pg_name (i := 2) sc.nd rfl (by first | exact Or.inl rfl | exact Or.inr rfl)) pgs_nil)))
    (mss_one (ms_ret (me_op p_add (me_tup (ma_cons me_str (ma_cons (me_call G.c__law_part hr (by rfl) tk (ma_cons (me_var 1) ma_nil)) ma_nil))) (me_callTyL call_tuple_of l_tup (by rfl) T.b_tuple (by decide +kernel) (ml_lc (own' := [("part", 4)]) rfl sc.nd (mi_list (ml_split (me_var 2) me_str)) (blkOk_by (N := N__law_part) (sc := defScope (topS 47)) (by decide +kernel)) (by decide) (fun _ _ _ _ _ => (mg_name (i := 4) sc.nd rfl (by first | exact Or.inl rfl | exact Or.inr rfl))) (fun _ _ _ _ _ => mts_nil) (fun _ _ _ _ _ => (me_call G.c__law_number hr (by rfl) takes0 (ma_cons (me_var 4) ma_nil)))))))))
    mss_nil)
    (mss_cons (ms_if (mt_cmp (p_eq (hu64 hr)) (me_sl (me_var 0) mo_none (mo_some me_int)) me_str)
    (mss_one (ms_ret (me_tup (ma_cons me_str (ma_cons (me_sl (me_var 0) (mo_some me_int) mo_none) ma_nil)))))
    mss_nil)
    (mss_cons (ms_if (mt_cmp (p_eq (hu64 hr)) (me_sl (me_var 0) mo_none (mo_some me_int)) me_str)
    (mss_one (ms_ret (me_tup (ma_cons me_str (ma_cons (me_callTyL call_tuple_of l_tup (by rfl) T.b_tuple (by decide +kernel) (ml_split (me_sl (me_var 0) (mo_some me_int) mo_none) me_str)) ma_nil)))))
    mss_nil)
    (mss_cons (ms_if (mt_cmp (p_eq (hu64 hr)) (me_sl (me_var 0) mo_none (mo_some me_int)) me_str)
    (mss_one (ms_ret (me_tup (ma_cons me_str (ma_cons (me_call G.c__law_number hr (by rfl) tk (ma_cons (me_sl (me_var 0) (mo_some me_int) mo_none) ma_nil)) ma_nil)))))
    mss_nil)
    (mss_cons (ms_set (i := 3) sc.nd rfl (by first | exact Or.inl rfl | exact Or.inr rfl) (me_get2 (hu64 hr) me_disp2 (me_sl (me_var 0) mo_none (mo_some me_int)) me_str))
    (mss_one (ms_ret (me_op p_add (me_tup (ma_cons (me_var 3) ma_nil)) (me_callTyL call_tuple_of l_tup (by rfl) T.b_tuple (by decide +kernel) (ml_lc (own' := [("part", 4)]) rfl sc.nd (mi_list (ml_split (me_sl (me_var 0) (mo_some me_int) mo_none) me_str)) (blkOk_by (N := N__law_part) (sc := defScope (topS 47)) (by decide +kernel)) (by decide) (fun _ _ _ _ _ => (mg_name (i := 4) sc.nd rfl (by first | exact Or.inl rfl | exact Or.inr rfl))) (fun _ _ _ _ _ => mts_nil) (fun _ _ _ _ _ => (me_call G.c__law_number hr (by rfl) takes0 (ma_cons (me_var 4) ma_nil)))))))))))))
end FT
end
section
set_option maxRecDepth 100000
set_option maxHeartbeats 2000000
namespace FT
open PySem L2
set_option autoImplicit false
variable {P : Program} {w : World} {K : PySem.W.Frag} {mg : Str → Option Value} {base : Heap}
abbrev N__law_pick : List Str := ["script", "town", "choices"]
theorem sc__law_pick : FnScope N__law_pick ["script", "town", "choices"] (defScope (topS 36)) := ⟨rfl, rfl, rfl, by decide +kernel, rfl, by decide +kernel, by decide +kernel⟩
theorem d__law_pick {k : Nat} {f : Addr} {fd : FuncData} (T : Txt K mg) (G : Al P w K mg base (run k) k) (F : Fun K "_law_pick" "_law_pick" (topS 36) f fd) : FnOk P w K mg base (L2.CX P w) (k + 1) f fd ["script", "town", "choices"] (spM w K mg 3 (m__law_pick (run k))) := by
  have sc := sc__law_pick
  refine fn_ok F sc rfl rfl fun cdv A outer s H Ex hr => ?_
  have tk := takes_of (X := cxOf (L2.CX P w) P w K mg base N__law_pick "_law_pick" (defScope (topS 36)) f cdv A outer s H Ex) rfl rfl rfl rfl
  exact (mss_one (ms_ret (me_ix (me_var 2) (me_call G.c__law_draw hr (by rfl) tk (ma_cons (me_var 0) (ma_cons (me_var 1) (ma_cons (me_callB call_lenM v_len (by rfl) T.b_len (by decide +kernel) (ma_cons (me_var 2) ma_nil)) ma_nil)))))))
end FT
end
section
set_option maxRecDepth 100000
set_option maxHeartbeats 2000000
namespace FT
open PySem L2
set_option autoImplicit false
variable {P : Program} {w : World} {K : PySem.W.Frag} {mg : Str → Option Value} {base : Heap}
abbrev N__law_raises : List Str := ["name", "names"]
theorem sc__law_raises : FnScope N__law_raises ["name"] (defScope (topS 39)) := ⟨rfl, rfl, rfl, by decide +kernel, rfl, by decide +kernel, by decide +kernel⟩
theorem d__law_raises {k : Nat} {f : Addr} {fd : FuncData} (T : Txt K mg) (G : Al P w K mg base (run k) k) (F : Fun K "_law_raises" "_law_raises" (topS 39) f fd) : FnOk P w K mg base (L2.CX P w) (k + 1) f fd ["name"] (spM w K mg 1 (m__law_raises (run k))) := by
  have sc := sc__law_raises
  refine fn_ok F sc rfl rfl fun cdv A outer s H Ex hr => ?_
  have tk := takes_of (X := cxOf (L2.CX P w) P w K mg base N__law_raises "_law_raises" (defScope (topS 39)) f cdv A outer s H Ex) rfl rfl rfl rfl
  exact (mss_cons (ms_set (i := 1) sc.nd rfl (by first | exact Or.inl rfl | exact Or.inr rfl) (me_alloc (ml_lst (ma_cons me_str (ma_cons me_str (ma_cons me_str (ma_cons me_str (ma_cons me_str (ma_cons me_str ma_nil)))))))))
    (mss_cons (ms_set (i := 1) sc.nd rfl (by first | exact Or.inl rfl | exact Or.inr rfl) (me_alloc (ml_catOL (me_var 1) (ml_lst (ma_cons me_str (ma_cons me_str (ma_cons me_str (ma_cons me_str (ma_cons me_str ma_nil)))))))))
    (mss_one (ms_ret (me_tup (ma_cons me_str (ma_cons (me_indexL (hu65 hr) (me_var 1) (me_var 0)) ma_nil)))))))
end FT
end
section
set_option maxRecDepth 100000
set_option maxHeartbeats 2000000
namespace FT
open PySem L2
set_option autoImplicit false
variable {P : Program} {w : World} {K : PySem.W.Frag} {mg : Str → Option Value} {base : Heap}
abbrev N__law_signs : List Str := ["script", "town", "signs", "many", "k"]
theorem sc__law_signs : FnScope N__law_signs ["script", "town", "signs", "many"] (defScope (topS 40)) := ⟨rfl, rfl, rfl, by decide +kernel, rfl, by decide +kernel, by decide +kernel⟩
theorem d__law_signs {k : Nat} {f : Addr} {fd : FuncData} (T : Txt K mg) (G : Al P w K mg base (run k) k) (F : Fun K "_law_signs" "_law_signs" (topS 40) f fd) : FnOk P w K mg base (L2.CX P w) (k + 1) f fd ["script", "town", "signs", "many"] (spM w K mg 4 (m__law_signs (run k))) := by
  have sc := sc__law_signs
  refine fn_ok F sc rfl rfl fun cdv A outer s H Ex hr => ?_
  have tk := takes_of (X := cxOf (L2.CX P w) P w K mg base N__law_signs "_law_signs" (defScope (topS 40)) f cdv A outer s H Ex) rfl rfl rfl rfl
  exact (mss_one (ms_ret (me_join me_str (ml_lc (own' := [("k", 4)]) rfl sc.nd (mi_range1 (by rfl) T.b_range (ma_cons (me_var 3) ma_nil)) (blkOk_by (N := N__law_signs) (sc := defScope (topS 40)) (by decide +kernel)) (by decide) (fun _ _ _ _ _ => (mg_name (i := 4) sc.nd rfl (by first | exact Or.inl rfl | exact Or.inr rfl))) (fun _ _ _ _ _ => mts_nil) (fun _ _ _ _ _ => (me_call G.c__law_pick hr (by rfl) takes0 (ma_cons (me_var 0) (ma_cons (me_var 1) (ma_cons (me_alloc (ml_list rfl (by rfl) T.b_list (by decide +kernel) (ma_cons (me_var 2) ma_nil))) ma_nil)))))))))
end FT
end
section
set_option maxRecDepth 100000
set_option maxHeartbeats 2000000
namespace FT
open PySem L2
set_option autoImplicit false
variable {P : Program} {w : World} {K : PySem.W.Frag} {mg : Str → Option Value} {base : Heap}
abbrev N__law_simple : List Str := ["script", "town", "most", "way", "low", "texts", "k", "signs"]
theorem sc__law_simple : FnScope N__law_simple ["script", "town", "most"] (defScope (topS 41)) := ⟨rfl, rfl, rfl, by decide +kernel, rfl, by decide +kernel, by decide +kernel⟩
theorem d__law_simple {k : Nat} {f : Addr} {fd : FuncData} (T : Txt K mg) (G : Al P w K mg base (run k) k) (F : Fun K "_law_simple" "_law_simple" (topS 41) f fd) : FnOk P w K mg base (L2.CX P w) (k + 1) f fd ["script", "town", "most"] (spM w K mg 3 (m__law_simple (run k))) := by
  have sc := sc__law_simple
  refine fn_ok F sc rfl rfl fun cdv A outer s H Ex hr => ?_
  have tk := takes_of (X := cxOf (L2.CX P w) P w K mg base N__law_simple "_law_simple" (defScope (topS 41)) f cdv A outer s H Ex) rfl rfl rfl rfl
  exact (mss_cons (ms_set (i := 3) sc.nd rfl (by first | exact Or.inl rfl | exact Or.inr rfl) (me_call G.c__law_draw hr (by rfl) tk (ma_cons (me_var 0) (ma_cons (me_var 1) (ma_cons me_int ma_nil)))))
    (mss_cons (ms_if (mt_cmp (p_eq (hu64 hr)) (me_var 3) me_int)
    (mss_one (ms_ret (me_tup (ma_cons me_str (ma_cons (me_call G.c__law_signs hr (by rfl) tk (ma_cons (me_var 0) (ma_cons (me_var 1) (ma_cons me_str (ma_cons (me_op p_add me_int (me_call G.c__law_draw hr (by rfl) tk (ma_cons (me_var 0) (ma_cons (me_var 1) (ma_cons (me_callB (call_min2 rfl) v_min2 (by rfl) T.b_min (by decide +kernel) (ma_cons me_int (ma_cons (me_var 2) ma_nil))) ma_nil))))) ma_nil))))) ma_nil)))))
    mss_nil)
    (mss_cons (ms_if (mt_cmp p_lt (me_var 3) me_int)
    (mss_cons (ms_set (i := 4) sc.nd rfl (by first | exact Or.inl rfl | exact Or.inr rfl) (me_call G.c__law_draw hr (by rfl) tk (ma_cons (me_var 0) (ma_cons (me_var 1) (ma_cons (me_op p_add (me_var 2) me_int) ma_nil)))))
    (mss_one (ms_ret (me_tup (ma_cons (me_ix (me_tup (ma_cons me_str (ma_cons me_str ma_nil))) (me_op p_sub (me_var 3) me_int)) (ma_cons (me_var 4) (ma_cons (me_op p_add (me_var 4) (me_call G.c__law_draw hr (by rfl) tk (ma_cons (me_var 0) (ma_cons (me_var 1) (ma_cons (me_op p_sub (me_op p_add (me_var 2) me_int) (me_var 4)) ma_nil))))) ma_nil)))))))
    mss_nil)
    (mss_cons (ms_if (mt_cmp (p_eq (hu64 hr)) (me_var 3) me_int)
    (mss_one (ms_ret (me_tup (ma_cons me_str (ma_cons (me_op p_add me_int (me_call G.c__law_draw hr (by rfl) tk (ma_cons (me_var 0) (ma_cons (me_var 1) (ma_cons (me_var 2) ma_nil))))) ma_nil)))))
    mss_nil)
    (mss_cons (ms_set (i := 5) sc.nd rfl (by first | exact Or.inl rfl | exact Or.inr rfl) (me_alloc (ml_lst ma_nil)))
    (mss_cons (ms_for (passes_of rfl) rfl (mi_range1 (by rfl) T.b_range (ma_cons (me_op p_add me_int (me_call G.c__law_draw hr (by rfl) tk (ma_cons (me_var 0) (ma_cons (me_var 1) (ma_cons me_int ma_nil))))) ma_nil)) (mg_name (i := 6) sc.nd rfl (by first | exact Or.inl rfl | exact Or.inr rfl))
    (mss_cons (ms_set (i := 7) sc.nd rfl (by first | exact Or.inl rfl | exact Or.inr rfl) (me_call G.c__law_pick hr (by rfl) tk (ma_cons (me_var 0) (ma_cons (me_var 1) (ma_cons (me_alloc (ml_lst (ma_cons me_str (ma_cons me_str (ma_cons me_str (ma_cons me_str ma_nil)))))) ma_nil)))))
    (mss_one (ms_expr (me_append (me_var 5) (me_call G.c__law_signs hr (by rfl) tk (ma_cons (me_var 0) (ma_cons (me_var 1) (ma_cons (me_var 7) (ma_cons (me_op p_add me_int (me_call G.c__law_draw hr (by rfl) tk (ma_cons (me_var 0) (ma_cons (me_var 1) (ma_cons (me_var 2) ma_nil))))) ma_nil))))))))))
    (mss_one (ms_ret (me_tup (ma_cons me_str (ma_cons (me_callTyL call_tuple_of l_tup (by rfl) T.b_tuple (by decide +kernel) (ml_sortSetV rfl (hu64 hr) (by rfl) T.b_sorted (by decide +kernel) (by rfl) T.b_set (by decide +kernel) (me_var 5))) ma_nil)))))))))))
end FT
end
section
set_option maxRecDepth 100000
set_option maxHeartbeats 2000000
namespace FT
open PySem L2
set_option autoImplicit false
variable {P : Program} {w : World} {K : PySem.W.Frag} {mg : Str → Option Value} {base : Heap}
abbrev N__law_town : List Str := ["script"]
theorem sc__law_town : FnScope N__law_town ["script"] (defScope (topS 34)) := ⟨rfl, rfl, rfl, by decide +kernel, rfl, by decide +kernel, by decide +kernel⟩
theorem d__law_town {k : Nat} {f : Addr} {fd : FuncData} (T : Txt K mg) (G : Al P w K mg base (run k) k) (F : Fun K "_law_town" "_law_town" (topS 34) f fd) : FnOk P w K mg base (L2.CX P w) (k + 1) f fd ["script"] (spM w K mg 1 (m__law_town (run k))) := by
  have sc := sc__law_town
  refine fn_ok F sc rfl rfl fun cdv A outer s H Ex hr => ?_
  have tk := takes_of (X := cxOf (L2.CX P w) P w K mg base N__law_town "_law_town" (defScope (topS 34)) f cdv A outer s H Ex) rfl rfl rfl rfl
  exact (mss_one (ms_ret (me_alloc (ml_catLL (ml_lst (ma_cons me_int ma_nil)) (ml_list rfl (by rfl) T.b_list (by decide +kernel) (ma_cons (me_var 0) ma_nil))))))
end FT
end
section
set_option maxRecDepth 100000
set_option maxHeartbeats 2000000
namespace FT
open PySem L2
set_option autoImplicit false
variable {P : Program} {w : World} {K : PySem.W.Frag} {mg : Str → Option Value} {base : Heap}
abbrev N_check_format : List Str := ["value"]
theorem sc_check_format : FnScope N_check_format ["value"] (defScope (topS 23)) := ⟨rfl, rfl, rfl, by decide +kernel, rfl, by decide +kernel, by decide +kernel⟩
theorem d_check_format {k : Nat} {f : Addr} {fd : FuncData} (T : Txt K mg) (G : Al P w K mg base (run k) k) (F : Fun K "check_format" "check_format" (topS 23) f fd) : FnOk P w K mg base (L2.CX P w) (k + 1) f fd ["value"] (spM w K mg 1 (m_check_format (run k))) := by
  have sc := sc_check_format
  refine fn_ok F sc rfl rfl fun cdv A outer s H Ex hr => ?_
  have tk := takes_of (X := cxOf (L2.CX P w) P w K mg base N_check_format "check_format" (defScope (topS 23)) f cdv A outer s H Ex) rfl rfl rfl rfl
  exact (mss_one (ms_if (mt_not (mt_val (me_call G.c_is_format hr (by rfl) tk (ma_cons (me_var 0) ma_nil))))
    (mss_one (ms_raise rfl tk T.x_InvalidFormat (by rfl)))
    mss_nil))
end FT
end
section
set_option maxRecDepth 100000
set_option maxHeartbeats 2000000
namespace FT
open PySem L2
set_option autoImplicit false
variable {P : Program} {w : World} {K : PySem.W.Frag} {mg : Str → Option Value} {base : Heap}
abbrev N_field_text : List Str := ["field", "text"]
theorem sc_field_text : FnScope N_field_text ["field"] (defScope (topS 26)) := ⟨rfl, rfl, rfl, by decide +kernel, rfl, by decide +kernel, by decide +kernel⟩
theorem d_field_text {k : Nat} {f : Addr} {fd : FuncData} (T : Txt K mg) (G : Al P w K mg base (run k) k) (F : Fun K "field_text" "field_text" (topS 26) f fd) : FnOk P w K mg base (L2.CX P w) (k + 1) f fd ["field"] (spM w K mg 1 (m_field_text (run k))) := by
  have sc := sc_field_text
  refine fn_ok F sc rfl rfl fun cdv A outer s H Ex hr => ?_
  have tk := takes_of (X := cxOf (L2.CX P w) P w K mg base N_field_text "field_text" (defScope (topS 26)) f cdv A outer s H Ex) rfl rfl rfl rfl
  exact (mss_cons (ms_if (mt_cmp (p_eq (hu64 hr)) (me_ix (me_var 0) me_int) me_str)
    (mss_one (ms_ret (me_op p_add me_str (me_ix (me_var 0) me_int))))
    mss_nil)
    (mss_cons (ms_if (mt_cmp (p_eq (hu64 hr)) (me_ix (me_var 0) me_int) me_str)
    (mss_one (ms_ret (me_join me_str (ml_lc (own' := [("text", 1)]) rfl sc.nd (mi_val (me_ix (me_var 0) me_int)) (blkOk_by (N := N_field_text) (sc := defScope (topS 26)) (by decide +kernel)) (by decide) (fun _ _ _ _ _ => (mg_name (i := 1) sc.nd rfl (by first | exact Or.inl rfl | exact Or.inr rfl))) (fun _ _ _ _ _ => mts_nil) (fun _ _ _ _ _ => (me_op p_add me_str (me_var 1)))))))
    mss_nil)
    (mss_cons (ms_if (mt_cmp (p_eq (hu64 hr)) (me_ix (me_var 0) me_int) me_str)
    (mss_one (ms_ret (me_joined (.cons me_str (.cons (me_fmt (me_ix (me_var 0) me_int)) .nil)))))
    mss_nil)
    (mss_cons (ms_if (mt_cmp (p_eq (hu64 hr)) (me_ix (me_var 0) me_int) me_str)
    (mss_one (ms_ret (me_op p_add (me_call G.c_field_text hr (by rfl) tk (ma_cons (me_ix (me_var 0) me_int) ma_nil)) (me_joined (.cons me_str (.cons (me_fmt (me_ix (me_var 0) me_int)) (.cons me_str (.cons (me_fmt (me_ix (me_var 0) me_int)) .nil))))))))
    mss_nil)
    (mss_one (ms_ret (me_joined (.cons (me_fmt (me_ix (me_ix (me_var 0) me_int) me_int)) (.cons (me_fmt (me_ix (me_var 0) me_int)) (.cons me_str (.cons (me_fmt (me_ix (me_var 0) me_int)) .nil)))))))))))
end FT
end
section
set_option maxRecDepth 100000
set_option maxHeartbeats 2000000
namespace FT
open PySem L2
set_option autoImplicit false
variable {P : Program} {w : World} {K : PySem.W.Frag} {mg : Str → Option Value} {base : Heap}
abbrev N_form_text : List Str := ["form", "field"]
theorem sc_form_text : FnScope N_form_text ["form"] (defScope (topS 27)) := ⟨rfl, rfl, rfl, by decide +kernel, rfl, by decide +kernel, by decide +kernel⟩
theorem d_form_text {k : Nat} {f : Addr} {fd : FuncData} (T : Txt K mg) (G : Al P w K mg base (run k) k) (F : Fun K "form_text" "form_text" (topS 27) f fd) : FnOk P w K mg base (L2.CX P w) (k + 1) f fd ["form"] (spM w K mg 1 (m_form_text (run k))) := by
  have sc := sc_form_text
  refine fn_ok F sc rfl rfl fun cdv A outer s H Ex hr => ?_
  have tk := takes_of (X := cxOf (L2.CX P w) P w K mg base N_form_text "form_text" (defScope (topS 27)) f cdv A outer s H Ex) rfl rfl rfl rfl
  exact (mss_one (ms_ret (me_join me_str (ml_lc (own' := [("field", 1)]) rfl sc.nd (mi_val (me_var 0)) (blkOk_by (N := N_form_text) (sc := defScope (topS 27)) (by decide +kernel)) (by decide) (fun _ _ _ _ _ => (mg_name (i := 1) sc.nd rfl (by first | exact Or.inl rfl | exact Or.inr rfl))) (fun _ _ _ _ _ => mts_nil) (fun _ _ _ _ _ => (me_call G.c_field_text hr (by rfl) takes0 (ma_cons (me_var 1) ma_nil)))))))
end FT
end
section
set_option maxRecDepth 100000
set_option maxHeartbeats 2000000
namespace FT
open PySem L2
set_option autoImplicit false
variable {P : Program} {w : World} {K : PySem.W.Frag} {mg : Str → Option Value} {base : Heap}
abbrev N_format_from : List Str := ["text", "found", "part"]
theorem sc_format_from : FnScope N_format_from ["text"] (defScope (topS 32)) := ⟨rfl, rfl, rfl, by decide +kernel, rfl, by decide +kernel, by decide +kernel⟩
theorem d_format_from {k : Nat} {f : Addr} {fd : FuncData} (T : Txt K mg) (G : Al P w K mg base (run k) k) (F : Fun K "format_from" "format_from" (topS 32) f fd) : FnOk P w K mg base (L2.CX P w) (k + 1) f fd ["text"] (spM w K mg 1 (m_format_from (run k))) := by
  have sc := sc_format_from
  refine fn_ok F sc rfl rfl fun cdv A outer s H Ex hr => ?_
  have tk := takes_of (X := cxOf (L2.CX P w) P w K mg base N_format_from "format_from" (defScope (topS 32)) f cdv A outer s H Ex) rfl rfl rfl rfl
  exact (mss_cons (ms_if (mt_w (mw_or (mt_not (mt_val (me_callB call_isi v_isi (by rfl) T.b_isinstance (by decide +kernel) (ma_cons (me_var 0) (ma_cons (me_ty 2 (by rfl) T.b_str (by decide +kernel)) ma_nil))))) (mw_or (mt_cmp p_gt (me_callB call_lenM v_len (by rfl) T.b_len (by decide +kernel) (ma_cons (me_var 0) ma_nil)) me_int) (mw_or1 (mt_cmp p_gt (me_countS (me_var 0) me_str) me_int)))))
    (mss_one (ms_raise rfl tk T.x_InvalidText (by rfl)))
    mss_nil)
    (mss_cons (ms_set (i := 1) sc.nd rfl (by first | exact Or.inl rfl | exact Or.inr rfl) (me_callTyL call_tuple_of l_tup (by rfl) T.b_tuple (by decide +kernel) (ml_lc (own' := [("part", 2)]) rfl sc.nd (mi_list (ml_split (me_var 0) me_str)) (blkOk_by (N := N_format_from) (sc := defScope (topS 32)) (by decide +kernel)) (by decide) (fun _ _ _ _ _ => (mg_name (i := 2) sc.nd rfl (by first | exact Or.inl rfl | exact Or.inr rfl))) (fun _ _ _ _ _ => mts_nil) (fun _ _ _ _ _ => (me_call G.c_read_field hr (by rfl) takes0 (ma_cons (me_var 2) ma_nil))))))
    (mss_cons (ms_if (mt_w (mw_or (mt_not (mt_val (me_call G.c_is_format hr (by rfl) tk (ma_cons (me_var 1) ma_nil)))) (mw_or1 (mt_cmp (p_ne (hu64 hr)) (me_call G.c_form_text hr (by rfl) tk (ma_cons (me_var 1) ma_nil)) (me_var 0)))))
    (mss_one (ms_raise rfl tk T.x_InvalidText (by rfl)))
    mss_nil)
    (mss_one (ms_ret (me_var 1))))))
end FT
end
section
set_option maxRecDepth 100000
set_option maxHeartbeats 2000000
namespace FT
open PySem L2
set_option autoImplicit false
variable {P : Program} {w : World} {K : PySem.W.Frag} {mg : Str → Option Value} {base : Heap}
abbrev N_is_between : List Str := ["value", "low", "high"]
theorem sc_is_between : FnScope N_is_between ["value", "low", "high"] (defScope (topS 17)) := ⟨rfl, rfl, rfl, by decide +kernel, rfl, by decide +kernel, by decide +kernel⟩
theorem d_is_between {k : Nat} {f : Addr} {fd : FuncData} (T : Txt K mg) (G : Al P w K mg base (run k) k) (F : Fun K "is_between" "is_between" (topS 17) f fd) : FnOk P w K mg base (L2.CX P w) (k + 1) f fd ["value", "low", "high"] (spM w K mg 3 (m_is_between (run k))) := by
  have sc := sc_is_between
  refine fn_ok F sc rfl rfl fun cdv A outer s H Ex hr => ?_
  have tk := takes_of (X := cxOf (L2.CX P w) P w K mg base N_is_between "is_between" (defScope (topS 17)) f cdv A outer s H Ex) rfl rfl rfl rfl
  exact (mss_one (ms_ret (me_and (me_callB call_isi v_isi (by rfl) T.b_isinstance (by decide +kernel) (ma_cons (me_var 0) (ma_cons (me_ty 0 (by rfl) T.b_int (by decide +kernel)) ma_nil))) (me_and (me_not (me_callB call_isi v_isi (by rfl) T.b_isinstance (by decide +kernel) (ma_cons (me_var 0) (ma_cons (me_ty 1 (by rfl) T.b_bool (by decide +kernel)) ma_nil)))) (me_one (me_chain p_le p_le (me_var 1) (me_var 0) (me_var 2)))))))
end FT
end
section
set_option maxRecDepth 100000
set_option maxHeartbeats 2000000
namespace FT
open PySem L2
set_option autoImplicit false
variable {P : Program} {w : World} {K : PySem.W.Frag} {mg : Str → Option Value} {base : Heap}
abbrev N_is_field : List Str := ["value"]
theorem sc_is_field : FnScope N_is_field ["value"] (defScope (topS 21)) := ⟨rfl, rfl, rfl, by decide +kernel, rfl, by decide +kernel, by decide +kernel⟩
theorem d_is_field {k : Nat} {f : Addr} {fd : FuncData} (T : Txt K mg) (G : Al P w K mg base (run k) k) (F : Fun K "is_field" "is_field" (topS 21) f fd) : FnOk P w K mg base (L2.CX P w) (k + 1) f fd ["value"] (spM w K mg 1 (m_is_field (run k))) := by
  have sc := sc_is_field
  refine fn_ok F sc rfl rfl fun cdv A outer s H Ex hr => ?_
  have tk := takes_of (X := cxOf (L2.CX P w) P w K mg base N_is_field "is_field" (defScope (topS 21)) f cdv A outer s H Ex) rfl rfl rfl rfl
  exact (mss_cons (ms_if (mt_w (mw_and (mt_val (me_callB call_isi v_isi (by rfl) T.b_isinstance (by decide +kernel) (ma_cons (me_var 0) (ma_cons (me_ty 3 (by rfl) T.b_tuple (by decide +kernel)) ma_nil)))) (mw_and (mt_cmp (p_eq (hu64 hr)) (me_callB call_lenM v_len (by rfl) T.b_len (by decide +kernel) (ma_cons (me_var 0) ma_nil)) me_int) (mw_and (mt_val (me_callB call_isi v_isi (by rfl) T.b_isinstance (by decide +kernel) (ma_cons (me_ix (me_var 0) me_int) (ma_cons (me_ty 2 (by rfl) T.b_str (by decide +kernel)) ma_nil)))) (mw_and1 (mt_cmp (p_eq (hu64 hr)) (me_ix (me_var 0) me_int) me_str))))))
    (mss_one (ms_ret (me_and (me_call G.c_is_simple hr (by rfl) tk (ma_cons (me_ix (me_var 0) me_int) ma_nil)) (me_one (me_call G.c_is_span hr (by rfl) tk (ma_cons (me_ix (me_var 0) me_int) (ma_cons (me_ix (me_var 0) me_int) (ma_cons me_int (ma_cons me_int ma_nil)))))))))
    mss_nil)
    (mss_one (ms_ret (me_call G.c_is_simple hr (by rfl) tk (ma_cons (me_var 0) ma_nil)))))
end FT
end
section
set_option maxRecDepth 100000
set_option maxHeartbeats 2000000
namespace FT
open PySem L2
set_option autoImplicit false
variable {P : Program} {w : World} {K : PySem.W.Frag} {mg : Str → Option Value} {base : Heap}
abbrev N_is_format : List Str := ["value", "field"]
theorem sc_is_format : FnScope N_is_format ["value"] (defScope (topS 22)) := ⟨rfl, rfl, rfl, by decide +kernel, rfl, by decide +kernel, by decide +kernel⟩
theorem d_is_format {k : Nat} {f : Addr} {fd : FuncData} (T : Txt K mg) (G : Al P w K mg base (run k) k) (F : Fun K "is_format" "is_format" (topS 22) f fd) : FnOk P w K mg base (L2.CX P w) (k + 1) f fd ["value"] (spM w K mg 1 (m_is_format (run k))) := by
  have sc := sc_is_format
  refine fn_ok F sc rfl rfl fun cdv A outer s H Ex hr => ?_
  have tk := takes_of (X := cxOf (L2.CX P w) P w K mg base N_is_format "is_format" (defScope (topS 22)) f cdv A outer s H Ex) rfl rfl rfl rfl
  exact (mss_one (ms_ret (me_and (me_callB call_isi v_isi (by rfl) T.b_isinstance (by decide +kernel) (ma_cons (me_var 0) (ma_cons (me_ty 3 (by rfl) T.b_tuple (by decide +kernel)) ma_nil))) (me_and (me_chain p_le p_le me_int (me_callB call_lenM v_len (by rfl) T.b_len (by decide +kernel) (ma_cons (me_var 0) ma_nil)) me_int) (me_one (me_callL (cr_all rfl) l_all (by rfl) T.b_all (by decide +kernel) (ml_lc (own' := [("field", 1)]) rfl sc.nd (mi_val (me_var 0)) (blkOk_by (N := N_is_format) (sc := defScope (topS 22)) (by decide +kernel)) (by decide) (fun _ _ _ _ _ => (mg_name (i := 1) sc.nd rfl (by first | exact Or.inl rfl | exact Or.inr rfl))) (fun _ _ _ _ _ => mts_nil) (fun _ _ _ _ _ => (me_call G.c_is_field hr (by rfl) takes0 (ma_cons (me_var 1) ma_nil))))))))))
end FT
end
section
set_option maxRecDepth 100000
set_option maxHeartbeats 2000000
namespace FT
open PySem L2
set_option autoImplicit false
variable {P : Program} {w : World} {K : PySem.W.Frag} {mg : Str → Option Value} {base : Heap}
abbrev N_is_simple : List Str := ["value", "texts", "text", "k"]
theorem sc_is_simple : FnScope N_is_simple ["value"] (defScope (topS 20)) := ⟨rfl, rfl, rfl, by decide +kernel, rfl, by decide +kernel, by decide +kernel⟩
theorem d_is_simple {k : Nat} {f : Addr} {fd : FuncData} (T : Txt K mg) (G : Al P w K mg base (run k) k) (F : Fun K "is_simple" "is_simple" (topS 20) f fd) : FnOk P w K mg base (L2.CX P w) (k + 1) f fd ["value"] (spM w K mg 1 (m_is_simple (run k))) := by
  have sc := sc_is_simple
  refine fn_ok F sc rfl rfl fun cdv A outer s H Ex hr => ?_
  have tk := takes_of (X := cxOf (L2.CX P w) P w K mg base N_is_simple "is_simple" (defScope (topS 20)) f cdv A outer s H Ex) rfl rfl rfl rfl
  exact (mss_cons (ms_if (mt_w (mw_or (mt_not (mt_val (me_callB call_isi v_isi (by rfl) T.b_isinstance (by decide +kernel) (ma_cons (me_var 0) (ma_cons (me_ty 3 (by rfl) T.b_tuple (by decide +kernel)) ma_nil))))) (mw_or (mt_not (mt_chain p_le p_le me_int (me_callB call_lenM v_len (by rfl) T.b_len (by decide +kernel) (ma_cons (me_var 0) ma_nil)) me_int)) (mw_or1 (mt_not (mt_val (me_callB call_isi v_isi (by rfl) T.b_isinstance (by decide +kernel) (ma_cons (me_ix (me_var 0) me_int) (ma_cons (me_ty 2 (by rfl) T.b_str (by decide +kernel)) ma_nil)))))))))
    (mss_one (ms_ret me_bl))
    mss_nil)
    (mss_cons (ms_if (mt_cmp (p_eq (hu64 hr)) (me_callB call_lenM v_len (by rfl) T.b_len (by decide +kernel) (ma_cons (me_var 0) ma_nil)) me_int)
    (mss_one (ms_ret (me_and (me_cmp (p_in (hu65 hr)) (me_ix (me_var 0) me_int) (me_tup (ma_cons me_str (ma_cons me_str ma_nil)))) (me_one (me_call G.c_is_span hr (by rfl) tk (ma_cons (me_ix (me_var 0) me_int) (ma_cons (me_ix (me_var 0) me_int) (ma_cons me_int (ma_cons me_int ma_nil)))))))))
    mss_nil)
    (mss_cons (ms_if (mt_cmp (p_eq (hu64 hr)) (me_ix (me_var 0) me_int) me_str)
    (mss_one (ms_ret (me_call G.c_is_text hr (by rfl) tk (ma_cons (me_ix (me_var 0) me_int) (ma_cons me_int (ma_cons me_int ma_nil))))))
    mss_nil)
    (mss_cons (ms_if (mt_cmp (p_eq (hu64 hr)) (me_ix (me_var 0) me_int) me_str)
    (mss_one (ms_ret (me_call G.c_is_between hr (by rfl) tk (ma_cons (me_ix (me_var 0) me_int) (ma_cons me_int (ma_cons me_int ma_nil))))))
    mss_nil)
    (mss_cons (ms_if (mt_w (mw_or (mt_cmp (p_ne (hu64 hr)) (me_ix (me_var 0) me_int) me_str) (mw_or (mt_not (mt_val (me_callB call_isi v_isi (by rfl) T.b_isinstance (by decide +kernel) (ma_cons (me_ix (me_var 0) me_int) (ma_cons (me_ty 3 (by rfl) T.b_tuple (by decide +kernel)) ma_nil))))) (mw_or1 (mt_not (mt_chain p_le p_le me_int (me_callB call_lenM v_len (by rfl) T.b_len (by decide +kernel) (ma_cons (me_ix (me_var 0) me_int) ma_nil)) me_int))))))
    (mss_one (ms_ret me_bl))
    mss_nil)
    (mss_cons (ms_set (i := 1) sc.nd rfl (by first | exact Or.inl rfl | exact Or.inr rfl) (me_ix (me_var 0) me_int))
    (mss_cons (ms_if (mt_not (mt_val (me_callL (cr_all rfl) l_all (by rfl) T.b_all (by decide +kernel) (ml_lc (own' := [("text", 2)]) rfl sc.nd (mi_val (me_var 1)) (blkOk_by (N := N_is_simple) (sc := defScope (topS 20)) (by decide +kernel)) (by decide) (fun _ _ _ _ _ => (mg_name (i := 2) sc.nd rfl (by first | exact Or.inl rfl | exact Or.inr rfl))) (fun _ _ _ _ _ => mts_nil) (fun _ _ _ _ _ => (me_call G.c_is_text hr (by rfl) takes0 (ma_cons (me_var 2) (ma_cons me_int (ma_cons me_int ma_nil)))))))))
    (mss_one (ms_ret me_bl))
    mss_nil)
    (mss_one (ms_ret (me_callL (cr_all rfl) l_all (by rfl) T.b_all (by decide +kernel) (ml_lc (own' := [("k", 3)]) rfl sc.nd (mi_range1 (by rfl) T.b_range (ma_cons (me_op p_sub (me_callB call_lenM v_len (by rfl) T.b_len (by decide +kernel) (ma_cons (me_var 1) ma_nil)) me_int) ma_nil)) (blkOk_by (N := N_is_simple) (sc := defScope (topS 20)) (by decide +kernel)) (by decide) (fun _ _ _ _ _ => (mg_name (i := 3) sc.nd rfl (by first | exact Or.inl rfl | exact Or.inr rfl))) (fun _ _ _ _ _ => mts_nil) (fun _ _ _ _ _ => (me_cmp p_lt (me_ix (me_var 1) (me_var 3)) (me_ix (me_var 1) (me_op p_add (me_var 3) me_int)))))))))))))))
end FT
end
section
set_option maxRecDepth 100000
set_option maxHeartbeats 2000000
namespace FT
open PySem L2
set_option autoImplicit false
variable {P : Program} {w : World} {K : PySem.W.Frag} {mg : Str → Option Value} {base : Heap}
abbrev N_is_span : List Str := ["low", "high", "least", "most"]
theorem sc_is_span : FnScope N_is_span ["low", "high", "least", "most"] (defScope (topS 19)) := ⟨rfl, rfl, rfl, by decide +kernel, rfl, by decide +kernel, by decide +kernel⟩
theorem d_is_span {k : Nat} {f : Addr} {fd : FuncData} (T : Txt K mg) (G : Al P w K mg base (run k) k) (F : Fun K "is_span" "is_span" (topS 19) f fd) : FnOk P w K mg base (L2.CX P w) (k + 1) f fd ["low", "high", "least", "most"] (spM w K mg 4 (m_is_span (run k))) := by
  have sc := sc_is_span
  refine fn_ok F sc rfl rfl fun cdv A outer s H Ex hr => ?_
  have tk := takes_of (X := cxOf (L2.CX P w) P w K mg base N_is_span "is_span" (defScope (topS 19)) f cdv A outer s H Ex) rfl rfl rfl rfl
  exact (mss_one (ms_ret (me_and (me_call G.c_is_between hr (by rfl) tk (ma_cons (me_var 0) (ma_cons me_int (ma_cons (me_var 3) ma_nil)))) (me_and (me_call G.c_is_between hr (by rfl) tk (ma_cons (me_var 1) (ma_cons (me_var 2) (ma_cons (me_var 3) ma_nil)))) (me_one (me_cmp p_le (me_var 0) (me_var 1)))))))
end FT
end
section
set_option maxRecDepth 100000
set_option maxHeartbeats 2000000
namespace FT
open PySem L2
set_option autoImplicit false
variable {P : Program} {w : World} {K : PySem.W.Frag} {mg : Str → Option Value} {base : Heap}
abbrev N_is_text : List Str := ["value", "low", "high", "sign"]
theorem sc_is_text : FnScope N_is_text ["value", "low", "high"] (defScope (topS 18)) := ⟨rfl, rfl, rfl, by decide +kernel, rfl, by decide +kernel, by decide +kernel⟩
theorem d_is_text {k : Nat} {f : Addr} {fd : FuncData} (T : Txt K mg) (G : Al P w K mg base (run k) k) (F : Fun K "is_text" "is_text" (topS 18) f fd) : FnOk P w K mg base (L2.CX P w) (k + 1) f fd ["value", "low", "high"] (spM w K mg 3 (m_is_text (run k))) := by
  have sc := sc_is_text
  refine fn_ok F sc rfl rfl fun cdv A outer s H Ex hr => ?_
  have tk := takes_of (X := cxOf (L2.CX P w) P w K mg base N_is_text "is_text" (defScope (topS 18)) f cdv A outer s H Ex) rfl rfl rfl rfl
  exact (mss_one (ms_ret (me_and (me_callB call_isi v_isi (by rfl) T.b_isinstance (by decide +kernel) (ma_cons (me_var 0) (ma_cons (me_ty 2 (by rfl) T.b_str (by decide +kernel)) ma_nil))) (me_and (me_chain p_le p_le (me_var 1) (me_callB call_lenM v_len (by rfl) T.b_len (by decide +kernel) (ma_cons (me_var 0) ma_nil)) (me_var 2)) (me_one (me_callL (cr_all rfl) l_all (by rfl) T.b_all (by decide +kernel) (ml_lc (own' := [("sign", 3)]) rfl sc.nd (mi_val (me_var 0)) (blkOk_by (N := N_is_text) (sc := defScope (topS 18)) (by decide +kernel)) (by decide) (fun _ _ _ _ _ => (mg_name (i := 3) sc.nd rfl (by first | exact Or.inl rfl | exact Or.inr rfl))) (fun _ _ _ _ _ => mts_nil) (fun _ _ _ _ _ => (me_cmp (p_in (hu65 hr)) (me_var 3) (me_gstr (by rfl) T.c_SIGNS.choose_spec))))))))))
end FT
end
section
set_option maxRecDepth 100000
set_option maxHeartbeats 2000000
namespace FT
open PySem L2
set_option autoImplicit false
variable {P : Program} {w : World} {K : PySem.W.Frag} {mg : Str → Option Value} {base : Heap}
abbrev N_law : List Str := ["script", "town", "form", "line", "k", "at", "sign", "other", "due", "is_due", "bads", "field", "part", "bad"]
theorem sc_law : FnScope N_law ["script"] (defScope (topS 48)) := ⟨rfl, rfl, rfl, by decide +kernel, rfl, by decide +kernel, by decide +kernel⟩
theorem d_law {k : Nat} {f : Addr} {fd : FuncData} (T : Txt K mg) (G : Al P w K mg base (run k) k) (F : Fun K "law" "law" (topS 48) f fd) : FnOk P w K mg base (L2.CX P w) (k + 1) f fd ["script"] (spM w K mg 1 (m_law (run k))) := by
  have sc := sc_law
  refine fn_ok F sc rfl rfl fun cdv A outer s H Ex hr => ?_
  have tk := takes_of (X := cxOf (L2.CX P w) P w K mg base N_law "law" (defScope (topS 48)) f cdv A outer s H Ex) rfl rfl rfl rfl
  exact (mss_cons (ms_set (i := 1) sc.nd rfl (by first | exact Or.inl rfl | exact Or.inr rfl) (me_call G.c__law_town hr (by rfl) tk (ma_cons (me_var 0) ma_nil)))
    (mss_cons (ms_set (i := 2) sc.nd rfl (by first | exact Or.inl rfl | exact Or.inr rfl) (me_call G.c__law_form hr (by rfl) tk (ma_cons (me_var 0) (ma_cons (me_var 1) (ma_cons me_int (ma_cons me_int ma_nil))))))
    (mss_cons (ms_set (i := 3) sc.nd rfl (by first | exact Or.inl rfl | exact Or.inr rfl) (me_join me_str (ml_lc (own' := [("field", 11)]) rfl sc.nd (mi_val (me_var 2)) (blkOk_by (N := N_law) (sc := defScope (topS 48)) (by decide +kernel)) (by decide) (fun _ _ _ _ _ => (mg_name (i := 11) sc.nd rfl (by first | exact Or.inl rfl | exact Or.inr rfl))) (fun _ _ _ _ _ => mts_nil) (fun _ _ _ _ _ => (me_call G.c__law_line hr (by rfl) takes0 (ma_cons (me_var 11) ma_nil))))))
    (mss_cons (ms_if (mt_w (mw_or (mt_cmp (p_ne (hu64 hr)) (me_call G.c_notation hr (by rfl) tk (ma_cons (me_var 2) ma_nil)) (me_var 3)) (mw_or1 (mt_cmp (p_ne (hu64 hr)) (me_call G.c__law_outcome hr (by rfl) tk (ma_cons me_int (ma_cons (me_var 3) ma_nil))) (me_tup (ma_cons me_str (ma_cons (me_var 2) ma_nil)))))))
    (mss_one (ms_ret me_bl))
    mss_nil)
    (mss_cons (ms_for (passes_of rfl) rfl (mi_range1 (by rfl) T.b_range (ma_cons me_int ma_nil)) (mg_name (i := 4) sc.nd rfl (by first | exact Or.inl rfl | exact Or.inr rfl))
    (mss_cons (ms_set (i := 5) sc.nd rfl (by first | exact Or.inl rfl | exact Or.inr rfl) (me_call G.c__law_draw hr (by rfl) tk (ma_cons (me_var 0) (ma_cons (me_var 1) (ma_cons (me_op p_add (me_callB call_lenM v_len (by rfl) T.b_len (by decide +kernel) (ma_cons (me_var 3) ma_nil)) me_int) ma_nil)))))
    (mss_cons (ms_set (i := 6) sc.nd rfl (by first | exact Or.inl rfl | exact Or.inr rfl) (me_call G.c__law_pick hr (by rfl) tk (ma_cons (me_var 0) (ma_cons (me_var 1) (ma_cons (me_alloc (ml_catLL (ml_list rfl (by rfl) T.b_list (by decide +kernel) (ma_cons me_str ma_nil)) (ml_lst (ma_cons me_str ma_nil)))) ma_nil)))))
    (mss_cons (ms_set (i := 7) sc.nd rfl (by first | exact Or.inl rfl | exact Or.inr rfl) (me_op p_add (me_op p_add (me_sl (me_var 3) mo_none (mo_some (me_var 5))) (me_var 6)) (me_sl (me_var 3) (mo_some (me_op p_add (me_var 5) (me_call G.c__law_draw hr (by rfl) tk (ma_cons (me_var 0) (ma_cons (me_var 1) (ma_cons me_int ma_nil)))))) mo_none)))
    (mss_cons (ms_set (i := 8) sc.nd rfl (by first | exact Or.inl rfl | exact Or.inr rfl) (me_callTyL call_tuple_of l_tup (by rfl) T.b_tuple (by decide +kernel) (ml_lc (own' := [("part", 12)]) rfl sc.nd (mi_list (ml_split (me_var 7) me_str)) (blkOk_by (N := N_law) (sc := defScope (topS 48)) (by decide +kernel)) (by decide) (fun _ _ _ _ _ => (mg_name (i := 12) sc.nd rfl (by first | exact Or.inl rfl | exact Or.inr rfl))) (fun _ _ _ _ _ => mts_nil) (fun _ _ _ _ _ => (me_call G.c__law_part hr (by rfl) takes0 (ma_cons (me_var 12) ma_nil))))))
    (mss_cons (ms_set (i := 9) sc.nd rfl (by first | exact Or.inl rfl | exact Or.inr rfl) (me_and (me_call G.c_is_format hr (by rfl) tk (ma_cons (me_var 8) ma_nil)) (me_one (me_cmp (p_eq (hu64 hr)) (me_join me_str (ml_lc (own' := [("field", 11)]) rfl sc.nd (mi_val (me_var 8)) (blkOk_by (N := N_law) (sc := defScope (topS 48)) (by decide +kernel)) (by decide) (fun _ _ _ _ _ => (mg_name (i := 11) sc.nd rfl (by first | exact Or.inl rfl | exact Or.inr rfl))) (fun _ _ _ _ _ => mts_nil) (fun _ _ _ _ _ => (me_call G.c__law_line hr (by rfl) takes0 (ma_cons (me_var 11) ma_nil))))) (me_var 7)))))
    (mss_one (ms_if (mt_cmp (p_ne (hu64 hr)) (me_call G.c__law_outcome hr (by rfl) tk (ma_cons me_int (ma_cons (me_var 7) ma_nil))) (me_if (mt_val (me_var 9)) (me_tup (ma_cons me_str (ma_cons (me_var 8) ma_nil))) (me_call G.c__law_raises hr (by rfl) tk (ma_cons me_str ma_nil))))
    (mss_one (ms_ret me_bl))
    mss_nil))))))))
    (mss_cons (ms_set (i := 10) sc.nd rfl (by first | exact Or.inl rfl | exact Or.inr rfl) (me_alloc (ml_lst (ma_cons me_non (ma_cons me_int (ma_cons me_str (ma_cons me_str (ma_cons me_str (ma_cons me_str (ma_cons me_str (ma_cons me_str (ma_cons me_str (ma_cons me_str (ma_cons me_str (ma_cons me_str (ma_cons me_str (ma_cons me_str (ma_cons me_str (ma_cons me_str (ma_cons me_str ma_nil))))))))))))))))))))
    (mss_cons (ms_set (i := 10) sc.nd rfl (by first | exact Or.inl rfl | exact Or.inr rfl) (me_alloc (ml_catOL (me_var 10) (ml_lst (ma_cons me_str (ma_cons me_str (ma_cons me_str (ma_cons me_str (ma_cons me_str (ma_cons (me_var 2) (ma_cons (me_alloc (ml_lst (ma_cons (me_var 3) ma_nil))) ma_nil)))))))))))
    (mss_cons (ms_set (i := 10) sc.nd rfl (by first | exact Or.inl rfl | exact Or.inr rfl) (me_alloc (ml_catOL (me_var 10) (ml_lst (ma_cons (me_op p_add (me_var 3) me_str) (ma_cons me_bl (ma_cons me_str ma_nil)))))))
    (mss_cons (ms_if (mt_neNilL (hu64 hr) (ml_lc (own' := [("bad", 13)]) rfl sc.nd (mi_val (me_var 10)) (blkOk_by (N := N_law) (sc := defScope (topS 48)) (by decide +kernel)) (by decide) (fun _ _ _ _ _ => (mg_name (i := 13) sc.nd rfl (by first | exact Or.inl rfl | exact Or.inr rfl))) (fun _ _ _ _ _ => (mts_one (mt_cmp (p_ne (hu64 hr)) (me_call G.c__law_outcome hr (by rfl) takes0 (ma_cons me_int (ma_cons (me_var 13) ma_nil))) (me_call G.c__law_raises hr (by rfl) takes0 (ma_cons me_str ma_nil))))) (fun _ _ _ _ _ => (me_var 13))))
    (mss_one (ms_ret me_bl))
    mss_nil)
    (mss_cons (ms_set (i := 8) sc.nd rfl (by first | exact Or.inl rfl | exact Or.inr rfl) (me_tup (ma_cons (me_tup (ma_cons me_str (ma_cons (me_tup (ma_cons me_str (ma_cons (me_tup (ma_cons me_str (ma_cons me_str ma_nil))) ma_nil))) (ma_cons me_int (ma_cons me_int ma_nil))))) (ma_cons (me_tup (ma_cons me_str (ma_cons me_int (ma_cons me_int ma_nil)))) ma_nil))))
    (mss_one (ms_ret (me_cmp (p_eq (hu64 hr)) (me_call G.c__law_outcome hr (by rfl) tk (ma_cons me_int (ma_cons me_str ma_nil))) (me_tup (ma_cons me_str (ma_cons (me_var 8) ma_nil))))))))))))))))
end FT
end
section
set_option maxRecDepth 100000
set_option maxHeartbeats 2000000
namespace FT
open PySem L2
set_option autoImplicit false
variable {P : Program} {w : World} {K : PySem.W.Frag} {mg : Str → Option Value} {base : Heap}
abbrev N_notation : List Str := ["form"]
theorem sc_notation : FnScope N_notation ["form"] (defScope (topS 28)) := ⟨rfl, rfl, rfl, by decide +kernel, rfl, by decide +kernel, by decide +kernel⟩
theorem d_notation {k : Nat} {f : Addr} {fd : FuncData} (T : Txt K mg) (G : Al P w K mg base (run k) k) (F : Fun K "notation" "notation" (topS 28) f fd) : FnOk P w K mg base (L2.CX P w) (k + 1) f fd ["form"] (spM w K mg 1 (m_notation (run k))) := by
  have sc := sc_notation
  refine fn_ok F sc rfl rfl fun cdv A outer s H Ex hr => ?_
  have tk := takes_of (X := cxOf (L2.CX P w) P w K mg base N_notation "notation" (defScope (topS 28)) f cdv A outer s H Ex) rfl rfl rfl rfl
  exact (mss_cons (ms_expr (me_call G.c_check_format hr (by rfl) tk (ma_cons (me_var 0) ma_nil)))
    (mss_one (ms_ret (me_call G.c_form_text hr (by rfl) tk (ma_cons (me_var 0) ma_nil)))))
end FT
end
section
set_option maxRecDepth 100000
set_option maxHeartbeats 2000000
namespace FT
open PySem L2
set_option autoImplicit false
variable {P : Program} {w : World} {K : PySem.W.Frag} {mg : Str → Option Value} {base : Heap}
abbrev N_number_of : List Str := ["word"]
theorem sc_number_of : FnScope N_number_of ["word"] (defScope (topS 29)) := ⟨rfl, rfl, rfl, by decide +kernel, rfl, by decide +kernel, by decide +kernel⟩
theorem d_number_of {k : Nat} {f : Addr} {fd : FuncData} (T : Txt K mg) (G : Al P w K mg base (run k) k) (F : Fun K "number_of" "number_of" (topS 29) f fd) : FnOk P w K mg base (L2.CX P w) (k + 1) f fd ["word"] (spM w K mg 1 (m_number_of (run k))) := by
  have sc := sc_number_of
  refine fn_ok F sc rfl rfl fun cdv A outer s H Ex hr => ?_
  have tk := takes_of (X := cxOf (L2.CX P w) P w K mg base N_number_of "number_of" (defScope (topS 29)) f cdv A outer s H Ex) rfl rfl rfl rfl
  exact (mss_one (ms_ret (me_if (mt_cmp (p_in (hu65 hr)) (me_var 0) (me_gtup (by rfl) T.c_DIGITS_notation)) (me_idxC (by rfl) T.c_DIGITS_notation (me_var 0)) me_negC)))
end FT
end
section
set_option maxRecDepth 100000
set_option maxHeartbeats 2000000
namespace FT
open PySem L2
set_option autoImplicit false
variable {P : Program} {w : World} {K : PySem.W.Frag} {mg : Str → Option Value} {base : Heap}
abbrev N_numbers_in : List Str := ["text", "word"]
theorem sc_numbers_in : FnScope N_numbers_in ["text"] (defScope (topS 30)) := ⟨rfl, rfl, rfl, by decide +kernel, rfl, by decide +kernel, by decide +kernel⟩
theorem d_numbers_in {k : Nat} {f : Addr} {fd : FuncData} (T : Txt K mg) (G : Al P w K mg base (run k) k) (F : Fun K "numbers_in" "numbers_in" (topS 30) f fd) : FnOk P w K mg base (L2.CX P w) (k + 1) f fd ["text"] (spM w K mg 1 (m_numbers_in (run k))) := by
  have sc := sc_numbers_in
  refine fn_ok F sc rfl rfl fun cdv A outer s H Ex hr => ?_
  have tk := takes_of (X := cxOf (L2.CX P w) P w K mg base N_numbers_in "numbers_in" (defScope (topS 30)) f cdv A outer s H Ex) rfl rfl rfl rfl
  exact (mss_one (ms_ret (me_callTyL call_tuple_of l_tup (by rfl) T.b_tuple (by decide +kernel) (ml_lc (own' := [("word", 1)]) rfl sc.nd (mi_list (ml_split (me_var 0) me_str)) (blkOk_by (N := N_numbers_in) (sc := defScope (topS 30)) (by decide +kernel)) (by decide) (fun _ _ _ _ _ => (mg_name (i := 1) sc.nd rfl (by first | exact Or.inl rfl | exact Or.inr rfl))) (fun _ _ _ _ _ => mts_nil) (fun _ _ _ _ _ => (me_call G.c_number_of hr (by rfl) takes0 (ma_cons (me_var 1) ma_nil)))))))
end FT
end
section
set_option maxRecDepth 100000
set_option maxHeartbeats 2000000
namespace FT
open PySem L2
set_option autoImplicit false
variable {P : Program} {w : World} {K : PySem.W.Frag} {mg : Str → Option Value} {base : Heap}
abbrev N_read_field : List Str := ["text", "place", "first", "rest"]
theorem sc_read_field : FnScope N_read_field ["text"] (defScope (topS 31)) := ⟨rfl, rfl, rfl, by decide +kernel, rfl, by decide +kernel, by decide +kernel⟩
theorem d_read_field {k : Nat} {f : Addr} {fd : FuncData} (T : Txt K mg) (G : Al P w K mg base (run k) k) (F : Fun K "read_field" "read_field" (topS 31) f fd) : FnOk P w K mg base (L2.CX P w) (k + 1) f fd ["text"] (spM w K mg 1 (m_read_field (run k))) := by
  have sc := sc_read_field
  refine fn_ok F sc rfl rfl fun cdv A outer s H Ex hr => ?_
  have tk := takes_of (X := cxOf (L2.CX P w) P w K mg base N_read_field "read_field" (defScope (topS 31)) f cdv A outer s H Ex) rfl rfl rfl rfl
  exact (mss_cons (ms_if (mt_cmp (p_in (hu65 hr)) me_str (me_var 0))
    (mss_cons (ms_set (i := 1) sc.nd rfl (by first | exact Or.inl rfl | exact Or.inr rfl) (me_indexS (me_var 0) me_str))
    (mss_one (ms_ret (me_op p_add (me_tup (ma_cons me_str (ma_cons (me_call G.c_read_field hr (by rfl) tk (ma_cons (me_sl (me_var 0) mo_none (mo_some (me_var 1))) ma_nil)) ma_nil))) (me_call G.c_numbers_in hr (by rfl) tk (ma_cons (me_sl (me_var 0) (mo_some (me_op p_add (me_var 1) me_int)) mo_none) ma_nil))))))
    mss_nil)
    (mss_cons (ms_par (i := 2) (j := 3) rfl sc.nd rfl rfl (by decide) rfl rfl (ma_cons (me_sl (me_var 0) mo_none (mo_some me_int)) (ma_cons (me_sl (me_var 0) (mo_some me_int) mo_none) ma_nil)) (by rfl))
    (mss_cons (ms_if (mt_cmp (p_eq (hu64 hr)) (me_var 2) me_str)
    (mss_one (ms_ret (me_tup (ma_cons me_str (ma_cons (me_var 3) ma_nil)))))
    mss_nil)
    (mss_cons (ms_if (mt_cmp (p_eq (hu64 hr)) (me_var 2) me_str)
    (mss_one (ms_ret (me_tup (ma_cons me_str (ma_cons (me_callTyL call_tuple_of l_tup (by rfl) T.b_tuple (by decide +kernel) (ml_split (me_var 3) me_str)) ma_nil)))))
    mss_nil)
    (mss_cons (ms_if (mt_cmp (p_eq (hu64 hr)) (me_var 2) me_str)
    (mss_one (ms_ret (me_tup (ma_cons me_str (ma_cons (me_call G.c_number_of hr (by rfl) tk (ma_cons (me_var 3) ma_nil)) ma_nil)))))
    mss_nil)
    (mss_one (ms_ret (me_op p_add (me_tup (ma_cons (me_get2 (hu64 hr) me_disp2 (me_var 2) me_str) ma_nil)) (me_call G.c_numbers_in hr (by rfl) tk (ma_cons (me_var 3) ma_nil))))))))))
end FT
end
section
set_option maxRecDepth 100000
namespace FT
open PySem L2
set_option autoImplicit false
section
variable {P : Program} {w : World} {K : PySem.W.Frag} {mg : Str → Option Value} {base : Heap}
structure Fs (K : PySem.W.Frag) (mg : Str → Option Value) : Prop where
  f_is_between : ∃ f fd, Fun K "is_between" "is_between" (topS 17) f fd ∧ mg "is_between" = some (.ref f) ∧ Binds K fd ["value", "low", "high"] []
  f_is_text : ∃ f fd, Fun K "is_text" "is_text" (topS 18) f fd ∧ mg "is_text" = some (.ref f) ∧ Binds K fd ["value", "low", "high"] []
  f_is_span : ∃ f fd, Fun K "is_span" "is_span" (topS 19) f fd ∧ mg "is_span" = some (.ref f) ∧ Binds K fd ["low", "high", "least", "most"] []
  f_is_simple : ∃ f fd, Fun K "is_simple" "is_simple" (topS 20) f fd ∧ mg "is_simple" = some (.ref f) ∧ Binds K fd ["value"] []
  f_is_field : ∃ f fd, Fun K "is_field" "is_field" (topS 21) f fd ∧ mg "is_field" = some (.ref f) ∧ Binds K fd ["value"] []
  f_is_format : ∃ f fd, Fun K "is_format" "is_format" (topS 22) f fd ∧ mg "is_format" = some (.ref f) ∧ Binds K fd ["value"] []
  f_check_format : ∃ f fd, Fun K "check_format" "check_format" (topS 23) f fd ∧ mg "check_format" = some (.ref f) ∧ Binds K fd ["value"] []
  f_field_text : ∃ f fd, Fun K "field_text" "field_text" (topS 26) f fd ∧ mg "field_text" = some (.ref f) ∧ Binds K fd ["field"] []
  f_form_text : ∃ f fd, Fun K "form_text" "form_text" (topS 27) f fd ∧ mg "form_text" = some (.ref f) ∧ Binds K fd ["form"] []
  f_notation : ∃ f fd, Fun K "notation" "notation" (topS 28) f fd ∧ mg "notation" = some (.ref f) ∧ Binds K fd ["form"] []
  f_number_of : ∃ f fd, Fun K "number_of" "number_of" (topS 29) f fd ∧ mg "number_of" = some (.ref f) ∧ Binds K fd ["word"] []
  f_numbers_in : ∃ f fd, Fun K "numbers_in" "numbers_in" (topS 30) f fd ∧ mg "numbers_in" = some (.ref f) ∧ Binds K fd ["text"] []
  f_read_field : ∃ f fd, Fun K "read_field" "read_field" (topS 31) f fd ∧ mg "read_field" = some (.ref f) ∧ Binds K fd ["text"] []
  f_format_from : ∃ f fd, Fun K "format_from" "format_from" (topS 32) f fd ∧ mg "format_from" = some (.ref f) ∧ Binds K fd ["text"] []
  f__law_town : ∃ f fd, Fun K "_law_town" "_law_town" (topS 34) f fd ∧ mg "_law_town" = some (.ref f) ∧ Binds K fd ["script"] []
  f__law_draw : ∃ f fd, Fun K "_law_draw" "_law_draw" (topS 35) f fd ∧ mg "_law_draw" = some (.ref f) ∧ Binds K fd ["script", "town", "limit"] []
  f__law_pick : ∃ f fd, Fun K "_law_pick" "_law_pick" (topS 36) f fd ∧ mg "_law_pick" = some (.ref f) ∧ Binds K fd ["script", "town", "choices"] []
  f__law_outcome : ∃ f fd, Fun K "_law_outcome" "_law_outcome" (topS 37) f fd ∧ mg "_law_outcome" = some (.ref f) ∧ Binds K fd ["way", "arguments"] []
  f__law_name : ∃ f fd, Fun K "_law_name" "_law_name" (topS 38) f fd ∧ mg "_law_name" = some (.ref f) ∧ Binds K fd ["caught"] []
  f__law_raises : ∃ f fd, Fun K "_law_raises" "_law_raises" (topS 39) f fd ∧ mg "_law_raises" = some (.ref f) ∧ Binds K fd ["name"] []
  f__law_signs : ∃ f fd, Fun K "_law_signs" "_law_signs" (topS 40) f fd ∧ mg "_law_signs" = some (.ref f) ∧ Binds K fd ["script", "town", "signs", "many"] []
  f__law_simple : ∃ f fd, Fun K "_law_simple" "_law_simple" (topS 41) f fd ∧ mg "_law_simple" = some (.ref f) ∧ Binds K fd ["script", "town", "most"] []
  f__law_field : ∃ f fd, Fun K "_law_field" "_law_field" (topS 42) f fd ∧ mg "_law_field" = some (.ref f) ∧ Binds K fd ["script", "town", "most"] []
  f__law_form : ∃ f fd, Fun K "_law_form" "_law_form" (topS 43) f fd ∧ mg "_law_form" = some (.ref f) ∧ Binds K fd ["script", "town", "fields", "most"] []
  f__law_call : ∃ f fd, Fun K "_law_call" "_law_call" (topS 44) f fd ∧ mg "_law_call" = some (.ref f) ∧ Binds K fd ["way", "arguments"] []
  f__law_line : ∃ f fd, Fun K "_law_line" "_law_line" (topS 45) f fd ∧ mg "_law_line" = some (.ref f) ∧ Binds K fd ["field"] []
  f__law_number : ∃ f fd, Fun K "_law_number" "_law_number" (topS 46) f fd ∧ mg "_law_number" = some (.ref f) ∧ Binds K fd ["text"] []
  f__law_part : ∃ f fd, Fun K "_law_part" "_law_part" (topS 47) f fd ∧ mg "_law_part" = some (.ref f) ∧ Binds K fd ["text"] []
  f_law : ∃ f fd, Fun K "law" "law" (topS 48) f fd ∧ mg "law" = some (.ref f) ∧ Binds K fd ["script"] []
theorem al_zero (T : Txt K mg) (Z : Fs K mg) : Al P w K mg base (run 0) 0 where
  c_is_between := let ⟨f, fd, F, g, b⟩ := Z.f_is_between; ⟨fun _ _ _ => rfl, f, fd, _, none_left, g, F.kp, b⟩
  c_is_text := let ⟨f, fd, F, g, b⟩ := Z.f_is_text; ⟨fun _ _ _ => rfl, f, fd, _, none_left, g, F.kp, b⟩
  c_is_span := let ⟨f, fd, F, g, b⟩ := Z.f_is_span; ⟨fun _ _ _ => rfl, f, fd, _, none_left, g, F.kp, b⟩
  c_is_simple := let ⟨f, fd, F, g, b⟩ := Z.f_is_simple; ⟨fun _ _ _ => rfl, f, fd, _, none_left, g, F.kp, b⟩
  c_is_field := let ⟨f, fd, F, g, b⟩ := Z.f_is_field; ⟨fun _ _ _ => rfl, f, fd, _, none_left, g, F.kp, b⟩
  c_is_format := let ⟨f, fd, F, g, b⟩ := Z.f_is_format; ⟨fun _ _ _ => rfl, f, fd, _, none_left, g, F.kp, b⟩
  c_check_format := let ⟨f, fd, F, g, b⟩ := Z.f_check_format; ⟨fun _ _ _ => rfl, f, fd, _, none_left, g, F.kp, b⟩
  c_field_text := let ⟨f, fd, F, g, b⟩ := Z.f_field_text; ⟨fun _ _ _ => rfl, f, fd, _, none_left, g, F.kp, b⟩
  c_form_text := let ⟨f, fd, F, g, b⟩ := Z.f_form_text; ⟨fun _ _ _ => rfl, f, fd, _, none_left, g, F.kp, b⟩
  c_notation := let ⟨f, fd, F, g, b⟩ := Z.f_notation; ⟨fun _ _ _ => rfl, f, fd, _, none_left, g, F.kp, b⟩
  c_number_of := let ⟨f, fd, F, g, b⟩ := Z.f_number_of; ⟨fun _ _ _ => rfl, f, fd, _, none_left, g, F.kp, b⟩
  c_numbers_in := let ⟨f, fd, F, g, b⟩ := Z.f_numbers_in; ⟨fun _ _ _ => rfl, f, fd, _, none_left, g, F.kp, b⟩
  c_read_field := let ⟨f, fd, F, g, b⟩ := Z.f_read_field; ⟨fun _ _ _ => rfl, f, fd, _, none_left, g, F.kp, b⟩
  c_format_from := let ⟨f, fd, F, g, b⟩ := Z.f_format_from; ⟨fun _ _ _ => rfl, f, fd, _, none_left, g, F.kp, b⟩
  c__law_town := let ⟨f, fd, F, g, b⟩ := Z.f__law_town; ⟨fun _ _ _ => rfl, f, fd, _, none_left, g, F.kp, b⟩
  c__law_draw := let ⟨f, fd, F, g, b⟩ := Z.f__law_draw; ⟨fun _ _ _ => rfl, f, fd, _, none_left, g, F.kp, b⟩
  c__law_pick := let ⟨f, fd, F, g, b⟩ := Z.f__law_pick; ⟨fun _ _ _ => rfl, f, fd, _, none_left, g, F.kp, b⟩
  c__law_outcome := let ⟨f, fd, F, g, b⟩ := Z.f__law_outcome; ⟨fun _ _ _ => rfl, f, fd, _, none_left, g, F.kp, b⟩
  c__law_name := let ⟨f, fd, F, g, b⟩ := Z.f__law_name; ⟨fun _ _ _ => rfl, f, fd, _, none_left, g, F.kp, b⟩
  c__law_raises := let ⟨f, fd, F, g, b⟩ := Z.f__law_raises; ⟨fun _ _ _ => rfl, f, fd, _, none_left, g, F.kp, b⟩
  c__law_signs := let ⟨f, fd, F, g, b⟩ := Z.f__law_signs; ⟨fun _ _ _ => rfl, f, fd, _, none_left, g, F.kp, b⟩
  c__law_simple := let ⟨f, fd, F, g, b⟩ := Z.f__law_simple; ⟨fun _ _ _ => rfl, f, fd, _, none_left, g, F.kp, b⟩
  c__law_field := let ⟨f, fd, F, g, b⟩ := Z.f__law_field; ⟨fun _ _ _ => rfl, f, fd, _, none_left, g, F.kp, b⟩
  c__law_form := let ⟨f, fd, F, g, b⟩ := Z.f__law_form; ⟨fun _ _ _ => rfl, f, fd, _, none_left, g, F.kp, b⟩
  c__law_call := let ⟨f, fd, F, g, b⟩ := Z.f__law_call; ⟨fun _ _ _ => rfl, f, fd, _, none_left, g, F.kp, b⟩
  c__law_line := let ⟨f, fd, F, g, b⟩ := Z.f__law_line; ⟨fun _ _ _ => rfl, f, fd, _, none_left, g, F.kp, b⟩
  c__law_number := let ⟨f, fd, F, g, b⟩ := Z.f__law_number; ⟨fun _ _ _ => rfl, f, fd, _, none_left, g, F.kp, b⟩
  c__law_part := let ⟨f, fd, F, g, b⟩ := Z.f__law_part; ⟨fun _ _ _ => rfl, f, fd, _, none_left, g, F.kp, b⟩
  c_law := let ⟨f, fd, F, g, b⟩ := Z.f_law; ⟨fun _ _ _ => rfl, f, fd, _, none_left, g, F.kp, b⟩
theorem al_succ {k : Nat} (T : Txt K mg) (Z : Fs K mg) (G : Al P w K mg base (run k) k) : Al P w K mg base (run (k + 1)) (k + 1) where
  c_is_between := let ⟨f, fd, F, g, b⟩ := Z.f_is_between; ⟨fnM_len, f, fd, _, d_is_between T G F, g, F.kp, b⟩
  c_is_text := let ⟨f, fd, F, g, b⟩ := Z.f_is_text; ⟨fnM_len, f, fd, _, d_is_text T G F, g, F.kp, b⟩
  c_is_span := let ⟨f, fd, F, g, b⟩ := Z.f_is_span; ⟨fnM_len, f, fd, _, d_is_span T G F, g, F.kp, b⟩
  c_is_simple := let ⟨f, fd, F, g, b⟩ := Z.f_is_simple; ⟨fnM_len, f, fd, _, d_is_simple T G F, g, F.kp, b⟩
  c_is_field := let ⟨f, fd, F, g, b⟩ := Z.f_is_field; ⟨fnM_len, f, fd, _, d_is_field T G F, g, F.kp, b⟩
  c_is_format := let ⟨f, fd, F, g, b⟩ := Z.f_is_format; ⟨fnM_len, f, fd, _, d_is_format T G F, g, F.kp, b⟩
  c_check_format := let ⟨f, fd, F, g, b⟩ := Z.f_check_format; ⟨fnM_len, f, fd, _, d_check_format T G F, g, F.kp, b⟩
  c_field_text := let ⟨f, fd, F, g, b⟩ := Z.f_field_text; ⟨fnM_len, f, fd, _, d_field_text T G F, g, F.kp, b⟩
  c_form_text := let ⟨f, fd, F, g, b⟩ := Z.f_form_text; ⟨fnM_len, f, fd, _, d_form_text T G F, g, F.kp, b⟩
  c_notation := let ⟨f, fd, F, g, b⟩ := Z.f_notation; ⟨fnM_len, f, fd, _, d_notation T G F, g, F.kp, b⟩
  c_number_of := let ⟨f, fd, F, g, b⟩ := Z.f_number_of; ⟨fnM_len, f, fd, _, d_number_of T G F, g, F.kp, b⟩
  c_numbers_in := let ⟨f, fd, F, g, b⟩ := Z.f_numbers_in; ⟨fnM_len, f, fd, _, d_numbers_in T G F, g, F.kp, b⟩
  c_read_field := let ⟨f, fd, F, g, b⟩ := Z.f_read_field; ⟨fnM_len, f, fd, _, d_read_field T G F, g, F.kp, b⟩
  c_format_from := let ⟨f, fd, F, g, b⟩ := Z.f_format_from; ⟨fnM_len, f, fd, _, d_format_from T G F, g, F.kp, b⟩
  c__law_town := let ⟨f, fd, F, g, b⟩ := Z.f__law_town; ⟨fnM_len, f, fd, _, d__law_town T G F, g, F.kp, b⟩
  c__law_draw := let ⟨f, fd, F, g, b⟩ := Z.f__law_draw; ⟨fnM_len, f, fd, _, d__law_draw T G F, g, F.kp, b⟩
  c__law_pick := let ⟨f, fd, F, g, b⟩ := Z.f__law_pick; ⟨fnM_len, f, fd, _, d__law_pick T G F, g, F.kp, b⟩
  c__law_outcome := let ⟨f, fd, F, g, b⟩ := Z.f__law_outcome; ⟨fnM_len, f, fd, _, d__law_outcome T G F, g, F.kp, b⟩
  c__law_name := let ⟨f, fd, F, g, b⟩ := Z.f__law_name; ⟨fnM_len, f, fd, _, d__law_name T G F, g, F.kp, b⟩
  c__law_raises := let ⟨f, fd, F, g, b⟩ := Z.f__law_raises; ⟨fnM_len, f, fd, _, d__law_raises T G F, g, F.kp, b⟩
  c__law_signs := let ⟨f, fd, F, g, b⟩ := Z.f__law_signs; ⟨fnM_len, f, fd, _, d__law_signs T G F, g, F.kp, b⟩
  c__law_simple := let ⟨f, fd, F, g, b⟩ := Z.f__law_simple; ⟨fnM_len, f, fd, _, d__law_simple T G F, g, F.kp, b⟩
  c__law_field := let ⟨f, fd, F, g, b⟩ := Z.f__law_field; ⟨fnM_len, f, fd, _, d__law_field T G F, g, F.kp, b⟩
  c__law_form := let ⟨f, fd, F, g, b⟩ := Z.f__law_form; ⟨fnM_len, f, fd, _, d__law_form T G F, g, F.kp, b⟩
  c__law_call := let ⟨f, fd, F, g, b⟩ := Z.f__law_call; ⟨fnM_len, f, fd, _, d__law_call T G F, g, F.kp, b⟩
  c__law_line := let ⟨f, fd, F, g, b⟩ := Z.f__law_line; ⟨fnM_len, f, fd, _, d__law_line T G F, g, F.kp, b⟩
  c__law_number := let ⟨f, fd, F, g, b⟩ := Z.f__law_number; ⟨fnM_len, f, fd, _, d__law_number T G F, g, F.kp, b⟩
  c__law_part := let ⟨f, fd, F, g, b⟩ := Z.f__law_part; ⟨fnM_len, f, fd, _, d__law_part T G F, g, F.kp, b⟩
  c_law := let ⟨f, fd, F, g, b⟩ := Z.f_law; ⟨fnM_len, f, fd, _, d_law T G F, g, F.kp, b⟩
theorem al_all (T : Txt K mg) (Z : Fs K mg) : ∀ k, Al P w K mg base (run k) k
  | 0 => al_zero T Z
  | k + 1 => al_succ T Z (al_all T Z k)
end
section
variable {K : PySem.W.Frag} {h : Heap} {mg : Str → Option Value}
theorem c_mk {x : Str} {u : Value} {z : Str} (X : K.In h) (G : h.Ns mainGlobals mg) (a : PySem.W.nsIn K mainGlobals x = some (some u)) (e : ∃ t, u = .str z t) : ∃ t, mg x = some (.str z t) := by
  obtain ⟨t, rfl⟩ := e
  exact ⟨t, PySem.W.mg_of X G a⟩
theorem f_mk {x : Str} {st : Stmt} {ps : List Str} {f : Addr} {oc : Value} {od an : Option Addr} {sl : Array (Option Value)} {kV dc pm cd ct : Value} (X : K.In h) (G : h.Ns mainGlobals mg) (a : PySem.W.nsIn K mainGlobals x = some (some (.ref f)))
    (l : K.lookup f = some ⟨oc, od, .func (PySem.W.fnOf x x (defArgs st) (defBody st) (defScope st) .none kV dc pm an cd ct), sl⟩) (c : PySem.W.codeIn K cd x = true) (kp : PySem.W.keepIn K (.ref f) = true)
    (hb : ∀ (kV doc pm : Value) (an : Option Addr) (cdv ct : Value) (us : List Value), us.length = ps.length → bindArgs (PySem.W.fnOf x x (defArgs st) (defBody st) (defScope st) .none kV doc pm an cdv ct) ⟨us, []⟩ = pure (ps.zip us)) :
    ∃ f fd, Fun K x x st f fd ∧ mg x = some (.ref f) ∧ Binds K fd ps [] := ⟨f, _, fun_mk l c kp, PySem.W.mg_of X G a, (fun_mk l c kp).binds hb⟩
end
end FT
end
section
namespace FT
open PySem L2
theorem walk {l : PySem.W.OpenLaw} {q : Program} {loose : List Str} {XP : (Str → Option Value) → Heap → Prop} {YP : World → Heap → Prop} {d : DefRec} {K : Params → PySem.W.Frag} (hn : l.most = some 63) (hdf : d.params.defaults = []) (hname : d.name = "law")
    (hY : ∀ (w : World) (h : Heap), YP w h → (K w.params).In h) (hm : ∀ ns : List Int, ns.length ≤ 63 → ∃ h, run 100 28 [.rol (ns.map .int)] [] = .ok (.bl true) h)
    (F : ∀ (w : World) (mg : Str → Option Value) (h : Heap), (K w.params).In h → h.Ns mainGlobals mg → Txt (K w.params) mg ∧ Fs (K w.params) mg) :
    PySem.W.WalkO q loose XP YP l.row.toRowW d [] (fun f vs => PySem.call f vs) := by
  refine L2.walk_of (n := 63) (k := 100) (x := "script") (CX := fun w => L2.CX l.prog w) (sp := fun w => spLaw (K w.params)) hn (by decide) hdf ⟨rfl, by decide, by decide⟩ hY (fun w mg fa h KX G hmg => ?_) (fun _ H a ns hl ho hS => ⟨a, ns, rfl, hS, hl, ho, fun _ => rfl⟩) fun w H s e s' z => ?_
  · obtain ⟨T, Z⟩ := F w mg h KX G
    rw [hname] at hmg
    have Z1 := Z.f_law
    obtain ⟨f, fd, F1, g1, b1⟩ := Z1
    have e : fa = f := by
      have := hmg.symm.trans g1
      cases this
      rfl
    subst e
    refine ⟨fd, fun s u => ?_, fun base _ _ => (d_law T (al_all T Z 99) F1).imp (sp_law hm)⟩
    obtain ⟨oc, od, kV, doc, pm, an, cdv, ct, osl, rfl, lk, hcd⟩ := F1.ex
    exact .of_eq rfl
  · obtain ⟨_, _, _, _, _, _, _, _, _, _, _, _, z⟩ := z
    exact z
end FT
open PySem PySem.W PyProof.Rows
set_option maxRecDepth 100000 in
set_option maxHeartbeats 0 in
theorem PySem.Challenge.cw_fieldtexts_k72_whole_notation_holds : PySem.Challenge.rw_fieldtexts_k72_whole_notation.Holds := by
  w_on; o_law; k_head; (case hw => w_witness2)
  k_fill
  refine FT.walk (l := PySem.Challenge.rw_fieldtexts_k72_whole_notation) rfl rfl rfl (fun w h Y => PySem.W.kIn_of Y) FT.law_holds ?F
  case F =>
    intro w mg h KX G
    refine' ⟨⟨PySem.W.mg_none_of KX G ?z0, PySem.W.mg_none_of KX G ?z1, PySem.W.mg_none_of KX G ?z2, PySem.W.mg_none_of KX G ?z3, PySem.W.mg_none_of KX G ?z4, PySem.W.mg_none_of KX G ?z5, PySem.W.mg_none_of KX G ?z6, PySem.W.mg_none_of KX G ?z7, PySem.W.mg_none_of KX G ?z8, PySem.W.mg_none_of KX G ?z9, PySem.W.mg_none_of KX G ?z10, PySem.W.mg_none_of KX G ?z11, PySem.W.mg_none_of KX G ?z12, PySem.W.mg_none_of KX G ?z13, FT.gt_mk KX G ?y0 ?yl0 ?ys0 ?x0, FT.c_mk KX G ?y1 ?x1, FT.g_mk KX G ?gg0, FT.g_mk KX G ?gg1, FT.g_mk KX G ?gg2, FT.g_mk KX G ?gg3, FT.g_mk KX G ?gg4, FT.g_mk KX G ?gg5, FT.g_mk KX G ?gg6, FT.g_mk KX G ?gg7, FT.g_mk KX G ?gg8, FT.g_mk KX G ?gg9, FT.g_mk KX G ?gg10, FT.x_mk KX G ?xa0 ?xb0 ?xc0 ?xd0 ?xe0, FT.x_mk KX G ?xa1 ?xb1 ?xc1 ?xd1 ?xe1, FT.exc_mk KX G (FT.CFs.cons ?en0 ?ed0 ?et0 (FT.CFs.cons ?en1 ?ed1 ?et1 (FT.CFs.cons ?en2 ?ed2 ?et2 (FT.CFs.cons ?en3 ?ed3 ?et3 (FT.CFs.cons ?en4 ?ed4 ?et4 (FT.CFs.cons ?en5 ?ed5 ?et5 (FT.CFs.cons ?en6 ?ed6 ?et6 (FT.CFs.cons ?en7 ?ed7 ?et7 (FT.CFs.cons ?en8 ?ed8 ?et8 (FT.CFs.cons ?en9 ?ed9 ?et9 (FT.CFs.cons ?en10 ?ed10 ?et10 FT.CFs.nil))))))))))) ?eNd ?ena ?ehs ?fn ?fb ?fd ?ft (FT.Rows.cons ?rn0 ?rq0_0 ?rq0_1 ?rq0_2 ?rq0_3 ?rq0_4 ?rq0_5 ?rq0_6 ?rq0_7 ?rv0 ?rf0 (FT.Row.cons ?w0_0 (FT.Row.cons ?w0_1 (FT.Row.cons ?w0_2 (FT.Row.cons ?w0_3 (FT.Row.cons ?w0_4 (FT.Row.cons ?w0_5 (FT.Row.cons ?w0_6 (FT.Row.cons ?w0_7 (FT.Row.cons ?w0_8 (FT.Row.cons ?w0_9 (FT.Row.cons ?w0_10 FT.Row.nil))))))))))) (FT.Rows.cons ?rn1 ?rq1_0 ?rq1_1 ?rq1_2 ?rq1_3 ?rq1_4 ?rq1_5 ?rq1_6 ?rq1_7 ?rv1 ?rf1 (FT.Row.cons ?w1_0 (FT.Row.cons ?w1_1 (FT.Row.cons ?w1_2 (FT.Row.cons ?w1_3 (FT.Row.cons ?w1_4 (FT.Row.cons ?w1_5 (FT.Row.cons ?w1_6 (FT.Row.cons ?w1_7 (FT.Row.cons ?w1_8 (FT.Row.cons ?w1_9 (FT.Row.cons ?w1_10 FT.Row.nil))))))))))) FT.Rows.nil))⟩, ⟨FT.f_mk KX G ?a0 ?l0 ?c0 ?k0 (fun _ _ _ _ _ _ us hl => ?h0), FT.f_mk KX G ?a1 ?l1 ?c1 ?k1 (fun _ _ _ _ _ _ us hl => ?h1), FT.f_mk KX G ?a2 ?l2 ?c2 ?k2 (fun _ _ _ _ _ _ us hl => ?h2), FT.f_mk KX G ?a3 ?l3 ?c3 ?k3 (fun _ _ _ _ _ _ us hl => ?h3), FT.f_mk KX G ?a4 ?l4 ?c4 ?k4 (fun _ _ _ _ _ _ us hl => ?h4), FT.f_mk KX G ?a5 ?l5 ?c5 ?k5 (fun _ _ _ _ _ _ us hl => ?h5), FT.f_mk KX G ?a6 ?l6 ?c6 ?k6 (fun _ _ _ _ _ _ us hl => ?h6), FT.f_mk KX G ?a7 ?l7 ?c7 ?k7 (fun _ _ _ _ _ _ us hl => ?h7), FT.f_mk KX G ?a8 ?l8 ?c8 ?k8 (fun _ _ _ _ _ _ us hl => ?h8), FT.f_mk KX G ?a9 ?l9 ?c9 ?k9 (fun _ _ _ _ _ _ us hl => ?h9), FT.f_mk KX G ?a10 ?l10 ?c10 ?k10 (fun _ _ _ _ _ _ us hl => ?h10), FT.f_mk KX G ?a11 ?l11 ?c11 ?k11 (fun _ _ _ _ _ _ us hl => ?h11), FT.f_mk KX G ?a12 ?l12 ?c12 ?k12 (fun _ _ _ _ _ _ us hl => ?h12), FT.f_mk KX G ?a13 ?l13 ?c13 ?k13 (fun _ _ _ _ _ _ us hl => ?h13), FT.f_mk KX G ?a14 ?l14 ?c14 ?k14 (fun _ _ _ _ _ _ us hl => ?h14), FT.f_mk KX G ?a15 ?l15 ?c15 ?k15 (fun _ _ _ _ _ _ us hl => ?h15), FT.f_mk KX G ?a16 ?l16 ?c16 ?k16 (fun _ _ _ _ _ _ us hl => ?h16), FT.f_mk KX G ?a17 ?l17 ?c17 ?k17 (fun _ _ _ _ _ _ us hl => ?h17), FT.f_mk KX G ?a18 ?l18 ?c18 ?k18 (fun _ _ _ _ _ _ us hl => ?h18), FT.f_mk KX G ?a19 ?l19 ?c19 ?k19 (fun _ _ _ _ _ _ us hl => ?h19), FT.f_mk KX G ?a20 ?l20 ?c20 ?k20 (fun _ _ _ _ _ _ us hl => ?h20), FT.f_mk KX G ?a21 ?l21 ?c21 ?k21 (fun _ _ _ _ _ _ us hl => ?h21), FT.f_mk KX G ?a22 ?l22 ?c22 ?k22 (fun _ _ _ _ _ _ us hl => ?h22), FT.f_mk KX G ?a23 ?l23 ?c23 ?k23 (fun _ _ _ _ _ _ us hl => ?h23), FT.f_mk KX G ?a24 ?l24 ?c24 ?k24 (fun _ _ _ _ _ _ us hl => ?h24), FT.f_mk KX G ?a25 ?l25 ?c25 ?k25 (fun _ _ _ _ _ _ us hl => ?h25), FT.f_mk KX G ?a26 ?l26 ?c26 ?k26 (fun _ _ _ _ _ _ us hl => ?h26), FT.f_mk KX G ?a27 ?l27 ?c27 ?k27 (fun _ _ _ _ _ _ us hl => ?h27), FT.f_mk KX G ?a28 ?l28 ?c28 ?k28 (fun _ _ _ _ _ _ us hl => ?h28)⟩⟩
    (case z0 => k_is)
    (case z1 => k_is)
    (case z2 => k_is)
    (case z3 => k_is)
    (case z4 => k_is)
    (case z5 => k_is)
    (case z6 => k_is)
    (case z7 => k_is)
    (case z8 => k_is)
    (case z9 => k_is)
    (case z10 => k_is)
    (case z11 => k_is)
    (case z12 => k_is)
    (case z13 => k_is)
    (case y0 => k_is); (case yl0 => k_is); (case ys0 => decide +kernel); (case x0 => exact (.cons ⟨_, rfl⟩ (.cons ⟨_, rfl⟩ (.cons ⟨_, rfl⟩ (.cons ⟨_, rfl⟩ (.cons ⟨_, rfl⟩ .nil))))))
    (case y1 => k_is); (case x1 => exact ⟨_, rfl⟩)
    (case gg0 => k_is)
    (case gg1 => k_is)
    (case gg2 => k_is)
    (case gg3 => k_is)
    (case gg4 => k_is)
    (case gg5 => k_is)
    (case gg6 => k_is)
    (case gg7 => k_is)
    (case gg8 => k_is)
    (case gg9 => k_is)
    (case gg10 => k_is)
    (case xa0 => k_is); (case xb0 => k_exc); (case xc0 => k_is); (case xd0 => k_is); (case xe0 => k_is)
    (case xa1 => k_is); (case xb1 => k_exc); (case xc1 => k_is); (case xd1 => k_is); (case xe1 => k_is)
    (case en0 => k_is)
    (case ed0 => k_is)
    (case et0 => k_is)
    (case en1 => k_is)
    (case ed1 => k_is)
    (case et1 => k_is)
    (case en2 => k_is)
    (case ed2 => k_is)
    (case et2 => k_is)
    (case en3 => k_is)
    (case ed3 => k_is)
    (case et3 => k_is)
    (case en4 => k_is)
    (case ed4 => k_is)
    (case et4 => k_is)
    (case en5 => k_is)
    (case ed5 => k_is)
    (case et5 => k_is)
    (case en6 => k_is)
    (case ed6 => k_is)
    (case et6 => k_is)
    (case en7 => k_is)
    (case ed7 => k_is)
    (case et7 => k_is)
    (case en8 => k_is)
    (case ed8 => k_is)
    (case et8 => k_is)
    (case en9 => k_is)
    (case ed9 => k_is)
    (case et9 => k_is)
    (case en10 => k_is)
    (case ed10 => k_is)
    (case et10 => k_is)
    (case fn => k_is)
    (case fb => k_is)
    (case fd => k_is)
    (case ft => k_is)
    (case rn0 => k_is)
    (case rq0_0 => k_is)
    (case rq0_1 => k_is)
    (case rq0_2 => k_is)
    (case rq0_3 => k_is)
    (case rq0_4 => k_is)
    (case rq0_5 => k_is)
    (case rq0_6 => k_is)
    (case rq0_7 => k_is)
    (case rv0 => k_is)
    (case rf0 => k_is)
    (case w0_0 => k_is)
    (case w0_1 => k_is)
    (case w0_2 => k_is)
    (case w0_3 => k_is)
    (case w0_4 => k_is)
    (case w0_5 => k_is)
    (case w0_6 => k_is)
    (case w0_7 => k_is)
    (case w0_8 => k_is)
    (case w0_9 => k_is)
    (case w0_10 => k_is)
    (case rn1 => k_is)
    (case rq1_0 => k_is)
    (case rq1_1 => k_is)
    (case rq1_2 => k_is)
    (case rq1_3 => k_is)
    (case rq1_4 => k_is)
    (case rq1_5 => k_is)
    (case rq1_6 => k_is)
    (case rq1_7 => k_is)
    (case rv1 => k_is)
    (case rf1 => k_is)
    (case w1_0 => k_is)
    (case w1_1 => k_is)
    (case w1_2 => k_is)
    (case w1_3 => k_is)
    (case w1_4 => k_is)
    (case w1_5 => k_is)
    (case w1_6 => k_is)
    (case w1_7 => k_is)
    (case w1_8 => k_is)
    (case w1_9 => k_is)
    (case w1_10 => k_is)
    (case eNd => decide); (case ena => decide +kernel); (case ehs => decide +kernel)
    (case a0 => k_is); (case l0 => k_is); (case c0 => k_is); (case k0 => k_is); (case h0 => match us, hl with | [_, _, _], _ => rfl)
    (case a1 => k_is); (case l1 => k_is); (case c1 => k_is); (case k1 => k_is); (case h1 => match us, hl with | [_, _, _], _ => rfl)
    (case a2 => k_is); (case l2 => k_is); (case c2 => k_is); (case k2 => k_is); (case h2 => match us, hl with | [_, _, _, _], _ => rfl)
    (case a3 => k_is); (case l3 => k_is); (case c3 => k_is); (case k3 => k_is); (case h3 => match us, hl with | [_], _ => rfl)
    (case a4 => k_is); (case l4 => k_is); (case c4 => k_is); (case k4 => k_is); (case h4 => match us, hl with | [_], _ => rfl)
    (case a5 => k_is); (case l5 => k_is); (case c5 => k_is); (case k5 => k_is); (case h5 => match us, hl with | [_], _ => rfl)
    (case a6 => k_is); (case l6 => k_is); (case c6 => k_is); (case k6 => k_is); (case h6 => match us, hl with | [_], _ => rfl)
    (case a7 => k_is); (case l7 => k_is); (case c7 => k_is); (case k7 => k_is); (case h7 => match us, hl with | [_], _ => rfl)
    (case a8 => k_is); (case l8 => k_is); (case c8 => k_is); (case k8 => k_is); (case h8 => match us, hl with | [_], _ => rfl)
    (case a9 => k_is); (case l9 => k_is); (case c9 => k_is); (case k9 => k_is); (case h9 => match us, hl with | [_], _ => rfl)
    (case a10 => k_is); (case l10 => k_is); (case c10 => k_is); (case k10 => k_is); (case h10 => match us, hl with | [_], _ => rfl)
    (case a11 => k_is); (case l11 => k_is); (case c11 => k_is); (case k11 => k_is); (case h11 => match us, hl with | [_], _ => rfl)
    (case a12 => k_is); (case l12 => k_is); (case c12 => k_is); (case k12 => k_is); (case h12 => match us, hl with | [_], _ => rfl)
    (case a13 => k_is); (case l13 => k_is); (case c13 => k_is); (case k13 => k_is); (case h13 => match us, hl with | [_], _ => rfl)
    (case a14 => k_is); (case l14 => k_is); (case c14 => k_is); (case k14 => k_is); (case h14 => match us, hl with | [_], _ => rfl)
    (case a15 => k_is); (case l15 => k_is); (case c15 => k_is); (case k15 => k_is); (case h15 => match us, hl with | [_, _, _], _ => rfl)
    (case a16 => k_is); (case l16 => k_is); (case c16 => k_is); (case k16 => k_is); (case h16 => match us, hl with | [_, _, _], _ => rfl)
    (case a17 => k_is); (case l17 => k_is); (case c17 => k_is); (case k17 => k_is); (case h17 => match us, hl with | [_, _], _ => rfl)
    (case a18 => k_is); (case l18 => k_is); (case c18 => k_is); (case k18 => k_is); (case h18 => match us, hl with | [_], _ => rfl)
    (case a19 => k_is); (case l19 => k_is); (case c19 => k_is); (case k19 => k_is); (case h19 => match us, hl with | [_], _ => rfl)
    (case a20 => k_is); (case l20 => k_is); (case c20 => k_is); (case k20 => k_is); (case h20 => match us, hl with | [_, _, _, _], _ => rfl)
    (case a21 => k_is); (case l21 => k_is); (case c21 => k_is); (case k21 => k_is); (case h21 => match us, hl with | [_, _, _], _ => rfl)
    (case a22 => k_is); (case l22 => k_is); (case c22 => k_is); (case k22 => k_is); (case h22 => match us, hl with | [_, _, _], _ => rfl)
    (case a23 => k_is); (case l23 => k_is); (case c23 => k_is); (case k23 => k_is); (case h23 => match us, hl with | [_, _, _, _], _ => rfl)
    (case a24 => k_is); (case l24 => k_is); (case c24 => k_is); (case k24 => k_is); (case h24 => match us, hl with | [_, _], _ => rfl)
    (case a25 => k_is); (case l25 => k_is); (case c25 => k_is); (case k25 => k_is); (case h25 => match us, hl with | [_], _ => rfl)
    (case a26 => k_is); (case l26 => k_is); (case c26 => k_is); (case k26 => k_is); (case h26 => match us, hl with | [_], _ => rfl)
    (case a27 => k_is); (case l27 => k_is); (case c27 => k_is); (case k27 => k_is); (case h27 => match us, hl with | [_], _ => rfl)
    (case a28 => k_is); (case l28 => k_is); (case c28 => k_is); (case k28 => k_is); (case h28 => match us, hl with | [_], _ => rfl)
end
