import PyProof.Rows.All
import Wide.All
import OpenK.AllK
import Wide.FinOn
import HandS.ForMost
import HandS.ForExc
import HandS.Evl
import HandS.Rev
import HandS.CallSlots
import HandS.Zip
import HandS.IsInst
import HandS.StrMore
import KE.IntTextLaws
import KE.SortData
import PyProof.Rows.StrLawsPart
import PyProof.Rows.StrPartPair
import PyProof.Rows.StrCountLaw
import PyProof.Rows.StrJoinMade
import PySem.Challenge.RW_crossracks_k91_words
set_option Elab.async false
set_option linter.all false
set_option maxRecDepth 100000
set_option maxHeartbeats 4000000
/-! MP: data without addresses over the hand layer: a reading for each construct on plain data -/
namespace MP
open PySem PySem.Spec PyProof.Rows L2
open Evl (Ex fresh_back ex_rd ex_l ex_t)

/-- data -/
inductive D where
  | non | bl (b : Bool) | int (i : Int) | str (x : Str) | ref (a : Addr) | ty (n : String)
  | lst (l : List D) | tup (l : List D)
  | dK (l : List (Key × D)) | dT (l : List (List Key × D))

def D.scal : D → Bool
  | .non => true | .bl _ => true | .int _ => true | .str _ => true | .ref _ => true | .ty _ => true
  | _ => false

section
variable (K : PySem.W.Frag) (H : Hp)
mutual
/-- the value v stands for the data d, all of it read in H -/
inductive R : V → D → Prop where
  | non : R .non .non
  | bl (b : Bool) : R (.bl b) (.bl b)
  | int (i : Int) : R (.int i) (.int i)
  | str (x : Str) : R (.str x) (.str x)
  | ref (a : Addr) : R (.ref a) (.ref a)
  | ty (n : String) : R (.ty n) (.ty n)
  | lst {a : Addr} {xs : List V} {ds : List D} : SqL K H a xs → RA xs ds → R (.ref a) (.lst ds)
  | tup {a : Addr} {xs : List V} {ds : List D} : SqT K H a xs → RA xs ds → R (.ref a) (.tup ds)
  | dK {a : Addr} {kvs : List (Key × V)} {ds : List (Key × D)} : Rd H a (.dK kvs) → RK kvs ds → R (.ref a) (.dK ds)
  | dT {a : Addr} {kvs : List (List Key × V)} {ds : List (List Key × D)} : Rd H a (.dT kvs) → RT kvs ds → R (.ref a) (.dT ds)
inductive RA : List V → List D → Prop where
  | nil : RA [] []
  | cons {v : V} {vs : List V} {d : D} {ds : List D} : R v d → RA vs ds → RA (v :: vs) (d :: ds)
inductive RK : List (Key × V) → List (Key × D) → Prop where
  | nil : RK [] []
  | cons {k : Key} {v : V} {vs : List (Key × V)} {d : D} {ds : List (Key × D)} : R v d → RK vs ds → RK ((k, v) :: vs) ((k, d) :: ds)
inductive RT : List (List Key × V) → List (List Key × D) → Prop where
  | nil : RT [] []
  | cons {k : List Key} {v : V} {vs : List (List Key × V)} {d : D} {ds : List (List Key × D)} : R v d → RT vs ds → RT ((k, v) :: vs) ((k, d) :: ds)
end
end

section
variable {K : PySem.W.Frag} {H H' G G' : Hp}
mutual
theorem R.mono (e : Ex H H') : ∀ {v : V} {d : D}, R K H v d → R K H' v d
  | _, _, .non => .non
  | _, _, .bl b => .bl b
  | _, _, .int i => .int i
  | _, _, .str x => .str x
  | _, _, .ref a => .ref a
  | _, _, .ty n => .ty n
  | _, _, .lst h r => .lst (ex_l e h) (RA.mono e r)
  | _, _, .tup h r => .tup (ex_t e h) (RA.mono e r)
  | _, _, .dK h r => .dK (ex_rd e h) (RK.mono e r)
  | _, _, .dT h r => .dT (ex_rd e h) (RT.mono e r)
theorem RA.mono (e : Ex H H') : ∀ {vs : List V} {ds : List D}, RA K H vs ds → RA K H' vs ds
  | _, _, .nil => .nil
  | _, _, .cons h r => .cons (R.mono e h) (RA.mono e r)
theorem RK.mono (e : Ex H H') : ∀ {vs : List (Key × V)} {ds : List (Key × D)}, RK K H vs ds → RK K H' vs ds
  | _, _, .nil => .nil
  | _, _, .cons h r => .cons (R.mono e h) (RK.mono e r)
theorem RT.mono (e : Ex H H') : ∀ {vs : List (List Key × V)} {ds : List (List Key × D)}, RT K H vs ds → RT K H' vs ds
  | _, _, .nil => .nil
  | _, _, .cons h r => .cons (R.mono e h) (RT.mono e r)
end
theorem RA.length : ∀ {vs : List V} {ds : List D}, RA K H vs ds → vs.length = ds.length
  | _, _, .nil => rfl
  | _, _, .cons _ r => by rw [List.length_cons, List.length_cons, RA.length r]
theorem RA.app : ∀ {vs ws : List V} {ds es : List D}, RA K H vs ds → RA K H ws es → RA K H (vs ++ ws) (ds ++ es)
  | _, _, _, _, .nil, r => r
  | _, _, _, _, .cons h r, q => .cons h (RA.app r q)
theorem RA.one {v : V} {d : D} (h : R K H v d) : RA K H [v] [d] := .cons h .nil
theorem RA.get : ∀ {vs : List V} {ds : List D} {i : Nat} {v : V}, RA K H vs ds → vs[i]? = some v → ∃ d, ds[i]? = some d ∧ R K H v d
  | _, _, _, _, .nil, e => by simp at e
  | _, _, 0, _, .cons h _, e => by simp at e; subst e; exact ⟨_, rfl, h⟩
  | _, _, i + 1, v, .cons _ r, e => by
    obtain ⟨d, h1, h2⟩ := RA.get (i := i) (v := v) r (by simpa using e)
    exact ⟨d, by simpa using h1, h2⟩
theorem RA.get' : ∀ {vs : List V} {ds : List D} {i : Nat} {d : D}, RA K H vs ds → ds[i]? = some d → ∃ v, vs[i]? = some v ∧ R K H v d
  | _, _, _, _, .nil, e => by simp at e
  | _, _, 0, _, .cons h _, e => by simp at e; subst e; exact ⟨_, rfl, h⟩
  | _, _, i + 1, d, .cons _ r, e => by
    obtain ⟨v, h1, h2⟩ := RA.get' (i := i) (d := d) r (by simpa using e)
    exact ⟨v, by simpa using h1, h2⟩
theorem RA.set {v : V} {d : D} (h : R K H v d) : ∀ {vs : List V} {ds : List D} (i : Nat), RA K H vs ds → RA K H (vs.set i v) (ds.set i d)
  | _, _, _, .nil => .nil
  | _, _, 0, .cons _ r => .cons h r
  | _, _, i + 1, .cons q r => .cons q (RA.set h i r)
theorem RA.take : ∀ {vs : List V} {ds : List D} (n : Nat), RA K H vs ds → RA K H (vs.take n) (ds.take n)
  | _, _, 0, _ => .nil
  | _, _, _ + 1, .nil => .nil
  | _, _, n + 1, .cons h r => .cons h (RA.take n r)
theorem RA.drop : ∀ {vs : List V} {ds : List D} (n : Nat), RA K H vs ds → RA K H (vs.drop n) (ds.drop n)
  | _, _, 0, r => r
  | _, _, _ + 1, .nil => .nil
  | _, _, n + 1, .cons _ r => RA.drop n r
theorem R.scal {v : V} {d : D} (h : R K H v d) (s : d.scal = true) : R K H' v d := by
  cases h <;> first | exact absurd s Bool.false_ne_true | constructor
theorem RA.scal : ∀ {vs : List V} {ds : List D}, RA K H vs ds → ds.all D.scal = true → RA K H' vs ds
  | _, _, .nil, _ => .nil
  | _, _, .cons h r, s => by
    rw [List.all_cons, Bool.and_eq_true] at s
    exact .cons (h.scal s.1) (RA.scal r s.2)

/-- G' has more than G only where H had nothing -/
def Fr (G G' H : Hp) : Prop := ∀ a, G a = none → G' a ≠ none → H a = none
structure Up (H G H' G' : Hp) : Prop where
  h : Ex H H'
  g : Ex G G'
  gh : Ex G' H'
  f : Fr G G' H
theorem Up.refl (e : Ex G H) : Up H G H G := ⟨Ex.refl H, Ex.refl G, e, fun _ a b => absurd a b⟩
theorem Up.trans {H1 G1 H2 G2 : Hp} (a : Up H G H1 G1) (b : Up H1 G1 H2 G2) : Up H G H2 G2 := ⟨a.h.trans b.h, a.g.trans b.g, b.gh, fun x n p => by
  by_cases q : G1 x = none
  · exact fresh_back a.h (b.f x q p)
  · exact a.f x n q⟩
/-- the heap has grown, nothing that is read of it -/
theorem Up.grow (e : Ex G H) (k : Ex H H') : Up H G H' G := ⟨k, Ex.refl G, e.trans k, fun _ a b => absurd a b⟩
/-- a new object, to be read from then on -/
theorem Up.new (e : Ex G H) {p : Addr} {o : HO} (n : H p = none) : Up H G (upd H p o) (upd G p o) :=
  ⟨Ex.new n, Ex.new (fresh_back e n), fun a u q => by
    by_cases ha : a = p
    · subst ha; rw [upd_same] at q ⊢; exact q
    · rw [upd_ne ha] at q ⊢; exact e a u q, fun a h1 h2 => by
    by_cases ha : a = p
    · subst ha; exact n
    · rw [upd_ne ha] at h2; exact absurd h1 h2⟩

/-- a raised exception: its class, its fields -/
structure XD where
  C : Addr
  fs : List (Str × D)
inductive RF (K : PySem.W.Frag) (H : Hp) : List (Str × V) → List (Str × D) → Prop where
  | nil : RF K H [] []
  | cons {k : Str} {v : V} {vs : List (Str × V)} {d : D} {ds : List (Str × D)} : R K H v d → RF K H vs ds → RF K H ((k, v) :: vs) ((k, d) :: ds)
inductive XR (K : PySem.W.Frag) (H : Hp) : Option Addr → List (Str × D) → Prop where
  | none : XR K H none []
  | some {d : Addr} {vs : List (Str × V)} {fs : List (Str × D)} : H d = some (.xd vs) → RF K H vs fs → fs.isEmpty = false → XR K H (some d) fs
theorem RF.mono (e : Ex H H') : ∀ {vs : List (Str × V)} {ds : List (Str × D)}, RF K H vs ds → RF K H' vs ds
  | _, _, .nil => .nil
  | _, _, .cons h r => .cons (h.mono e) (RF.mono e r)
theorem XR.mono (e : Ex H H') {d : Option Addr} {fs : List (Str × D)} (h : XR K H d fs) : XR K H' d fs := by
  cases h with
  | none => exact .none
  | some h r n => exact .some (e _ _ h) (r.mono e) n
end

/-! ### the slots -/
inductive Sl where
  | fz (d : D) | ol (l : List D) | oK (l : List (Key × D)) | oT (l : List (List Key × D))
def Sl.d : Sl → D
  | .fz d => d | .ol l => .lst l | .oK l => .dK l | .oT l => .dT l
def Sl.own : Sl → Bool
  | .fz _ => false | _ => true
abbrev Env := List (Option Sl)
def ER (K : PySem.W.Frag) (G : Hp) (σ : L2.St) (env : Env) : Prop := ∀ (i : Nat) (s : Sl), env[i]? = some (some s) → ∃ v, σ[i]? = some (some v) ∧ R K G v s.d
theorem ER.mono {K : PySem.W.Frag} {G G' : Hp} {σ : L2.St} {env : Env} (e : Ex G G') (h : ER K G σ env) : ER K G' σ env := fun i s q =>
  let ⟨v, a, b⟩ := h i s q
  ⟨v, a, b.mono e⟩

abbrev XP := XD → Prop
abbrev WE := Env → (D → Prop) → XP → Prop
abbrev WT := Env → (Bool → Prop) → XP → Prop
abbrev WA := Env → (List D → Prop) → XP → Prop
abbrev WO := Env → (Option Int → Prop) → XP → Prop
/-- what is wanted of an exception -/
def ZK (K : PySem.W.Frag) (W : WX) (H G : Hp) (σ : L2.St) (Z : XP) : Prop := ∀ (x : XD) (dd : Option Addr) (H' G' : Hp), Up H G H' G' → XR K G' dd x.fs → Z x → W (.ref x.C) dd σ H'
theorem ZK.up {K : PySem.W.Frag} {W : WX} {H G H' G' : Hp} {σ : L2.St} {Z : XP} (u : Up H G H' G') (k : ZK K W H G σ Z) : ZK K W H' G' σ Z := fun x dd H2 G2 u2 r z => k x dd H2 G2 (u.trans u2) r z
/-- what follows a value -/
def VKt (K : PySem.W.Frag) (H G : Hp) (Qd : D → Prop) (Q : VK) : Prop := ∀ (v : V) (H' G' : Hp) (d : D), Up H G H' G' → R K G' v d → Qd d → Q v H'
theorem VKt.up {K : PySem.W.Frag} {H G H' G' : Hp} {Qd : D → Prop} {Q : VK} (u : Up H G H' G') (k : VKt K H G Qd Q) : VKt K H' G' Qd Q := fun v H2 G2 d u2 r z => k v H2 G2 d (u.trans u2) r z
/-- what follows a new list: it stands apart from what is read -/
def LKt (K : PySem.W.Frag) (H G : Hp) (Qd : List D → Prop) (Q : VK) : Prop := ∀ (p : Addr) (xs : List V) (H' G' : Hp) (ds : List D), Up H G H' G' → H p = none → G' p = none → H' p = some (.lst xs) → RA K G' xs ds → Qd ds → Q (.ref p) H'

def tD (K : PySem.W.Frag) (W : WX) (w : WE) : TE := fun σ H Q => ∃ (env : Env) (G : Hp) (Qd : D → Prop) (Z : XP), ER K G σ env ∧ Ex G H ∧ w env Qd Z ∧ VKt K H G Qd Q ∧ ZK K W H G σ Z
def tDL (K : PySem.W.Frag) (W : WX) (w : WA) : TE := fun σ H Q => ∃ (env : Env) (G : Hp) (Qd : List D → Prop) (Z : XP), ER K G σ env ∧ Ex G H ∧ w env Qd Z ∧ LKt K H G Qd Q ∧ ZK K W H G σ Z
def tDT (K : PySem.W.Frag) (W : WX) (w : WT) : TT := fun σ H Q => ∃ (env : Env) (G : Hp) (Qd : Bool → Prop) (Z : XP), ER K G σ env ∧ Ex G H ∧ w env Qd Z ∧ (∀ b H', Ex H H' → Qd b → Q b H') ∧ ZK K W H G σ Z
def tDA (K : PySem.W.Frag) (W : WX) (w : WA) : TA := fun σ H Q => ∃ (env : Env) (G : Hp) (Qd : List D → Prop) (Z : XP), ER K G σ env ∧ Ex G H ∧ w env Qd Z ∧ (∀ vs H' G' ds, Up H G H' G' → RA K G' vs ds → Qd ds → Q vs H') ∧ ZK K W H G σ Z
def tDO (K : PySem.W.Frag) (W : WX) (w : WO) : TO := fun σ H Q => ∃ (env : Env) (G : Hp) (Qd : Option Int → Prop) (Z : XP), ER K G σ env ∧ Ex G H ∧ w env Qd Z ∧ (∀ o H', Ex H H' → Qd o → Q o H') ∧ ZK K W H G σ Z

/-! ### weakening -/
section
variable {X : Cx} {e : Expr} {t t' : TE}
theorem pe_imp (h : PE X e t) (k : ∀ σ H Q, t' σ H Q → t σ H Q) : PE X e t' := ⟨fun pins s σ H Q I q => h.run pins s σ H Q I (k σ H Q q)⟩
theorem pt_imp {t t' : TT} (h : PT X e t) (k : ∀ σ H Q, t' σ H Q → t σ H Q) : PT X e t' := ⟨fun pins s σ H Q I q => h.run pins s σ H Q I (k σ H Q q)⟩
theorem pw_imp {t t' : TT} (h : PW X e t) (k : ∀ σ H Q, t' σ H Q → t σ H Q) : PW X e t' := ⟨fun w pins s σ H Q I q => h.run w pins s σ H Q I (k σ H Q q)⟩
theorem pa_imp {es : List Expr} {t t' : TA} (h : PA X es t) (k : ∀ σ H Q, t' σ H Q → t σ H Q) : PA X es t' := ⟨fun pos pins s σ H Q I q => h.run pos pins s σ H Q I (k σ H Q q)⟩
theorem ps_imp {st : Stmt} {t t' : TS} (h : PS X st t) (k : ∀ D σ H, t' D σ H → t D σ H) : PS X st t' := ⟨fun pins s σ H D I q => h.run pins s σ H D I (k D σ H q)⟩
theorem pss_imp {st : List Stmt} {t t' : TS} (h : PSs X st t) (k : ∀ D σ H, t' D σ H → t D σ H) : PSs X st t' := ⟨fun pins s σ H D I q => h.run pins s σ H D I (k D σ H q)⟩
end

/-! ### names, constants -/
def wVar (i : Nat) : WE := fun env Q _ => ∃ s, env[i]? = some (some s) ∧ Q s.d
def wC (d : D) : WE := fun _ Q _ => Q d
section
variable {X : Cx} {W : WX} {a b c e : Expr} {pos : Pos} {wa wb wc : WE}
theorem d_var {i : Nat} (h : PE X e (tVar i)) : PE X e (tD X.K W (wVar i)) := pe_imp h fun σ H Q ⟨env, G, Qd, Z, er, ex, ⟨s, hs, q⟩, k, _⟩ =>
  let ⟨v, hv, r⟩ := er i s hs
  ⟨v, hv, k v H G _ (Up.refl ex) r q⟩
theorem d_c {v : V} {d : D} (h : PE X e (tC v)) (r : ∀ G, R X.K G v d) : PE X e (tD X.K W (wC d)) := pe_imp h fun σ H Q ⟨env, G, Qd, Z, er, ex, q, k, _⟩ => k v H G d (Up.refl ex) (r G) q
theorem d_int {i : Int} {j} : PE X (.Constant (.int i) j pos) (tD X.K W (wC (.int i))) := d_c pe_int fun _ => .int i
theorem d_str {x : Str} {j} : PE X (.Constant (.str x) j pos) (tD X.K W (wC (.str x))) := d_c pe_str fun _ => .str x
theorem d_bl {x : Bool} {j} : PE X (.Constant (.bool x) j pos) (tD X.K W (wC (.bl x))) := d_c pe_bl fun _ => .bl x
theorem d_non {j} : PE X (.Constant .none j pos) (tD X.K W (wC .non)) := d_c pe_non fun _ => .non

/-! ### two-place and one-place operations -/
abbrev F2 := D → D → (D → Prop) → Prop
abbrev F1 := D → (D → Prop) → Prop
abbrev FA := List D → (D → Prop) → Prop
def OpD (K : PySem.W.Frag) (r : R2) (f : F2) : Prop := ∀ (G H : Hp) (x y : V) (dx dy : D) (k : D → Prop) (Q : VK), Ex G H → R K G x dx → R K G y dy → f dx dy k → VKt K H G k Q → r x y H Q
def UnD (K : PySem.W.Frag) (r : V → Hp → VK → Prop) (f : F1) : Prop := ∀ (G H : Hp) (x : V) (dx : D) (k : D → Prop) (Q : VK), Ex G H → R K G x dx → f dx k → VKt K H G k Q → r x H Q
def CaD (K : PySem.W.Frag) (r : List V → Hp → VK → Prop) (f : FA) : Prop := ∀ (G H : Hp) (vs : List V) (ds : List D) (k : D → Prop) (Q : VK), Ex G H → RA K G vs ds → f ds k → VKt K H G k Q → r vs H Q
def MtD (K : PySem.W.Frag) (r : V → List V → Hp → VK → Prop) (f : D → List D → (D → Prop) → Prop) : Prop := ∀ (G H : Hp) (x : V) (vs : List V) (dx : D) (ds : List D) (k : D → Prop) (Q : VK), Ex G H → R K G x dx → RA K G vs ds → f dx ds k → VKt K H G k Q → r x vs H Q
/-- .. whose value is a new list -/
def OpL (K : PySem.W.Frag) (r : R2) (f : D → D → (List D → Prop) → Prop) : Prop := ∀ (G H : Hp) (x y : V) (dx dy : D) (k : List D → Prop) (Q : VK), Ex G H → R K G x dx → R K G y dy → f dx dy k → LKt K H G k Q → r x y H Q
def CaL (K : PySem.W.Frag) (r : List V → Hp → VK → Prop) (f : List D → (List D → Prop) → Prop) : Prop := ∀ (G H : Hp) (vs : List V) (ds : List D) (k : List D → Prop) (Q : VK), Ex G H → RA K G vs ds → f ds k → LKt K H G k Q → r vs H Q
def MtL (K : PySem.W.Frag) (r : V → List V → Hp → VK → Prop) (f : D → List D → (List D → Prop) → Prop) : Prop := ∀ (G H : Hp) (x : V) (vs : List V) (dx : D) (ds : List D) (k : List D → Prop) (Q : VK), Ex G H → R K G x dx → RA K G vs ds → f dx ds k → LKt K H G k Q → r x vs H Q

def wOp (f : F2) (wa wb : WE) : WE := fun env Q Z => wa env (fun x => wb env (fun y => f x y Q) Z) Z
def wUn (f : F1) (wa : WE) : WE := fun env Q Z => wa env (fun x => f x Q) Z
def wCa (f : FA) (wa : WA) : WE := fun env Q Z => wa env (fun xs => f xs Q) Z
def wMt (f : D → List D → (D → Prop) → Prop) (wo : WE) (wa : WA) : WE := fun env Q Z => wo env (fun x => wa env (fun xs => f x xs Q) Z) Z
def wOpL (f : D → D → (List D → Prop) → Prop) (wa wb : WE) : WA := fun env Q Z => wa env (fun x => wb env (fun y => f x y Q) Z) Z
def wCaL (f : List D → (List D → Prop) → Prop) (wa : WA) : WA := fun env Q Z => wa env (fun xs => f xs Q) Z
def wMtL (f : D → List D → (List D → Prop) → Prop) (wo : WE) (wa : WA) : WA := fun env Q Z => wo env (fun x => wa env (fun xs => f x xs Q) Z) Z
/-- a new list as a value -/
def wL (w : WA) : WE := fun env Q Z => w env (fun ds => Q (.lst ds)) Z

theorem t_op {r : R2} {f : F2} {K : PySem.W.Frag} (od : OpD K r f) (σ : L2.St) (H : Hp) (Q : VK) (h : tD K W (wOp f wa wb) σ H Q) : tOp r (tD K W wa) (tD K W wb) σ H Q :=
  let ⟨env, G, Qd, Z, er, ex, w, k, z⟩ := h
  ⟨env, G, _, Z, er, ex, w, fun x H1 G1 dx u rx w1 => ⟨env, G1, _, Z, er.mono u.g, u.gh, w1, fun y H2 G2 dy u2 ry w2 =>
    od G2 H2 x y dx dy _ Q u2.gh (rx.mono u2.g) ry w2 (k.up (u.trans u2)), z.up u⟩, z⟩
theorem t_opL {r : R2} {f : D → D → (List D → Prop) → Prop} {K : PySem.W.Frag} (od : OpL K r f) (σ : L2.St) (H : Hp) (Q : VK) (h : tDL K W (wOpL f wa wb) σ H Q) : tOp r (tD K W wa) (tD K W wb) σ H Q :=
  let ⟨env, G, Qd, Z, er, ex, w, k, z⟩ := h
  ⟨env, G, _, Z, er, ex, w, fun x H1 G1 dx u rx w1 => ⟨env, G1, _, Z, er.mono u.g, u.gh, w1, fun y H2 G2 dy u2 ry w2 =>
    od G2 H2 x y dx dy _ Q u2.gh (rx.mono u2.g) ry w2 (fun p xs H3 G3 ds u3 n g e ra q => k p xs H3 G3 ds ((u.trans u2).trans u3) (fresh_back (u.trans u2).h n) g e ra q), z.up u⟩, z⟩
theorem t_un {r : V → Hp → VK → Prop} {f : F1} {K : PySem.W.Frag} (od : UnD K r f) (σ : L2.St) (H : Hp) (Q : VK) (h : tD K W (wUn f wa) σ H Q) : tUn r (tD K W wa) σ H Q :=
  let ⟨env, G, Qd, Z, er, ex, w, k, z⟩ := h
  ⟨env, G, _, Z, er, ex, w, fun x H1 G1 dx u rx w1 => od G1 H1 x dx _ Q u.gh rx w1 (k.up u), z⟩
/-- a new list is a value -/
theorem t_L {K : PySem.W.Frag} {w : WA} (σ : L2.St) (H : Hp) (Q : VK) (h : tD K W (wL w) σ H Q) : tDL K W w σ H Q :=
  let ⟨env, G, Qd, Z, er, ex, w1, k, z⟩ := h
  ⟨env, G, _, Z, er, ex, w1, fun p xs H' G' ds u n g e ra q => k (.ref p) H' (upd G' p (.lst xs)) (.lst ds) ⟨u.h, u.g.trans (Ex.new g), fun a o ha => by
      by_cases hp : a = p
      · subst hp; rw [upd_same] at ha; cases ha; exact e
      · rw [upd_ne hp] at ha; exact u.gh a o ha, fun a h1 h2 => by
      by_cases hp : a = p
      · subst hp; exact n
      · rw [upd_ne hp] at h2; exact u.f a h1 h2⟩ (.lst (SqL.of upd_same) (ra.mono (Ex.new g))) q, z⟩
theorem d_L {w : WA} (h : PE X e (tDL X.K W w)) : PE X e (tD X.K W (wL w)) := pe_imp h (t_L (W := W))
theorem d_op {op : Operator} {r : R2} {f : F2} (ho : OpR X (binaryOp op) r) (od : OpD X.K r f) (ha : PE X a (tD X.K W wa)) (hb : PE X b (tD X.K W wb)) : PE X (.BinOp a op b pos) (tD X.K W (wOp f wa wb)) := pe_imp (pe_op ho ha hb) (t_op od)
theorem l_op {op : Operator} {r : R2} {f : D → D → (List D → Prop) → Prop} (ho : OpR X (binaryOp op) r) (od : OpL X.K r f) (ha : PE X a (tD X.K W wa)) (hb : PE X b (tD X.K W wb)) : PE X (.BinOp a op b pos) (tDL X.K W (wOpL f wa wb)) := pe_imp (pe_op ho ha hb) (t_opL od)
theorem d_un {op : UnaryOp} {r : V → Hp → VK → Prop} {f : F1} (ho : UnR X (unaryOp op) r) (od : UnD X.K r f) (ha : PE X a (tD X.K W wa)) : PE X (.UnaryOp op a pos) (tD X.K W (wUn f wa)) := pe_imp (pe_un ho ha) (t_un od)
theorem d_cmp {op : CmpOp} {r : R2} {f : F2} (ho : OpR X (compareOp op) r) (od : OpD X.K r f) (ha : PE X a (tD X.K W wa)) (hb : PE X b (tD X.K W wb)) (hm : behindInMarks op b = false) : PE X (.Compare a [op] [b] pos) (tD X.K W (wOp f wa wb)) := pe_imp (pe_cmpR ho ha hb hm) (t_op od)
theorem d_ix {r : R2} {f : F2} (hr : IxR X r) (od : OpD X.K r f) (ha : PE X a (tD X.K W wa)) (hb : PE X b (tD X.K W wb)) (hs : PlainIx b) : PE X (.Subscript a b pos) (tD X.K W (wOp f wa wb)) := pe_imp (pe_ix hr ha hb hs) (t_op od)

/-! ### tests -/
/-- a True or False as a test -/
def wB (w : WE) : WT := fun env Q Z => w env (fun d => ∃ b, d = .bl b ∧ Q b) Z
theorem t_test (σ : L2.St) (H : Hp) (Q : Bool → Hp → Prop) {K : PySem.W.Frag} (h : tDT K W (wB wa) σ H Q) : tTest (tD K W wa) σ H Q :=
  let ⟨env, G, Qd, Z, er, ex, w, k, z⟩ := h
  ⟨env, G, _, Z, er, ex, w, fun v H1 G1 d u r ⟨b, e, q⟩ => by
    subst e
    cases r
    exact ⟨b, rfl, k b H1 u.h q⟩, z⟩
theorem t_B (σ : L2.St) (H : Hp) (Q : Bool → Hp → Prop) {K : PySem.W.Frag} (h : tDT K W (wB wa) σ H Q) : tB (tD K W wa) σ H Q := t_test σ H Q h
theorem dt_cmp {op : CmpOp} {r : R2} {f : F2} (ho : OpR X (compareOp op) r) (od : OpD X.K r f) (ha : PE X a (tD X.K W wa)) (hb : PE X b (tD X.K W wb)) (hm : behindInMarks op b = false) : PT X (.Compare a [op] [b] pos) (tDT X.K W (wB (wOp f wa wb))) :=
  pt_imp (pt_cmpR ho ha hb hm) fun σ H Q h => by
    obtain ⟨env, G, Qd, Z, er, ex, w, k, z⟩ := h
    refine t_op (r := r) (f := f) od σ H _ ⟨env, G, _, Z, er, ex, w, fun v H1 G1 d u rr ⟨b, e, q⟩ => ?_, z⟩
    subst e
    cases rr
    exact ⟨b, rfl, k b H1 u.h q⟩
theorem dt_val (h : PE X e (tD X.K W wa)) (he : ∀ whole, isTrue e X.env whole = (do let v ← whole; standAt e.pos; holding [v] (truthy v)) := by intro _; rfl) : PT X e (tDT X.K W (wB wa)) := pt_imp (pt_val h he) fun σ H Q h => t_B σ H Q h
def wAnd (t u : WT) : WT := fun env Q Z => t env (fun b => if b = true then u env Q Z else Q false) Z
def wOr (t u : WT) : WT := fun env Q Z => t env (fun b => if b = true then Q true else u env Q Z) Z
def wNot (t : WT) : WT := fun env Q Z => t env (fun b => Q (!b)) Z
variable {t u : WT} {rest : List Expr}
theorem ZK.grow {K : PySem.W.Frag} {H G H' : Hp} {σ : L2.St} {Z : XP} (e : Ex G H) (k : Ex H H') (z : ZK K W H G σ Z) : ZK K W H' G σ Z := z.up (Up.grow e k)
theorem dw_and1 (ha : PT X a (tDT X.K W t)) : PW X (.BoolOp .And [a] pos) (tDT X.K W t) := pw_and1 ha
theorem dw_or1 (ha : PT X a (tDT X.K W t)) : PW X (.BoolOp .Or [a] pos) (tDT X.K W t) := pw_or1 ha
theorem dw_and (ha : PT X a (tDT X.K W t)) (hb : PW X (.BoolOp .And (b :: rest) pos) (tDT X.K W u)) : PW X (.BoolOp .And (a :: b :: rest) pos) (tDT X.K W (wAnd t u)) := pw_imp (pw_and ha hb) fun σ H Q ⟨env, G, Qd, Z, er, ex, w, k, z⟩ =>
  ⟨env, G, _, Z, er, ex, w, fun c H1 e1 q => by
    cases c with
    | true => exact ⟨env, G, _, Z, er, ex.trans e1, q, fun c2 H2 e2 q2 => k c2 H2 (e1.trans e2) q2, z.grow ex e1⟩
    | false => exact k false H1 e1 q, z⟩
theorem dw_or (ha : PT X a (tDT X.K W t)) (hb : PW X (.BoolOp .Or (b :: rest) pos) (tDT X.K W u)) : PW X (.BoolOp .Or (a :: b :: rest) pos) (tDT X.K W (wOr t u)) := pw_imp (pw_or ha hb) fun σ H Q ⟨env, G, Qd, Z, er, ex, w, k, z⟩ =>
  ⟨env, G, _, Z, er, ex, w, fun c H1 e1 q => by
    cases c with
    | true => exact k true H1 e1 q
    | false => exact ⟨env, G, _, Z, er, ex.trans e1, q, fun c2 H2 e2 q2 => k c2 H2 (e1.trans e2) q2, z.grow ex e1⟩, z⟩
theorem dt_w (h : PW X e (tDT X.K W t)) : PT X e (tDT X.K W t) := h.pt
theorem dt_not (ha : PT X a (tDT X.K W t)) : PT X (.UnaryOp .Not a pos) (tDT X.K W (wNot t)) := pt_imp (pt_not ha) fun σ H Q ⟨env, G, Qd, Z, er, ex, w, k, z⟩ => ⟨env, G, _, Z, er, ex, w, fun c H1 e1 q => k _ H1 e1 q, z⟩

/-! and, or, not of True and False as values -/
def wAndV (wa wb : WE) : WE := fun env Q Z => wa env (fun d => ∃ c, d = .bl c ∧ if c = true then wb env Q Z else Q (.bl false)) Z
def wOrV (wa wb : WE) : WE := fun env Q Z => wa env (fun d => ∃ c, d = .bl c ∧ if c = true then Q (.bl true) else wb env Q Z) Z
def wNotV (wa : WE) : WE := fun env Q Z => wa env (fun d => ∃ c, d = .bl c ∧ Q (.bl (!c))) Z
theorem d_one {op} (h : PE X a (tD X.K W wa)) : PE X (.BoolOp op [a] pos) (tD X.K W wa) := pe_one h
theorem d_and (ha : PE X a (tD X.K W wa)) (hb : PE X (.BoolOp .And (b :: rest) pos) (tD X.K W wb)) : PE X (.BoolOp .And (a :: b :: rest) pos) (tD X.K W (wAndV wa wb)) := pe_imp (pe_and ha hb) fun σ H Q ⟨env, G, Qd, Z, er, ex, w, k, z⟩ =>
  ⟨env, G, _, Z, er, ex, w, fun v H1 G1 d u r ⟨c, e, q⟩ => by
    subst e
    cases r
    refine ⟨c, rfl, ?_⟩
    cases c with
    | true => exact ⟨env, G1, _, Z, er.mono u.g, u.gh, q, k.up u, z.up u⟩
    | false => exact k _ H1 G1 _ u (.bl false) q, z⟩
theorem d_or (ha : PE X a (tD X.K W wa)) (hb : PE X (.BoolOp .Or (b :: rest) pos) (tD X.K W wb)) : PE X (.BoolOp .Or (a :: b :: rest) pos) (tD X.K W (wOrV wa wb)) := pe_imp (pe_or ha hb) fun σ H Q ⟨env, G, Qd, Z, er, ex, w, k, z⟩ =>
  ⟨env, G, _, Z, er, ex, w, fun v H1 G1 d u r ⟨c, e, q⟩ => by
    subst e
    cases r
    refine ⟨c, rfl, ?_⟩
    cases c with
    | true => exact k _ H1 G1 _ u (.bl true) q
    | false => exact ⟨env, G1, _, Z, er.mono u.g, u.gh, q, k.up u, z.up u⟩, z⟩
theorem d_not (ha : PE X a (tD X.K W wa)) : PE X (.UnaryOp .Not a pos) (tD X.K W (wNotV wa)) := pe_imp (pe_not ha) fun σ H Q ⟨env, G, Qd, Z, er, ex, w, k, z⟩ =>
  ⟨env, G, _, Z, er, ex, w, fun v H1 G1 d u r ⟨c, e, q⟩ => by
    subst e
    cases r
    exact ⟨c, rfl, k _ H1 G1 _ u (.bl _) q⟩, z⟩
def wIfE (t : WT) (wa wb : WE) : WE := fun env Q Z => t env (fun b => if b = true then wa env Q Z else wb env Q Z) Z
theorem d_ifExp (hc : PT X c (tDT X.K W t)) (ha : PE X a (tD X.K W wa)) (hb : PE X b (tD X.K W wb)) : PE X (.IfExp c a b pos) (tD X.K W (wIfE t wa wb)) := pe_imp (pe_ifExp hc ha hb) fun σ H Q ⟨env, G, Qd, Z, er, ex, w, k, z⟩ =>
  ⟨env, G, _, Z, er, ex, w, fun c2 H1 e1 q => by
    cases c2 with
    | true => exact ⟨env, G, _, Z, er, ex.trans e1, q, k.up (Up.grow ex e1), z.grow ex e1⟩
    | false => exact ⟨env, G, _, Z, er, ex.trans e1, q, k.up (Up.grow ex e1), z.grow ex e1⟩, z⟩

/-! ### arguments, displays, calls -/
def wNil : WA := fun _ Q _ => Q []
def wCons (w : WE) (ws : WA) : WA := fun env Q Z => w env (fun x => ws env (fun xs => Q (x :: xs)) Z) Z
variable {es : List Expr} {ws : WA}
theorem da_nil : PA X [] (tDA X.K W wNil) := pa_imp pa_nil fun σ H Q ⟨env, G, Qd, Z, er, ex, w, k, z⟩ => k [] H G [] (Up.refl ex) .nil w
theorem da_cons (ha : PE X a (tD X.K W wa)) (hr : PA X es (tDA X.K W ws)) (hs : starEach (a :: es) X.env = (false, eval a X.env) :: starEach es X.env := by rfl) : PA X (a :: es) (tDA X.K W (wCons wa ws)) :=
  pa_imp (pa_cons ha hr hs) fun σ H Q ⟨env, G, Qd, Z, er, ex, w, k, z⟩ =>
    ⟨env, G, _, Z, er, ex, w, fun x H1 G1 dx u rx w1 => ⟨env, G1, _, Z, er.mono u.g, u.gh, w1, fun ys H2 G2 dys u2 ry w2 => k _ H2 G2 _ (u.trans u2) (.cons (rx.mono u2.g) ry) w2, z.up u⟩, z⟩
def wTup (ws : WA) : WE := fun env Q Z => ws env (fun xs => xs.length ≤ sizeLine ∧ Q (.tup xs)) Z
def wLst (ws : WA) : WA := fun env Q Z => ws env (fun xs => xs.length ≤ sizeLine ∧ Q xs) Z
theorem d_tup {x1} (h : PA X es (tDA X.K W ws)) : PE X (.Tuple es x1 pos) (tD X.K W (wTup ws)) := pe_imp (pe_tup h) fun σ H Q ⟨env, G, Qd, Z, er, ex, w, k, z⟩ =>
  ⟨env, G, _, Z, er, ex, w, fun xs H1 G1 ds u ra ⟨hl, q⟩ => ⟨by rw [ra.length]; exact hl, fun p hp => k (.ref p) _ _ _ (u.trans (Up.new u.gh hp)) (.tup (SqT.of upd_same) (ra.mono (Ex.new (fresh_back u.gh hp)))) q⟩, z⟩
theorem l_lst (h : PA X es (tDA X.K W ws)) : PE X (.List es pos) (tDL X.K W (wLst ws)) := pe_imp (pe_lst h) fun σ H Q ⟨env, G, Qd, Z, er, ex, w, k, z⟩ =>
  ⟨env, G, _, Z, er, ex, w, fun xs H1 G1 ds u ra ⟨hl, q⟩ => ⟨by rw [ra.length]; exact hl, fun p hp => k p xs _ G1 ds ⟨u.h.trans (Ex.new hp), u.g, u.gh.trans (Ex.new hp), u.f⟩ (fresh_back u.h hp) (fresh_back u.gh hp) upd_same ra q⟩, z⟩
theorem t_ca {r : List V → Hp → VK → Prop} {f : FA} {K : PySem.W.Frag} (cd : CaD K r f) (σ : L2.St) (H : Hp) (Q : VK) (h : tD K W (wCa f ws) σ H Q) : tCB r (tDA K W ws) σ H Q :=
  let ⟨env, G, Qd, Z, er, ex, w, k, z⟩ := h
  ⟨env, G, _, Z, er, ex, w, fun xs H1 G1 ds u ra q => cd G1 H1 xs ds _ Q u.gh ra q (k.up u), z⟩
theorem t_caL {r : List V → Hp → VK → Prop} {f : List D → (List D → Prop) → Prop} {K : PySem.W.Frag} (cd : CaL K r f) (σ : L2.St) (H : Hp) (Q : VK) (h : tDL K W (wCaL f ws) σ H Q) : tCB r (tDA K W ws) σ H Q :=
  let ⟨env, G, Qd, Z, er, ex, w, k, z⟩ := h
  ⟨env, G, _, Z, er, ex, w, fun xs H1 G1 ds u ra q => cd G1 H1 xs ds _ Q u.gh ra q (fun p ys H3 G3 ds u3 n g e ra q => k p ys H3 G3 ds (u.trans u3) (fresh_back u.h n) g e ra q), z⟩
end
end MP
namespace MP
open PySem PySem.Spec PyProof.Rows L2
open Evl (Ex fresh_back ex_rd ex_l ex_t)

/-! ### statements -/
structure EndsD where
  nx : Env → Prop
  rt : D → Prop
  bk : Env → Prop := fun _ => False
  ct : Env → Prop := fun _ => False
  ex : XD → Env → Prop := fun _ _ => False
abbrev WS := EndsD → Env → Prop

inductive OR (K : PySem.W.Frag) (F : Hp) : HO → Sl → Prop where
  | ol {xs : List V} {l : List D} : RA K F xs l → OR K F (.lst xs) (.ol l)
  | oK {xs : List (Key × V)} {l : List (Key × D)} : RK K F xs l → OR K F (.dK xs) (.oK l)
  | oT {xs : List (List Key × V)} {l : List (List Key × D)} : RT K F xs l → OR K F (.dT xs) (.oT l)
theorem OR.mono {K : PySem.W.Frag} {F F' : Hp} {o : HO} {s : Sl} (e : Ex F F') (h : OR K F o s) : OR K F' o s := by
  cases h with
  | ol h => exact .ol (h.mono e)
  | oK h => exact .oK (h.mono e)
  | oT h => exact .oT (h.mono e)
theorem OR.rd {K : PySem.W.Frag} {F G : Hp} {a : Addr} {o : HO} {s : Sl} (h : OR K F o s) (e : Ex F G) (g : G a = some o) : R K G (.ref a) s.d := by
  cases h with
  | ol h => exact .lst (SqL.of g) (h.mono e)
  | oK h => exact .dK (.of g) (h.mono e)
  | oT h => exact .dT (.of g) (h.mono e)

/-- the state: H0 the heap at the def's entry, G0 what was read of it; F what is settled; the slots that own hold objects apart -/
structure SR (K : PySem.W.Frag) (H0 G0 F : Hp) (σ : L2.St) (H : Hp) (env : Env) : Prop where
  len : σ.length = env.length
  ex0 : Ex H0 H
  exF : Ex F H
  exG : Ex G0 F
  fr : Fr G0 F H0
  fz : ∀ (i : Nat) (d : D), env[i]? = some (some (.fz d)) → ∃ v, σ[i]? = some (some v) ∧ R K F v d
  ow : ∀ (i : Nat) (s : Sl), env[i]? = some (some s) → s.own = true → ∃ (a : Addr) (o : HO), σ[i]? = some (some (.ref a)) ∧ F a = none ∧ H0 a = none ∧ H a = some o ∧ OR K F o s
  ne : ∀ (i j : Nat) (s s' : Sl) (a : Addr), env[i]? = some (some s) → env[j]? = some (some s') → s.own = true → s'.own = true → i ≠ j → σ[i]? = some (some (.ref a)) → σ[j]? ≠ some (some (.ref a))

/-- what follows, in the state's words -/
structure LE (K : PySem.W.Frag) (W : WX) (H0 G0 : Hp) (De : EndsD) (Dh : Ends) : Prop where
  nx : ∀ σ H F env, SR K H0 G0 F σ H env → De.nx env → Dh.nx σ H
  rt : ∀ v H F d, Up H0 G0 H F → R K F v d → De.rt d → Dh.rt v H
  bk : ∀ σ H F env, SR K H0 G0 F σ H env → De.bk env → Dh.bk σ H
  ct : ∀ σ H F env, SR K H0 G0 F σ H env → De.ct env → Dh.ct σ H
  ex : ∀ (x : XD) (dd : Option Addr) σ H F env, SR K H0 G0 F σ H env → XR K F dd x.fs → De.ex x env → W (.ref x.C) dd σ H

def tDS (K : PySem.W.Frag) (W : WX) (w : WS) : TS := fun Dh σ H => ∃ (env : Env) (F H0 G0 : Hp) (De : EndsD), SR K H0 G0 F σ H env ∧ w De env ∧ LE K W H0 G0 De Dh

/-! ### an expression within a statement -/
def frz : Option Sl → Option Sl
  | some s => some (.fz s.d)
  | none => none
/-- the slots at keep are not read -/
def mask : List Nat → Env → Env
  | [], env => env
  | i :: is, env => (mask is env).set i none
/-- behind an expression: a value that is no plain one settles what may be read in it -/
def aft (keep : List Nat) (sc : Bool) (env : Env) : Env := if sc then env else env.mapIdx fun i s => if i ∈ keep then s else frz s

theorem mask_some {env : Env} {i : Nat} {s : Sl} : ∀ {ks : List Nat}, (mask ks env)[i]? = some (some s) → env[i]? = some (some s) ∧ i ∉ ks
  | [], h => ⟨h, by simp⟩
  | v :: vs, h => by
    unfold mask at h
    by_cases hi : v = i
    · subst hi
      by_cases hv : v < (mask vs env).length
      · rw [List.getElem?_set_self hv] at h; cases h
      · rw [List.getElem?_eq_none (by simpa using hv)] at h; cases h
    · rw [List.getElem?_set_ne hi] at h
      obtain ⟨h1, h2⟩ := mask_some h
      exact ⟨h1, fun z => (List.mem_cons.mp z).elim (fun z => hi z.symm) h2⟩
theorem aft_get {ks : List Nat} {sc : Bool} {env : Env} {i : Nat} : (aft ks sc env)[i]? = (env[i]?).map fun s => if sc = true ∨ i ∈ ks then s else frz s := by
  unfold aft
  cases sc with
  | true => simp
  | false => simp [List.getElem?_mapIdx]
theorem aft_len {ks : List Nat} {sc : Bool} {env : Env} : (aft ks sc env).length = env.length := by
  unfold aft
  split <;> simp

section
variable {K : PySem.W.Frag} {H0 G0 F H H' G G' : Hp} {σ : L2.St} {env : Env} {ks : List Nat}
open Classical in
/-- what is settled, and the objects of the slots that are read -/
noncomputable def rdH (ks : List Nat) (env : Env) (σ : L2.St) (F H : Hp) : Hp := fun a => if (∃ (i : Nat) (s : Sl), (mask ks env)[i]? = some (some s) ∧ s.own = true ∧ σ[i]? = some (some (.ref a))) then H a else F a
theorem SR.rd (S : SR K H0 G0 F σ H env) : Ex F (rdH ks env σ F H) ∧ Ex (rdH ks env σ F H) H ∧ ER K (rdH ks env σ F H) σ (mask ks env) ∧
    ∀ a, rdH ks env σ F H a ≠ none → F a ≠ none ∨ (F a = none ∧ H0 a = none ∧ ∃ (i : Nat) (s : Sl), env[i]? = some (some s) ∧ s.own = true ∧ i ∉ ks ∧ σ[i]? = some (some (.ref a))) := by
  have own : ∀ (i : Nat) (s : Sl) (a : Addr), (mask ks env)[i]? = some (some s) → s.own = true → σ[i]? = some (some (.ref a)) → F a = none ∧ H0 a = none ∧ ∃ o, H a = some o ∧ OR K F o s := fun i s a h1 h2 h3 => by
    obtain ⟨a', o, e, n, n0, ho, r⟩ := S.ow i s (mask_some h1).1 h2
    rw [e] at h3
    cases h3
    exact ⟨n, n0, o, ho, r⟩
  have eF : Ex F (rdH ks env σ F H) := fun a o h => by
    unfold rdH
    split
    · exact S.exF a o h
    · exact h
  refine ⟨eF, fun a o h => ?_, fun i s h => ?_, fun a h => ?_⟩
  · unfold rdH at h
    split at h
    · exact h
    · exact S.exF a o h
  · cases hs : s.own with
    | false =>
      cases s with
      | fz d =>
        obtain ⟨v, e, r⟩ := S.fz i d (mask_some h).1
        exact ⟨v, e, r.mono eF⟩
      | ol l => cases hs
      | oK l => cases hs
      | oT l => cases hs
    | true =>
      obtain ⟨a, o, e, n, n0, ho, r⟩ := S.ow i s (mask_some h).1 hs
      refine ⟨.ref a, e, r.rd eF ?_⟩
      unfold rdH
      rw [if_pos ⟨i, s, h, hs, e⟩]
      exact ho
  · unfold rdH at h
    split at h
    · rename_i q
      obtain ⟨i, s, h1, h2, h3⟩ := q
      obtain ⟨n, n0, _⟩ := own i s a h1 h2 h3
      exact .inr ⟨n, n0, i, s, (mask_some h1).1, h2, (mask_some h1).2, h3⟩
    · exact .inl h
/-- behind an expression whose value is plain -/
theorem SR.grow (S : SR K H0 G0 F σ H env) (e : Ex H H') : SR K H0 G0 F σ H' env :=
  ⟨S.len, S.ex0.trans e, S.exF.trans e, S.exG, S.fr, S.fz, fun i s h1 h2 => by
    obtain ⟨a, o, q, n, n0, ho, r⟩ := S.ow i s h1 h2
    exact ⟨a, o, q, n, n0, e a o ho, r⟩, S.ne⟩
/-- behind one whose value is not -/
theorem SR.settle (S : SR K H0 G0 F σ H env) (u : Up H (rdH ks env σ F H) H' G') : SR K H0 G0 G' σ H' (aft ks false env) := by
  obtain ⟨e1, e2, er, cl⟩ := S.rd (ks := ks)
  have g : ∀ {i : Nat} {s : Sl}, (aft ks false env)[i]? = some (some s) → (i ∈ ks ∧ env[i]? = some (some s)) ∨ (i ∉ ks ∧ ∃ s0, env[i]? = some (some s0) ∧ s = .fz s0.d) := fun {i s} h => by
    rw [aft_get] at h
    by_cases hi : i ∈ ks
    · refine .inl ⟨hi, ?_⟩
      simpa [hi] using h
    · refine .inr ⟨hi, ?_⟩
      cases q : env[i]? with
      | none => rw [q] at h; cases h
      | some o =>
        rw [q] at h
        simp [hi] at h
        cases o with
        | none => cases h
        | some s0 => exact ⟨s0, rfl, (Option.some.inj h).symm⟩
  have apart : ∀ {i : Nat} {s : Sl} {a : Addr}, i ∈ ks → env[i]? = some (some s) → s.own = true → σ[i]? = some (some (.ref a)) → G' a = none := fun {i s a} hi h1 h2 h3 => by
    obtain ⟨a', o, q, n, n0, ho, r⟩ := S.ow i s h1 h2
    rw [q] at h3
    cases h3
    cases hg : G' a with
    | none => rfl
    | some o' =>
      exfalso
      cases hr : rdH ks env σ F H a with
      | none =>
        have := u.f a hr (by rw [hg]; exact fun z => by cases z)
        rw [ho] at this
        cases this
      | some o2 =>
        rcases cl a (by rw [hr]; exact fun z => by cases z) with z | ⟨_, _, j, s', j1, j2, j3, j4⟩
        · exact z n
        · exact S.ne i j s s' a h1 j1 h2 j2 (fun z => j3 (z ▸ hi)) q j4
  refine ⟨by rw [aft_len]; exact S.len, S.ex0.trans u.h, u.gh, S.exG.trans (e1.trans u.g), fun a h1 h2 => ?_, fun i d h => ?_, fun i s h1 h2 => ?_, fun i j s s' a h1 h2 h3 h4 hij q => ?_⟩
  · cases hr : rdH ks env σ F H a with
    | none => exact fresh_back S.ex0 (u.f a hr h2)
    | some o =>
      rcases cl a (by rw [hr]; exact fun z => by cases z) with z | ⟨_, z, _⟩
      · exact S.fr a h1 z
      · exact z
  · rcases g h with ⟨hi, q⟩ | ⟨hi, s0, q, e⟩
    · obtain ⟨v, a, b⟩ := S.fz i d q
      exact ⟨v, a, b.mono (e1.trans u.g)⟩
    · cases e
      have hm : (mask ks env)[i]? = some (some s0) := by
        have : ∀ ks : List Nat, i ∉ ks → (mask ks env)[i]? = env[i]? := by
          intro ks
          induction ks with
          | nil => intro _; rfl
          | cons k ks ih =>
            intro hn
            unfold mask
            rw [List.getElem?_set_ne (fun z => hn (by simp [z]))]
            exact ih fun z => hn (List.mem_cons_of_mem _ z)
        rw [this ks hi]
        exact q
      obtain ⟨v, a, b⟩ := er i s0 hm
      exact ⟨v, a, b.mono u.g⟩
  · rcases g h1 with ⟨hi, q⟩ | ⟨hi, s0, q, e⟩
    · obtain ⟨a, o, e, n, n0, ho, r⟩ := S.ow i s q h2
      exact ⟨a, o, e, apart hi q h2 e, n0, u.h a o ho, r.mono (e1.trans u.g)⟩
    · subst e
      cases h2
  · rcases g h1 with ⟨hi, q1⟩ | ⟨hi, s0, q1, e⟩
    · rcases g h2 with ⟨hj, q2⟩ | ⟨hj, s0, q2, e⟩
      · exact S.ne i j s s' a q1 q2 h3 h4 hij q
      · subst e
        cases h4
    · subst e
      cases h3
theorem SR.aft {sc : Bool} (S : SR K H0 G0 F σ H env) (u : Up H (rdH ks env σ F H) H' G') : ∃ F', SR K H0 G0 F' σ H' (aft ks sc env) ∧ (sc = false → F' = G') := by
  cases sc with
  | true => exact ⟨F, S.grow u.h, fun z => by cases z⟩
  | false => exact ⟨G', S.settle u, fun _ => rfl⟩
/-- a slot gets a settled value -/
theorem SR.put {i : Nat} {v : V} {d : D} (S : SR K H0 G0 F σ H env) (r : R K F v d) : SR K H0 G0 F (σ.set i (some v)) H (env.set i (some (.fz d))) := by
  have g : ∀ {j : Nat} {s : Sl}, (env.set i (some (.fz d)))[j]? = some (some s) → (j = i ∧ s = .fz d ∧ i < env.length) ∨ (j ≠ i ∧ env[j]? = some (some s)) := fun {j s} h => by
    by_cases hj : j = i
    · subst hj
      by_cases hl : j < env.length
      · rw [List.getElem?_set_self hl] at h
        exact .inl ⟨rfl, (Option.some.inj (Option.some.inj h)).symm, hl⟩
      · rw [List.getElem?_eq_none (by simpa using hl)] at h
        cases h
    · rw [List.getElem?_set_ne (Ne.symm hj)] at h
      exact .inr ⟨hj, h⟩
  refine ⟨by simpa using S.len, S.ex0, S.exF, S.exG, S.fr, fun j d' h => ?_, fun j s h1 h2 => ?_, fun j k s s' a h1 h2 h3 h4 hjk q => ?_⟩
  · rcases g h with ⟨rfl, e, hl⟩ | ⟨hj, h⟩
    · cases e
      exact ⟨v, by rw [List.getElem?_set_self (by rw [S.len]; exact hl)], r⟩
    · rw [List.getElem?_set_ne (Ne.symm hj)]
      exact S.fz j d' h
  · rcases g h1 with ⟨rfl, e, hl⟩ | ⟨hj, h⟩
    · subst e
      cases h2
    · rw [List.getElem?_set_ne (Ne.symm hj)]
      exact S.ow j s h h2
  · rcases g h1 with ⟨rfl, e, hl⟩ | ⟨hj, h1⟩
    · subst e
      cases h3
    · rcases g h2 with ⟨rfl, e, hl⟩ | ⟨hk, h2⟩
      · subst e
        cases h4
      · rw [List.getElem?_set_ne (Ne.symm hj)] at q
        rw [List.getElem?_set_ne (Ne.symm hk)]
        exact S.ne j k s s' a h1 h2 h3 h4 hjk q
/-- a slot gets an object of its own -/
theorem SR.own {i : Nat} {p : Addr} {o : HO} {s : Sl} (S : SR K H0 G0 F σ H env) (hs : s.own = true) (hF : F p = none) (h0 : H0 p = none) (hH : H p = some o) (r : OR K F o s)
    (ap : ∀ (j : Nat) (s' : Sl), env[j]? = some (some s') → s'.own = true → j ≠ i → σ[j]? ≠ some (some (.ref p))) : SR K H0 G0 F (σ.set i (some (.ref p))) H (env.set i (some s)) := by
  have g : ∀ {j : Nat} {s' : Sl}, (env.set i (some s))[j]? = some (some s') → (j = i ∧ s' = s ∧ i < env.length) ∨ (j ≠ i ∧ env[j]? = some (some s')) := fun {j s'} h => by
    by_cases hj : j = i
    · subst hj
      by_cases hl : j < env.length
      · rw [List.getElem?_set_self hl] at h
        exact .inl ⟨rfl, (Option.some.inj (Option.some.inj h)).symm, hl⟩
      · rw [List.getElem?_eq_none (by simpa using hl)] at h
        cases h
    · rw [List.getElem?_set_ne (Ne.symm hj)] at h
      exact .inr ⟨hj, h⟩
  refine ⟨by simpa using S.len, S.ex0, S.exF, S.exG, S.fr, fun j d' h => ?_, fun j s' h1 h2 => ?_, fun j k s1 s2 a h1 h2 h3 h4 hjk q => ?_⟩
  · rcases g h with ⟨rfl, e, hl⟩ | ⟨hj, h⟩
    · subst e
      cases hs
    · rw [List.getElem?_set_ne (Ne.symm hj)]
      exact S.fz j d' h
  · rcases g h1 with ⟨rfl, e, hl⟩ | ⟨hj, h⟩
    · subst e
      exact ⟨p, o, by rw [List.getElem?_set_self (by rw [S.len]; exact hl)], hF, h0, hH, r⟩
    · rw [List.getElem?_set_ne (Ne.symm hj)]
      exact S.ow j s' h h2
  · rcases g h1 with ⟨rfl, e, hl⟩ | ⟨hj, h1'⟩
    · subst e
      rw [List.getElem?_set_self (by rw [S.len]; exact hl)] at q
      cases q
      rcases g h2 with ⟨rfl, _, _⟩ | ⟨hk, h2'⟩
      · exact absurd rfl hjk
      · rw [List.getElem?_set_ne (Ne.symm hk)]
        exact ap k s2 h2' h4 hk
    · rw [List.getElem?_set_ne (Ne.symm hj)] at q
      rcases g h2 with ⟨rfl, e, hl⟩ | ⟨hk, h2'⟩
      · rw [List.getElem?_set_self (by rw [S.len]; exact hl)]
        intro z
        cases z
        exact ap j s1 h1' h3 hj q
      · rw [List.getElem?_set_ne (Ne.symm hk)]
        exact S.ne j k s1 s2 a h1' h2' h3 h4 hjk q
/-- the object of a slot that owns has changed -/
theorem SR.chg {i : Nat} {p : Addr} {o : HO} {s s0 : Sl} (S : SR K H0 G0 F σ H env) (h0 : env[i]? = some (some s0)) (hs0 : s0.own = true) (hp : σ[i]? = some (some (.ref p))) (hs : s.own = true) (r : OR K F o s) : SR K H0 G0 F σ (upd H p o) (env.set i (some s)) := by
  obtain ⟨a, o0, q, n, n0, ho, r0⟩ := S.ow i s0 h0 hs0
  rw [hp] at q
  cases q
  have hl : i < env.length := (List.getElem?_eq_some_iff.mp h0).1
  have T : SR K H0 G0 F σ (upd H p o) (env.set i none) := by
    have g : ∀ {j : Nat} {s : Sl}, (env.set i none)[j]? = some (some s) → j ≠ i ∧ env[j]? = some (some s) := fun {j s} h => by
      by_cases hj : j = i
      · subst hj
        rw [List.getElem?_set_self hl] at h
        cases h
      · rw [List.getElem?_set_ne (Ne.symm hj)] at h
        exact ⟨hj, h⟩
    refine ⟨by simpa using S.len, S.ex0.mut n0, S.exF.mut n, S.exG, S.fr, fun j d h => S.fz j d (g h).2, fun j s' h1 h2 => ?_, fun j k s1 s2 a h1 h2 h3 h4 hjk q => S.ne j k s1 s2 a (g h1).2 (g h2).2 h3 h4 hjk q⟩
    obtain ⟨a, o', e, m, m0, ho', r'⟩ := S.ow j s' (g h1).2 h2
    refine ⟨a, o', e, m, m0, ?_, r'⟩
    have na : a ≠ p := fun z => by
      subst z
      exact S.ne i j s0 s' a h0 (g h1).2 hs0 h2 (Ne.symm (g h1).1) hp e
    rw [upd_ne na]
    exact ho'
  have U := T.own (i := i) (p := p) (o := o) (s := s) hs n n0 upd_same r fun j s' h1 h2 hj q => by
    rw [List.getElem?_set_ne (Ne.symm hj)] at h1
    exact S.ne i j s0 s' p h0 h1 hs0 h2 (Ne.symm hj) hp q
  have e1 : σ.set i (some (.ref p)) = σ := by
    apply List.ext_getElem?
    intro j
    by_cases hj : j = i
    · subst hj
      rw [List.getElem?_set_self (by rw [S.len]; exact hl), hp]
    · rw [List.getElem?_set_ne (Ne.symm hj)]
  rw [e1, List.set_set] at U
  exact U
end
end MP
namespace MP
open PySem PySem.Spec PyProof.Rows L2
open Evl (Ex fresh_back ex_rd ex_l ex_t)

section
variable {K : PySem.W.Frag} {H0 G0 F F2 H H2 H' G G' : Hp} {σ σ2 : L2.St} {env env2 : Env} {ks : List Nat}
theorem SR.up (S : SR K H0 G0 F σ H env) : Up H0 G0 H F := ⟨S.ex0, S.exG, S.exF, S.fr⟩
theorem SR.rebase (S : SR K H0 G0 F σ H env) : SR K H0 F F σ H env := ⟨S.len, S.ex0, S.exF, Ex.refl F, fun _ a b => absurd a b, S.fz, S.ow, S.ne⟩
theorem frt (exG : Ex G0 F) (fr : Fr G0 F H0) (f2 : Fr F F2 H0) : Fr G0 F2 H0 := fun a n p => by
  by_cases q : F a = none
  · exact f2 a q p
  · exact fr a n q
theorem SR.unbase (S : SR K H0 G0 F σ H env) (T : SR K H0 F F2 σ2 H2 env2) : SR K H0 G0 F2 σ2 H2 env2 :=
  ⟨T.len, T.ex0, T.exF, S.exG.trans T.exG, frt S.exG S.fr T.fr, T.fz, T.ow, T.ne⟩
theorem SR.upTo (S : SR K H0 G0 F σ H env) (u : Up H0 F H2 F2) : Up H0 G0 H2 F2 := ⟨u.h, S.exG.trans u.g, u.gh, frt S.exG S.fr u.f⟩
end
/-- an exception's fields: none *)-/
def xsc (x : XD) : Bool := x.fs.isEmpty
theorem xr_aft {K : PySem.W.Frag} {F G : Hp} {dd : Option Addr} {x : XD} (h : XR K G dd x.fs) (e : xsc x = false → F = G) : XR K F dd x.fs := by
  cases hs : xsc x with
  | true =>
    obtain ⟨C, fs⟩ := x
    cases h with
    | none => exact .none
    | some _ _ n => exact absurd (n.symm.trans hs) Bool.false_ne_true
  | false => rw [e hs]; exact h

/-- an expression within a statement: its value, the slots behind it -/
def wEv (ks : List Nat) (w : WE) (De : EndsD) (env : Env) (k : D → Env → Prop) : Prop := w (mask ks env) (fun d => k d (aft ks d.scal env)) (fun x => De.ex x (aft ks (xsc x) env))
def wEvL (ks : List Nat) (w : WA) (De : EndsD) (env : Env) (k : List D → Env → Prop) : Prop := w (mask ks env) (fun ds => k ds (aft ks (ds.all D.scal) env)) (fun x => De.ex x (aft ks (xsc x) env))
def wEvT (w : WT) (De : EndsD) (env : Env) (k : Bool → Prop) : Prop := w env k (fun x => De.ex x (aft [] (xsc x) env))

section
variable {K : PySem.W.Frag} {W : WX} {H0 G0 F H : Hp} {σ : L2.St} {env : Env} {ks : List Nat} {De : EndsD} {Dh : Ends} {w : WE}
theorem LE.zk (L : LE K W H0 G0 De Dh) (S : SR K H0 G0 F σ H env) : ZK K W H (rdH ks env σ F H) σ (fun x => De.ex x (aft ks (xsc x) env)) := fun x dd H' G' u xr z =>
  let ⟨F', S', e⟩ := S.aft (ks := ks) (sc := xsc x) u
  L.ex x dd σ H' F' _ S' (xr_aft xr e) z
/-- THE STEP: an expression from a state -/
theorem ev_of (L : LE K W H0 G0 De Dh) (S : SR K H0 G0 F σ H env) {k : D → Env → Prop} {Q : VK} (h : wEv ks w De env k)
    (q : ∀ v H' F' d, SR K H0 G0 F' σ H' (aft ks d.scal env) → R K F' v d → k d (aft ks d.scal env) → Q v H') : tD K W w σ H Q :=
  ⟨mask ks env, rdH ks env σ F H, _, _, S.rd.2.2.1, S.rd.2.1, h, fun v H' G' d u r p => by
    obtain ⟨F', S', e⟩ := S.aft (ks := ks) (sc := d.scal) u
    refine q v H' F' d S' ?_ p
    cases hs : d.scal with
    | true => exact r.scal hs
    | false => rw [e hs]; exact r, L.zk S⟩
theorem evL_of {w : WA} (L : LE K W H0 G0 De Dh) (S : SR K H0 G0 F σ H env) {k : List D → Env → Prop} {Q : VK} (h : wEvL ks w De env k)
    (q : ∀ p xs H' F' ds, SR K H0 G0 F' σ H' (aft ks (ds.all D.scal) env) → H0 p = none → H p = none → F' p = none → H' p = some (.lst xs) → RA K F' xs ds → k ds (aft ks (ds.all D.scal) env) → Q (.ref p) H') : tDL K W w σ H Q :=
  ⟨mask ks env, rdH ks env σ F H, _, _, S.rd.2.2.1, S.rd.2.1, h, fun p xs H' G' ds u n g e ra pk => by
    obtain ⟨F', S', ef⟩ := S.aft (ks := ks) (sc := ds.all D.scal) u
    have hF : F p = none := fresh_back S.exF n
    cases hs : ds.all D.scal with
    | true =>
      have S'' : SR K H0 G0 F σ H' (aft ks (ds.all D.scal) env) := by
        rw [hs]
        exact S.grow u.h
      exact q p xs H' F ds S'' (fresh_back S.ex0 n) n hF e (ra.scal hs) pk
    | false =>
      have := ef hs
      subst this
      exact q p xs H' _ ds S' (fresh_back S.ex0 n) n g e ra pk, L.zk S⟩
theorem evT_of {w : WT} (L : LE K W H0 G0 De Dh) (S : SR K H0 G0 F σ H env) {k : Bool → Prop} {Q : Bool → Hp → Prop} (h : wEvT w De env k)
    (q : ∀ b H', SR K H0 G0 F σ H' env → k b → Q b H') : tDT K W w σ H Q :=
  ⟨env, rdH [] env σ F H, _, _, S.rd.2.2.1, S.rd.2.1, h, fun b H' e p => q b H' (S.grow e) p, L.zk S⟩
end

/-! ### small statements, blocks -/
def wNext : WS := fun De env => De.nx env
def wSeq (a b : WS) : WS := fun De env => a { De with nx := b De } env
def wIf (t : WT) (a b : WS) : WS := fun De env => wEvT t De env fun c => if c = true then a De env else b De env
def wAsg (ks : List Nat) (i : Nat) (w : WE) : WS := fun De env => wEv ks w De env fun d env1 => De.nx (env1.set i (some (.fz d)))
def wAsgL (ks : List Nat) (i : Nat) (w : WA) : WS := fun De env => wEvL ks w De env fun ds env1 => De.nx (env1.set i (some (.ol ds)))
def wRet (w : WE) : WS := fun De env => wEv [] w De env fun d _ => De.rt d
def wRetN : WS := fun De _ => De.rt .non
def wDrop (ks : List Nat) (w : WE) : WS := fun De env => wEv ks w De env fun _ env1 => De.nx env1
def wBreak : WS := fun De env => De.bk env
def wCont : WS := fun De env => De.ct env
section
variable {X : Cx} {W : WX} {a b c e : Expr} {pos : Pos} {w wa wb : WE} {t : WT} {st : Stmt} {sts rest : List Stmt} {u v : WS} {ks : List Nat}
theorem ds_nil : PSs X [] (tDS X.K W wNext) := pss_imp pss_nil fun D σ H ⟨env, F, H0, G0, De, S, w, L⟩ => L.nx σ H F env S w
theorem LE.with_nx {K : PySem.W.Frag} {H0 G0 : Hp} {De : EndsD} {Dh : Ends} (L : LE K W H0 G0 De Dh) {nx : Env → Prop} {nh : L2.St → Hp → Prop} (h : ∀ σ H F env, SR K H0 G0 F σ H env → nx env → nh σ H) : LE K W H0 G0 { De with nx := nx } { Dh with nx := nh } :=
  ⟨h, L.rt, L.bk, L.ct, L.ex⟩
theorem ds_cons (h1 : PS X st (tDS X.K W u)) (h2 : PSs X rest (tDS X.K W v)) : PSs X (st :: rest) (tDS X.K W (wSeq u v)) := pss_imp (pss_cons h1 h2) fun D σ H ⟨env, F, H0, G0, De, S, w, L⟩ =>
  ⟨env, F, H0, G0, { De with nx := v De }, S, w, L.with_nx fun σ2 H2 F2 env2 S2 w2 => ⟨env2, F2, H0, G0, De, S2, w2, L⟩⟩
theorem ds_one (h1 : PS X st (tDS X.K W u)) : PSs X [st] (tDS X.K W u) := pss_one h1
theorem ds_if {as bs : List Stmt} (hc : PT X c (tDT X.K W t)) (ha : PSs X as (tDS X.K W u)) (hb : PSs X bs (tDS X.K W v)) : PS X (.If c as bs pos) (tDS X.K W (wIf t u v)) := ps_imp (ps_if hc ha hb) fun D σ H ⟨env, F, H0, G0, De, S, w, L⟩ =>
  evT_of L S w fun c2 H1 S1 q => by
    cases c2 with
    | true => exact ⟨env, F, H0, G0, De, S1, q, L⟩
    | false => exact ⟨env, F, H0, G0, De, S1, q, L⟩
theorem ds_set {i : Nat} {x : Str} {pos' : Pos} (ks : List Nat) (hN : X.N.Nodup) (hi : X.N[i]? = some x) (hx : Loc X.env.scope x) (he : PE X e (tD X.K W w)) (hs : swapsWith e (some (.Name x pos')) pos.line X.env = pure false := by rfl)
    (hf : X.fn x = true ∨ X.env.scope.names.lookup x = some .local := by first | exact .inl rfl | exact .inr rfl) : PS X (.Assign [.Name x pos'] e pos) (tDS X.K W (wAsg ks i w)) := ps_imp (ps_set hN hi hx he hs hf) fun D σ H ⟨env, F, H0, G0, De, S, w, L⟩ =>
  ev_of L S w fun v H' F' d S' r k => L.nx _ _ _ _ (S'.put r) k
theorem put_new {K : PySem.W.Frag} {H0 G0 F H H' : Hp} {σ : L2.St} {env env' : Env} {i : Nat} {p : Addr} {o : HO} {s : Sl} (S : SR K H0 G0 F σ H' env') (hs : s.own = true) (h0 : H0 p = none) (hF : F p = none) (ho : H' p = some o) (r : OR K F o s)
    (ap : ∀ (j : Nat) (s' : Sl), env'[j]? = some (some s') → s'.own = true → σ[j]? ≠ some (some (.ref p))) : SR K H0 G0 F (σ.set i (some (.ref p))) H' (env'.set i (some s)) := S.own hs hF h0 ho r fun j s' a b _ => ap j s' a b
/-- the objects of the slots are older than a new one -/
theorem old_ne {K : PySem.W.Frag} {H0 G0 F H : Hp} {σ : L2.St} {env : Env} {ks : List Nat} {sc : Bool} {p : Addr} (S : SR K H0 G0 F σ H env) (n : H p = none) : ∀ (j : Nat) (s' : Sl), (aft ks sc env)[j]? = some (some s') → s'.own = true → σ[j]? ≠ some (some (.ref p)) := fun j s' a b q => by
  rw [aft_get] at a
  cases e : env[j]? with
  | none => rw [e] at a; cases a
  | some o =>
    rw [e] at a
    cases o with
    | none =>
      by_cases hc : sc = true ∨ j ∈ ks
      · simp [hc] at a
      · simp [hc, frz] at a
    | some s0 =>
      have a' : (if sc = true ∨ j ∈ ks then (some s0) else frz (some s0)) = some s' := by simpa using a
      by_cases hc : sc = true ∨ j ∈ ks
      · rw [if_pos hc] at a'
        cases a'
        obtain ⟨a2, o2, q2, _, _, ho, _⟩ := S.ow j _ e b
        rw [q] at q2
        cases q2
        rw [n] at ho
        cases ho
      · rw [if_neg hc] at a'
        cases a'
        cases b
theorem ds_setL {w : WA} {i : Nat} {x : Str} {pos' : Pos} (ks : List Nat) (hN : X.N.Nodup) (hi : X.N[i]? = some x) (hx : Loc X.env.scope x) (he : PE X e (tDL X.K W w)) (hs : swapsWith e (some (.Name x pos')) pos.line X.env = pure false := by rfl)
    (hf : X.fn x = true ∨ X.env.scope.names.lookup x = some .local := by first | exact .inl rfl | exact .inr rfl) : PS X (.Assign [.Name x pos'] e pos) (tDS X.K W (wAsgL ks i w)) := ps_imp (ps_set hN hi hx he hs hf) fun D σ H ⟨env, F, H0, G0, De, S, w, L⟩ =>
  evL_of L S w fun p xs H' F' ds S' h0 hn hF ho ra k => L.nx _ _ _ _ (put_new (H := H) (env := env) S' rfl h0 hF ho (.ol ra) (old_ne S hn)) k
theorem ds_ret (he : PE X e (tD X.K W w)) : PS X (.Return (some e) pos) (tDS X.K W (wRet w)) := ps_imp (ps_ret he) fun D σ H ⟨env, F, H0, G0, De, S, w, L⟩ =>
  ev_of L S w fun v H' F' d S' r k => L.rt v H' F' d S'.up r k
theorem ds_retN : PS X (.Return none pos) (tDS X.K W wRetN) := ps_imp ps_retN fun D σ H ⟨env, F, H0, G0, De, S, w, L⟩ => L.rt _ H F _ S.up .non w
theorem ds_drop (ks : List Nat) (he : PE X e (tD X.K W w)) (hs : swapsWith e none pos.line X.env = pure false := by rfl) : PS X (.Expr e pos) (tDS X.K W (wDrop ks w)) := ps_imp (ps_expr he hs) fun D σ H ⟨env, F, H0, G0, De, S, w, L⟩ =>
  ev_of L S w fun v H' F' d S' r k => L.nx _ _ _ _ S' k
theorem ds_pass : PS X (.Pass pos) (tDS X.K W wNext) := ps_imp ps_pass fun D σ H ⟨env, F, H0, G0, De, S, w, L⟩ => L.nx σ H F env S w
theorem ds_break : PS X (.Break pos) (tDS X.K W wBreak) := ps_imp ps_break fun D σ H ⟨env, F, H0, G0, De, S, w, L⟩ => L.bk σ H F env S w
theorem ds_cont : PS X (.Continue pos) (tDS X.K W wCont) := ps_imp ps_continue fun D σ H ⟨env, F, H0, G0, De, S, w, L⟩ => L.ct σ H F env S w
end

/-! ### x.append(e), x[i] = e -/
def wApp (ks : List Nat) (i : Nat) (w : WE) : WS := fun De env => ∃ l, env[i]? = some (some (.ol l)) ∧ l.length < sizeLine ∧ wEv ks w De env fun d env1 => env1[i]? = some (some (.ol l)) ∧ De.nx (env1.set i (some (.ol (l ++ [d]))))
def wSet (ks : List Nat) (i : Nat) (wi w : WE) : WS := fun De env => wEv ks w De env fun d env1 => ∃ l, env1[i]? = some (some (.ol l)) ∧ wEv [] wi De env1 fun k env2 => ∃ n j, k = .int n ∧ ixN l.length n = some j ∧ De.nx (env2.set i (some (.ol (l.set j d))))
section
variable {X : Cx} {W : WX} {a b c e : Expr} {pos : Pos} {w wi : WE} {ks : List Nat}
theorem tCons1 {te : TE} {σ : L2.St} {H : Hp} {Q : List V → Hp → Prop} (h : te σ H fun x H1 => Q [x] H1) : tCons te tNil σ H Q := h
theorem tyV_list {K : PySem.W.Frag} {H : Hp} {a : Addr} {xs : List V} (h : H a = some (.lst xs)) : tyV K "list" (.ref a) H := Or.inl ⟨rfl, xs, SqL.of h⟩
theorem ds_app {i : Nat} (ks : List Nat) (h : PE X e (tBM X.K "list" rAppend (tVar i) (tCons (tD X.K W w) tNil)))
    (hs : swapsWith e none pos.line X.env = pure false := by rfl) : PS X (.Expr e pos) (tDS X.K W (wApp ks i w)) :=
  ps_imp (ps_expr h hs) fun Dh σ H ⟨env, F, H0, G0, De, S, ⟨l, hl, hz, w1⟩, L⟩ => by
    obtain ⟨a, o, ea, n, n0, ho, r⟩ := S.ow i _ hl rfl
    cases r with
    | ol r =>
      refine ⟨.ref a, ea, tyV_list ho, tCons1 (ev_of L S w1 fun v H' F' d S' rd ⟨hl', q⟩ => ?_)⟩
      obtain ⟨a', o', ea', n', n0', ho', r'⟩ := S'.ow i _ hl' rfl
      rw [ea] at ea'
      cases ea'
      cases r' with
      | ol r' =>
        rename_i xs'
        refine ⟨a, xs', v, rfl, rfl, ho', by rw [r'.length]; exact hz, L.nx _ _ _ _ (S'.chg hl' rfl ea rfl (.ol (r'.app (.one rd)))) q⟩
theorem ds_setit {i : Nat} {ei : Expr} {x : Str} {p1 p2 : Pos} (ks : List Nat) (hv : PE X e (tD X.K W w)) (hx : PE X (.Name x p1) (tVar i)) (hi : PE X ei (tD X.K W wi))
    (hg : ∀ (t1 t2 : TE), PE X (.Name x p1) t1 → PE X ei t2 → PG X (.Subscript (.Name x p1) ei p2) (gSub t1 t2 rSetL))
    (hs : swapsWithSole [.Subscript (.Name x p1) ei p2] e pos.line X.env = pure false := by rfl) : PS X (.Assign [.Subscript (.Name x p1) ei p2] e pos) (tDS X.K W (wSet ks i wi w)) :=
  ps_imp (ps_asg hv (hg _ _ hx hi) hs) fun Dh σ H ⟨env, F, H0, G0, De, S, w1, L⟩ =>
    ev_of L S w1 fun v H' F' d S' rd ⟨l, hl, w2⟩ => by
      obtain ⟨a, o, ea, n, n0, ho, r⟩ := S'.ow i _ hl rfl
      have L' : LE X.K W H0 F' De Dh := ⟨fun σ H F env S1 => L.nx σ H F env (S'.unbase S1), fun v H F d u => L.rt v H F d (S'.upTo u), fun σ H F env S1 => L.bk σ H F env (S'.unbase S1), fun σ H F env S1 => L.ct σ H F env (S'.unbase S1), fun x dd σ H F env S1 => L.ex x dd σ H F env (S'.unbase S1)⟩
      refine ⟨.ref a, ea, ev_of L' S'.rebase w2 fun vi H2 F2 di S2 ri ⟨m, j, e1, e2, q⟩ => ?_⟩
      subst e1
      cases ri
      rw [show D.scal (.int m) = true from rfl] at S2
      have hl2 : (aft [] true (aft ks d.scal env))[i]? = some (some (.ol l)) := hl
      obtain ⟨a', o', ea', n', n0', ho', r'⟩ := S2.ow i _ hl2 rfl
      rw [ea] at ea'
      cases ea'
      cases r' with
      | ol r' =>
        rename_i xs'
        exact ⟨a, xs', m, j, rfl, rfl, ho', by rw [r'.length]; exact e2, L'.nx _ _ _ _ (S2.chg hl2 rfl ea rfl (.ol (RA.set (rd.mono S2.exG) j r'))) q⟩
end

/-! ### targets -/
abbrev WG := D → Env → (Env → Prop) → Prop
abbrev WGs := List D → Env → (Env → Prop) → Prop
def gN (i : Nat) : WG := fun d env k => k (env.set i (some (.fz d)))
def gT (n : Nat) (gs : WGs) : WG := fun d env k => ∃ ds, d = .tup ds ∧ ds.length = n ∧ gs ds env k
def gNil' : WGs := fun ds env k => ds = [] ∧ k env
def gCons' (g : WG) (gs : WGs) : WGs := fun ds env k => ∃ d r, ds = d :: r ∧ g d env fun env1 => gs r env1 k
/-- a target stores what it says: in a def's state; in a comprehension's, touching the slots js alone -/
structure GS (K : PySem.W.Frag) (js : List Nat) (t : TG) (g : WG) : Prop where
  sr : ∀ (H0 G0 F : Hp) (σ : L2.St) (H : Hp) (env : Env) (v : V) (d : D) (k : Env → Prop) (Q : L2.St → Hp → Prop), SR K H0 G0 F σ H env → R K F v d → g d env k → (∀ σ' env', SR K H0 G0 F σ' H env' → k env' → Q σ' H) → t v σ H Q
  er : ∀ (G H : Hp) (σ : L2.St) (env : Env) (v : V) (d : D) (k : Env → Prop) (Q : L2.St → Hp → Prop), σ.length = env.length → Ex G H → ER K G σ env → R K G v d → g d env k → (∀ σ' env', σ'.length = env'.length → (∀ vs : List Nat, (∀ j ∈ js, j ∈ vs) → wipe σ' vs = wipe σ vs) → ER K G σ' env' → k env' → Q σ' H) → t v σ H Q
structure GSs (K : PySem.W.Frag) (js : List Nat) (t : TGs) (g : WGs) : Prop where
  sr : ∀ (H0 G0 F : Hp) (σ : L2.St) (H : Hp) (env : Env) (v : List V) (d : List D) (k : Env → Prop) (Q : L2.St → Hp → Prop), SR K H0 G0 F σ H env → RA K F v d → g d env k → (∀ σ' env', SR K H0 G0 F σ' H env' → k env' → Q σ' H) → t v σ H Q
  er : ∀ (G H : Hp) (σ : L2.St) (env : Env) (v : List V) (d : List D) (k : Env → Prop) (Q : L2.St → Hp → Prop), σ.length = env.length → Ex G H → ER K G σ env → RA K G v d → g d env k → (∀ σ' env', σ'.length = env'.length → (∀ vs : List Nat, (∀ j ∈ js, j ∈ vs) → wipe σ' vs = wipe σ vs) → ER K G σ' env' → k env' → Q σ' H) → t v σ H Q
theorem wipe_set {σ : L2.St} {i : Nat} {o : Option V} : ∀ {vs : List Nat}, i ∈ vs → wipe (σ.set i o) vs = wipe σ vs
  | [], h => by simp at h
  | v :: vs, h => by
    unfold wipe
    by_cases hi : i ∈ vs
    · rw [wipe_set hi]
    · have e : i = v := (List.mem_cons.mp h).elim id fun z => absurd z hi
      subst e
      have : ∀ vs : List Nat, i ∉ vs → wipe (σ.set i o) vs = (wipe σ vs).set i o := by
        intro vs
        induction vs with
        | nil => intro _; rfl
        | cons v vs ih =>
          intro hn
          unfold wipe
          rw [ih fun z => hn (List.mem_cons_of_mem _ z), List.set_comm _ _ fun z => hn (by simp [z])]
      rw [this vs hi, List.set_set]
theorem ER.put {K : PySem.W.Frag} {G : Hp} {σ : L2.St} {env : Env} {i : Nat} {v : V} {d : D} (hl : σ.length = env.length) (er : ER K G σ env) (r : R K G v d) : ER K G (σ.set i (some v)) (env.set i (some (.fz d))) := fun j s h => by
  by_cases hj : j = i
  · subst hj
    by_cases hz : j < env.length
    · rw [List.getElem?_set_self hz] at h
      cases h
      exact ⟨v, by rw [List.getElem?_set_self (by rw [hl]; exact hz)], r⟩
    · rw [List.getElem?_eq_none (by simpa using hz)] at h
      cases h
  · rw [List.getElem?_set_ne (Ne.symm hj)] at h
    rw [List.getElem?_set_ne (Ne.symm hj)]
    exact er j s h
theorem gs_name {K : PySem.W.Frag} {i : Nat} : GS K [i] (gName i) (gN i) where
  sr := fun H0 G0 F σ H env v d k Q S r h q => q _ _ (S.put r) h
  er := fun G H σ env v d k Q hl ex er r h q => q _ _ (by simpa using hl) (fun vs hv => wipe_set (hv i (by simp))) (er.put hl r) h
theorem gs_nil {K : PySem.W.Frag} : GSs K [] gNil gNil' where
  sr := fun H0 G0 F σ H env v d k Q S r h q => by
    obtain ⟨e, h⟩ := h
    subst e
    cases r
    exact ⟨rfl, q _ _ S h⟩
  er := fun G H σ env v d k Q hl ex er r h q => by
    obtain ⟨e, h⟩ := h
    subst e
    cases r
    exact ⟨rfl, q _ _ hl (fun _ _ => rfl) er h⟩
theorem gs_cons {K : PySem.W.Frag} {js js' : List Nat} {t : TG} {ts : TGs} {g : WG} {gs : WGs} (a : GS K js t g) (b : GSs K js' ts gs) : GSs K (js ++ js') (gCons t ts) (gCons' g gs) where
  sr := fun H0 G0 F σ H env v d k Q S r h q => by
    obtain ⟨d0, dr, e, h⟩ := h
    subst e
    cases r with
    | cons r0 rr => exact ⟨_, _, rfl, a.sr H0 G0 F σ H env _ _ _ _ S r0 h fun σ' env' S' h' => b.sr H0 G0 F σ' H env' _ _ _ _ S' rr h' q⟩
  er := fun G H σ env v d k Q hl ex er r h q => by
    obtain ⟨d0, dr, e, h⟩ := h
    subst e
    cases r with
    | cons r0 rr => exact ⟨_, _, rfl, a.er G H σ env _ _ _ _ hl ex er r0 h fun σ' env' hl' hw er' h' => b.er G H σ' env' _ _ _ _ hl' ex er' rr h' fun σ2 env2 hl2 hw2 er2 h2 =>
        q σ2 env2 hl2 (fun vs hv => (hw2 vs fun j hj => hv j (List.mem_append_right _ hj)).trans (hw vs fun j hj => hv j (List.mem_append_left _ hj))) er2 h2⟩
theorem gs_tup {K : PySem.W.Frag} {n : Nat} {js : List Nat} {ts : TGs} {gs : WGs} (b : GSs K js ts gs) : GS K js (gTup K n ts) (gT n gs) where
  sr := fun H0 G0 F σ H env v d k Q S r h q => by
    obtain ⟨ds, e, hl, h⟩ := h
    subst e
    cases r with
    | tup hs ra => exact ⟨_, _, rfl, ex_t S.exF hs, by rw [ra.length]; exact hl, b.sr H0 G0 F σ H env _ _ _ _ S ra h q⟩
  er := fun G H σ env v d k Q hl ex er r h q => by
    obtain ⟨ds, e, hn, h⟩ := h
    subst e
    cases r with
    | tup hs ra => exact ⟨_, _, rfl, ex_t ex hs, by rw [ra.length]; exact hn, b.er G H σ env _ _ _ _ hl ex er ra h q⟩
/-- target = e -/
def wAsgG (ks : List Nat) (g : WG) (w : WE) : WS := fun De env => wEv ks w De env fun d env1 => g d env1 De.nx
theorem ds_asg {X : Cx} {W : WX} {tg e : Expr} {pos : Pos} {w : WE} {js : List Nat} {t : TG} {g : WG} (ks : List Nat) (he : PE X e (tD X.K W w)) (hg : PG X tg t) (gs : GS X.K js t g) (hs : swapsWithSole [tg] e pos.line X.env = pure false := by rfl) (hw : swappedStores [tg] e X.env = pure none := by rfl)
    (h1 : (assignEach [tg] X.env).map (·.2) = [assign tg X.env] := by rfl) : PS X (.Assign [tg] e pos) (tDS X.K W (wAsgG ks g w)) := ps_imp (ps_asg he hg hs hw h1) fun D σ H ⟨env, F, H0, G0, De, S, w, L⟩ =>
  ev_of L S w fun v H' F' d S' r k => gs.sr _ _ _ _ _ _ _ _ _ _ S' r k fun σ' env' S2 k2 => L.nx _ _ _ _ S2 k2

/-! ### what is walked -/
def noH : Hp := fun _ => none
/-- J yields ds, one by one, wherever G is to be read -/
def ItD (K : PySem.W.Frag) (G : Hp) (J : It) (ds : List D) : Prop := ∀ (F H : Hp), Ex G F → Ex F H → J.stop ds.length H ∧ (∀ i, i < ds.length → J.go i H) ∧ ∀ i d x H', ds[i]? = some d → J.yld i H x H' → ∃ F', Up H F H' F' ∧ R K F' x d
/-- sc: nothing of the heap is read -/
def tDI (K : PySem.W.Frag) (W : WX) (sc : Bool) (w : WA) : TI := fun σ H Rr => ∃ (env : Env) (G : Hp) (Qd : List D → Prop) (Z : XP), ER K G σ env ∧ Ex G H ∧ w env Qd Z ∧
  (∀ J H' G' ds, Up H G H' G' → ItD K (if sc then noH else G') J ds → ds.length ≤ sizeLine → Qd ds → Rr J H') ∧ ZK K W H G σ Z
def wLoop (g : WG) (body : WS) (De : EndsD) : List D → Env → Prop
  | [], env => De.nx env
  | d :: ds, env => g d env fun env1 => body { De with nx := wLoop g body De ds, ct := wLoop g body De ds, bk := De.nx } env1
def wFor (ks : List Nat) (sc : Bool) (wi : WA) (g : WG) (body : WS) : WS := fun De env => wi (mask ks env) (fun ds => wLoop g body De ds (aft ks sc env)) (fun x => De.ex x (aft ks (xsc x) env))
theorem LE.rebase {K : PySem.W.Frag} {W : WX} {H0 G0 F H : Hp} {σ : L2.St} {env : Env} {De : EndsD} {Dh : Ends} (L : LE K W H0 G0 De Dh) (S : SR K H0 G0 F σ H env) : LE K W H0 F De Dh :=
  ⟨fun σ H F env S1 => L.nx σ H F env (S.unbase S1), fun v H F d u => L.rt v H F d (S.upTo u), fun σ H F env S1 => L.bk σ H F env (S.unbase S1), fun σ H F env S1 => L.ct σ H F env (S.unbase S1), fun x dd σ H F env S1 => L.ex x dd σ H F env (S.unbase S1)⟩
theorem ds_for {X : Cx} {W : WX} {tg iter : Expr} {body : List Stmt} {pos : Pos} {sc : Bool} {wi : WA} {js : List Nat} {t : TG} {g : WG} {wb : WS} (ks : List Nat) (hp : PassesOwn (model X.prog X.w) X.A X.env X.xe) (hc : X.calm = true)
    (hi : PI X tg iter (tDI X.K W sc wi)) (hg : PG X tg t) (gs : GS X.K js t g) (hb : PSs X body (tDS X.K W wb)) (hs : ∀ x, foldedSetIterable iter X.env x = pure x := by intro _; rfl) : PS X (.For tg iter body [] pos) (tDS X.K W (wFor ks sc wi g wb)) :=
  ps_imp (ps_for hp hc hi hg hb hs) fun Dh σ H ⟨env, F, H0, G0, De, S, w1, L⟩ => by
    refine ⟨mask ks env, rdH ks env σ F H, _, _, S.rd.2.2.1, S.rd.2.1, w1, fun J H1 G1 ds u it hz q => ?_, L.zk S⟩
    obtain ⟨F1, S1, eF⟩ := S.aft (ks := ks) (sc := sc) u
    have g1 : Ex (if sc then noH else G1) F1 := by
      cases sc with
      | true => exact fun a o h => nomatch h
      | false => rw [eF rfl]; exact Ex.refl _
    refine ⟨fun i m σ' H' => m = ds.length - i ∧ i ≤ ds.length ∧ ∃ env' F', SR X.K H0 G0 F' σ' H' env' ∧ Ex F1 F' ∧ wLoop g wb De (ds.drop i) env', ⟨ds.length, rfl, Nat.zero_le _, _, F1, S1, Ex.refl _, q⟩, ?_⟩
    rintro i m σ' H' ⟨rfl, hi, env', F', S', e1, q'⟩
    obtain ⟨h1, h2, h3⟩ := it F' H' (g1.trans e1) S'.exF
    by_cases hlt : i < ds.length
    · refine .inr ⟨h2 i hlt, fun σ2 H2 => ∃ env2 F2, SR X.K H0 G0 F2 σ2 H2 env2 ∧ Ex F1 F2 ∧ wLoop g wb De (ds.drop (i + 1)) env2, fun σ2 H2 ⟨env2, F2, a, b, c⟩ => ⟨ds.length - (i + 1), by omega, rfl, hlt, env2, F2, a, b, c⟩, fun x H2 hy => ?_⟩
      obtain ⟨F2, u2, r2⟩ := h3 i _ x H2 (List.getElem?_eq_getElem hlt) hy
      have ed : ds.drop i = ds[i] :: ds.drop (i + 1) := List.drop_eq_getElem_cons hlt
      rw [ed] at q'
      have ow2 : ∀ (i : Nat) (s : Sl), env'[i]? = some (some s) → s.own = true → ∃ (a : Addr) (o : HO), σ'[i]? = some (some (.ref a)) ∧ F2 a = none ∧ H0 a = none ∧ H2 a = some o ∧ OR X.K F2 o s := fun i s a b => by
        obtain ⟨ad, o, e, n, n0, ho, r⟩ := S'.ow i s a b
        refine ⟨ad, o, e, ?_, n0, u2.h _ _ ho, r.mono u2.g⟩
        cases hn : F2 ad with
        | none => rfl
        | some o2 =>
          have := u2.f ad n (by rw [hn]; exact fun z => by cases z)
          rw [ho] at this
          cases this
      have S2 : SR X.K H0 F' F2 σ' H2 env' := ⟨S'.len, S'.ex0.trans u2.h, u2.gh, u2.g, fun a n p => fresh_back S'.ex0 (u2.f a n p), fun i d h => let ⟨v, a, b⟩ := S'.fz i d h; ⟨v, a, b.mono u2.g⟩, ow2, S'.ne⟩
      refine gs.sr H0 F' F2 σ' H2 env' x _ _ _ S2 r2 q' fun σ3 env3 S3 q3 => ?_
      refine ⟨env3, F2, H0, F', _, S3, q3, ?_⟩
      have L' := L.rebase S'
      exact ⟨fun σ4 H4 F4 env4 S4 q4 => ⟨env4, F4, S'.unbase S4, e1.trans S4.exG, q4⟩, L'.rt, fun σ4 H4 F4 env4 S4 q4 => L.nx σ4 H4 F4 env4 (S'.unbase S4) q4, fun σ4 H4 F4 env4 S4 q4 => ⟨env4, F4, S'.unbase S4, e1.trans S4.exG, q4⟩, L'.ex⟩
    · have e : i = ds.length := by omega
      subst e
      refine .inl ⟨h1, ?_⟩
      rw [List.drop_length] at q'
      exact L.nx σ' H' F' env' S' q'
/-- while -/
def wIter (t : WT) (body : WS) (De : EndsD) : Nat → Env → Prop
  | 0, _ => False
  | n + 1, env => wEvT t De env fun b => if b = true then body { De with nx := wIter t body De n, ct := wIter t body De n, bk := De.nx } env else De.nx env
def wWhile (t : WT) (body : WS) : WS := fun De env => ∃ n, wIter t body De n env
theorem ds_while {X : Cx} {W : WX} {c : Expr} {body : List Stmt} {pos : Pos} {t : WT} {wb : WS} (hp : PassesOwn (model X.prog X.w) X.A X.env X.xe) (hc : PT X c (tDT X.K W t)) (hb : PSs X body (tDS X.K W wb)) : PS X (.While c body [] pos) (tDS X.K W (wWhile t wb)) :=
  ps_imp (ps_while hp hc hb) fun Dh σ H ⟨env, F, H0, G0, De, S, ⟨n, w1⟩, L⟩ => by
    refine ⟨fun m σ' H' => ∃ env' F', SR X.K H0 G0 F' σ' H' env' ∧ wIter t wb De m env', ⟨n, env, F, S, w1⟩, ?_⟩
    rintro m σ' H' ⟨env', F', S', q⟩
    cases m with
    | zero => exact q.elim
    | succ m =>
      refine evT_of L S' q fun b H1 S1 k => ?_
      cases b with
      | true =>
        refine ⟨fun σ2 H2 => ∃ env2 F2, SR X.K H0 G0 F2 σ2 H2 env2 ∧ wIter t wb De m env2, fun σ2 H2 h => ⟨m, Nat.lt_succ_self m, h⟩, env', F', H0, G0, _, S1, k, ?_⟩
        exact ⟨fun σ4 H4 F4 env4 S4 q4 => ⟨env4, F4, S4, q4⟩, L.rt, L.nx, fun σ4 H4 F4 env4 S4 q4 => ⟨env4, F4, S4, q4⟩, L.ex⟩
      | false => exact L.nx σ' H1 F' env' S1 k
end MP
namespace MP
open PySem PySem.Spec PyProof.Rows L2
open Evl (Ex fresh_back ex_rd ex_l ex_t)

/-! ### defs and their calls -/
abbrev SpD := List D → (D → Prop) → XP → Prop
def liftSp (K : PySem.W.Frag) (sp : SpD) : Sp := fun vs H Q E => ∃ (ds : List D) (G : Hp) (Qd : D → Prop) (Z : XP), RA K G vs ds ∧ Ex G H ∧ sp ds Qd Z ∧ VKt K H G Qd Q ∧
  ∀ (x : XD) (dd : Option Addr) (H' G' : Hp), Up H G H' G' → XR K G' dd x.fs → Z x → E (.ref x.C) dd H'
def startD (N : List Str) (ds : List D) : Env := ds.map (fun d => some (.fz d)) ++ List.replicate (N.length - ds.length) none
/-- a def's ends -/
def bodyD (Q : D → Prop) (Z : XP) : EndsD := { nx := fun _ => Q .non, rt := Q, ex := fun x _ => Z x }
theorem start_sr {K : PySem.W.Frag} {H G : Hp} {N : List Str} {vs : List V} {ds : List D} (ra : RA K G vs ds) (e : Ex G H) : SR K H G G (L2.start N vs) H (startD N ds) := by
  have hl := ra.length
  have g : ∀ {i : Nat} {s : Sl}, (startD N ds)[i]? = some (some s) → ∃ d, ds[i]? = some d ∧ s = .fz d ∧ i < ds.length := fun {i s} h => by
    unfold startD at h
    by_cases hi : i < ds.length
    · rw [List.getElem?_append_left (by simpa using hi), List.getElem?_map, List.getElem?_eq_getElem hi] at h
      exact ⟨ds[i], List.getElem?_eq_getElem hi, (Option.some.inj (Option.some.inj h)).symm, hi⟩
    · rw [List.getElem?_append_right (by simpa using hi), List.getElem?_replicate] at h
      split at h
      · cases h
      · cases h
  refine ⟨?_, Ex.refl H, e, Ex.refl G, fun a n p => absurd n p, fun i d h => ?_, fun i s h o => ?_, fun i j s s' a h1 _ o => ?_⟩
  · unfold L2.start startD
    simp [hl]
  · obtain ⟨d', h1, h2, h3⟩ := g h
    cases h2
    obtain ⟨v, hv, r⟩ := ra.get' h1
    refine ⟨v, ?_, r⟩
    unfold L2.start
    rw [List.getElem?_append_left (by rw [List.length_map, hl]; exact h3), List.getElem?_map, hv]
    rfl
  · obtain ⟨d', h1, h2, h3⟩ := g h
    subst h2
    cases o
  · obtain ⟨d', h2, h3, h4⟩ := g h1
    subst h3
    cases o
/-- THE RULE for a def -/
theorem fn_D {P : Program} {w : World} {K : PySem.W.Frag} {mg : Str → Option Value} {base : Heap} {x qual : Str} {st : Stmt} {f : Addr} {fd : FuncData} {N ps : List Str} {k : Nat} {sp : SpD} {wb : WS} (F : Fun K x qual st f fd) (S : FnScope N ps (defScope st))
    (body : ∀ (cdv : Value) (A : Around) (outer : List PySem.Env) (s : Shared) (H : Hp) (E : XK), Room k (A.deeper (envOfC qual (defScope st) s.heap.objs.size f cdv)) →
      PSs (cxOf (L2.CX P w) P w K mg base N qual (defScope st) f cdv A outer s H E) (defBody st) (tDS K (fun cls d _ H => E cls d H) wb))
    (h : ∀ ds Q Z, sp ds Q Z → ds.length = ps.length ∧ wb (bodyD Q Z) (startD N ds)) : FnOk P w K mg base (L2.CX P w) (k + 1) f fd ps (liftSp K sp) := by
  refine F.okX S (fun vs H Q E q => ?_) (fun cdv A outer s H vs Q E hr q => ?_)
  · obtain ⟨ds, G, Qd, Z, ra, _, hs, _⟩ := q
    rw [ra.length]
    exact (h ds Qd Z hs).1
  · obtain ⟨ds, G, Qd, Z, ra, e, hs, kv, kz⟩ := q
    refine ⟨_, body cdv A outer s H E hr, startD N ds, G, H, G, bodyD Qd Z, start_sr ra e, (h ds Qd Z hs).2, ?_⟩
    exact ⟨fun σ H' F' env S' q => kv .non H' F' .non S'.up .non q, fun v H' F' d u r q => kv v H' F' d u r q, fun _ _ _ _ _ q => q.elim, fun _ _ _ _ _ q => q.elim, fun x dd σ H' F' env S' xr q => kz x dd H' F' S'.up xr q⟩
def wCall (sp : SpD) (ws : WA) : WE := fun env Q Z => ws env (fun ds => sp ds Q Z) Z
def wCallD (sp : SpD) (dvs : List D) (ws : WA) : WE := fun env Q Z => ws env (fun ds => sp (ds ++ dvs) Q Z) Z
section
variable {X : Cx} {W : WX} {k : Nat} {f : Addr} {fd : FuncData} {ps : List Str} {sp : SpD} {x : Str} {p pos : Pos} {e : Expr} {es : List Expr} {ws : WA} {dvs : List D} {vds : List V} {us : List Value}
theorem d_call (F : FnOk X.prog X.w X.K X.mg X.base (L2.CX X.prog X.w) k f fd ps (liftSp X.K sp)) (hr : Room k X.A) (hg : Gl X x) (hm : X.mg x = some (.ref f)) (hk : PySem.W.keepIn X.K (.ref f) = true) (hb : Binds X.K fd ps []) (tk : Takes X W)
    (ha : PA X (e :: es) (tDA X.K W ws)) (hdb : (x == ("__debug__" : Str)) = false := by decide) (he : starEach (e :: es) X.env = (false, eval e X.env) :: starEach es X.env := by rfl) (hpl : (backTo pos (starEach es X.env)).any (·.1) = false := by rfl) :
    PE X (.Call (.Name x p) (e :: es) [] pos) (tD X.K W (wCall sp ws)) := pe_imp (pe_callS (E := L2.WE W) F hr hg hm hk hb (fun σ => passAt tk σ) ha hdb he hpl) fun σ H Q ⟨env, G, Qd, Z, er, ex, w, k, z⟩ =>
  ⟨env, G, _, Z, er, ex, w, fun vs H1 G1 ds u ra q => ⟨ds, G1, Qd, Z, ra, u.gh, q, k.up u, z.up u⟩, z⟩
theorem d_callD (F : FnOk X.prog X.w X.K X.mg X.base (L2.CX X.prog X.w) k f fd ps (liftSp X.K sp)) (hr : Room k X.A) (hg : Gl X x) (hm : X.mg x = some (.ref f)) (hk : PySem.W.keepIn X.K (.ref f) = true) (hb : Binds X.K fd ps us) (hv : Vals vds us) (hd : ∀ G, RA X.K G vds dvs) (tk : Takes X W)
    (ha : PA X (e :: es) (tDA X.K W ws)) (hdb : (x == ("__debug__" : Str)) = false := by decide) (he : starEach (e :: es) X.env = (false, eval e X.env) :: starEach es X.env := by rfl) (hpl : (backTo pos (starEach es X.env)).any (·.1) = false := by rfl) :
    PE X (.Call (.Name x p) (e :: es) [] pos) (tD X.K W (wCallD sp dvs ws)) := pe_imp (pe_callSD (E := L2.WE W) F hr hg hm hk hb hv (fun σ => passAt tk σ) ha hdb he hpl) fun σ H Q ⟨env, G, Qd, Z, er, ex, w, k, z⟩ =>
  ⟨env, G, _, Z, er, ex, w, fun vs H1 G1 ds u ra q => ⟨ds ++ dvs, G1, Qd, Z, ra.app (hd G1), u.gh, q, k.up u, z.up u⟩, z⟩
end

/-! ### what is walked -/
/-- what the machine knows of a length -/
theorem pe_known {X : Cx} {e : Expr} {t : TE} (h : PE X e t) : PE X e (fun σ H Q => t σ H fun x H1 => ((∀ a xs, x = .ref a → SqL X.K H1 a xs → xs.length ≤ sizeLine) ∧ (∀ a xs, x = .ref a → SqT X.K H1 a xs → xs.length ≤ sizeLine)) → Q x H1) := by
  constructor
  intro pins s σ H Q I q
  refine thn (h.run pins s σ H _ I q) fun u s1 z => ?_
  obtain ⟨x, H1, I1, r1, f⟩ := z
  exact ⟨x, H1, I1, r1, f ⟨fun a xs _ hx => (I1.list hx).elim fun _ t => t.2.2, fun a xs _ hx => (I1.tuple hx).elim fun _ t => t.2.2⟩⟩
theorem pa_known {X : Cx} {es : List Expr} {t : TA} (h : PA X es t) : PA X es (fun σ H Q => t σ H fun vs H1 => ((∀ a xs, SqL X.K H1 a xs → xs.length ≤ sizeLine) ∧ (∀ a xs, SqT X.K H1 a xs → xs.length ≤ sizeLine)) → Q vs H1) := by
  constructor
  intro pos pins s σ H Q I q
  refine thn (h.run pos pins s σ H _ I q) fun u s1 z => ?_
  obtain ⟨x, H1, I1, r1, f⟩ := z
  exact ⟨x, H1, I1, r1, f ⟨fun a xs hx => (I1.list hx).elim fun _ t => t.2.2, fun a xs hx => (I1.tuple hx).elim fun _ t => t.2.2⟩⟩
theorem pi_imp {X : Cx} {tg iter : Expr} {wi wi' : TI} (h : PI X tg iter wi) (k : ∀ σ H R, wi' σ H R → wi σ H R) : PI X tg iter wi' := ⟨fun pins s σ H R I q => h.run pins s σ H R I (k σ H R q)⟩
theorem it_list {K : PySem.W.Frag} {G : Hp} {a : Addr} {xs : List V} {ds : List D} (h : SqL K G a xs) (ra : RA K G xs ds) : ItD K G (Itl K a) ds := fun F H e1 e2 =>
  have hH : SqL K H a xs := ex_l (e1.trans e2) h
  have hl := ra.length
  ⟨⟨xs, hH, by omega⟩, fun i hi => ⟨xs, xs[i]'(by omega), hH, List.getElem?_eq_getElem _⟩, fun i d x H' hd hy => by
    obtain ⟨e, y⟩ := hy
    subst e
    obtain ⟨v, hv, r⟩ := ra.get' hd
    have ex := y xs hH
    rw [hv] at ex
    cases ex
    exact ⟨F, Up.refl e2, r.mono e1⟩⟩
theorem it_tup {K : PySem.W.Frag} {G : Hp} {a : Addr} {xs : List V} {ds : List D} (h : SqT K G a xs) (ra : RA K G xs ds) : ItD K G (Itt K a) ds := fun F H e1 e2 =>
  have hH : SqT K H a xs := ex_t (e1.trans e2) h
  have hl := ra.length
  ⟨⟨xs, hH, by omega⟩, fun i hi => ⟨xs, xs[i]'(by omega), hH, List.getElem?_eq_getElem _⟩, fun i d x H' hd hy => by
    obtain ⟨e, y⟩ := hy
    subst e
    obtain ⟨v, hv, r⟩ := ra.get' hd
    have ex := y xs hH
    rw [hv] at ex
    cases ex
    exact ⟨F, Up.refl e2, r.mono e1⟩⟩
/-- the items of a list | of a tuple -/
def wIt (w : WE) : WA := fun env Q Z => w env (fun d => ∃ ds, d = .lst ds ∧ Q ds) Z
def wItT (w : WE) : WA := fun env Q Z => w env (fun d => ∃ ds, d = .tup ds ∧ Q ds) Z
theorem di_list {X : Cx} {W : WX} {tg l : Expr} {w : WE} (h : PE X l (tD X.K W w)) : PI X tg l (tDI X.K W false (wIt w)) := pi_imp (pi_list (pe_known h)) fun σ H Rr ⟨env, G, Qd, Z, er, ex, w1, k, z⟩ =>
  ⟨env, G, _, Z, er, ex, w1, fun v H1 G1 d u r ⟨ds, e, q⟩ kn => by
    subst e
    cases r with
    | lst hs ra =>
      have hH := ex_l u.gh hs
      exact ⟨_, rfl, ⟨_, hH⟩, k _ H1 G1 ds u (it_list hs ra) (by rw [← ra.length]; exact kn.1 _ _ rfl hH) q⟩, z⟩
theorem di_tup {X : Cx} {W : WX} {tg l : Expr} {w : WE} (h : PE X l (tD X.K W w)) : PI X tg l (tDI X.K W false (wItT w)) := pi_imp (pi_tup (pe_known h)) fun σ H Rr ⟨env, G, Qd, Z, er, ex, w1, k, z⟩ =>
  ⟨env, G, _, Z, er, ex, w1, fun v H1 G1 d u r ⟨ds, e, q⟩ kn => by
    subst e
    cases r with
    | tup hs ra =>
      have hH := ex_t u.gh hs
      exact ⟨_, rfl, ⟨_, hH⟩, k _ H1 G1 ds u (it_tup hs ra) (by rw [← ra.length]; exact kn.2 _ _ rfl hH) q⟩, z⟩
/-- lo, lo + 1, .. -/
def rangeD (lo : Int) (n : Nat) : List D := (List.range n).map fun i => .int (lo + (i : Nat))
theorem rangeD_len (lo : Int) (n : Nat) : (rangeD lo n).length = n := by simp [rangeD]
theorem it_range {K : PySem.W.Frag} {G : Hp} {lo : Int} {n : Nat} : ItD K G (Itr lo n) (rangeD lo n) := fun F H e1 e2 => by
  refine ⟨by rw [rangeD_len]; exact Nat.le_refl n, fun i hi => by rw [rangeD_len] at hi; exact hi, fun i d x H' hd hy => ?_⟩
  obtain ⟨e, y⟩ := hy
  subst e y
  have hi : i < n := by
    have := (List.getElem?_eq_some_iff.mp hd).1
    rwa [rangeD_len] at this
  unfold rangeD at hd
  rw [List.getElem?_map, List.getElem?_range hi] at hd
  cases hd
  exact ⟨F, Up.refl e2, .int _⟩
def wRng1 (ws : WA) : WA := fun env Q Z => ws env (fun ds => ∃ n : Int, ds = [.int n] ∧ n ≤ 10000000 ∧ -10000000 ≤ n ∧ Q (rangeD 0 n.toNat)) Z
def wRng2 (ws : WA) : WA := fun env Q Z => ws env (fun ds => ∃ i j : Int, ds = [.int i, .int j] ∧ (-10000000 ≤ i ∧ i ≤ 10000000 ∧ j ≤ 10000000 ∧ -10000000 ≤ j ∧ j - i ≤ 10000000) ∧ Q (rangeD i (j - i).toNat)) Z
theorem tenM : (10000000 : Nat) ≤ sizeLine := by decide
section
variable {X : Cx} {W : WX} {tg a b : Expr} {ws : WA} {p pos : Pos}
theorem di_range1 (hg : Gl X "range") (hm : X.mg "range" = none) (ha : PA X [a] (tDA X.K W ws)) (hs : starEach [a] X.env = [(false, eval a X.env)] := by rfl) : PI X tg (.Call (.Name "range" p) [a] [] pos) (tDI X.K W true (wRng1 ws)) :=
  pi_imp (pi_range1 hg hm ha hs) fun σ H Rr ⟨env, G, Qd, Z, er, ex, w1, k, z⟩ => ⟨env, G, _, Z, er, ex, w1, fun vs H1 G1 ds u ra ⟨n, e, h1, h2, q⟩ => by
    subst e
    cases ra with
    | cons r t =>
      cases t
      cases r
      exact ⟨n, rfl, by omega, by omega, k _ H1 G1 _ u it_range (by rw [rangeD_len]; exact Nat.le_trans (by omega) tenM) q⟩, z⟩
theorem di_range2 (hg : Gl X "range") (hm : X.mg "range" = none) (ha : PA X [a, b] (tDA X.K W ws)) (hs : starEach [a, b] X.env = [(false, eval a X.env), (false, eval b X.env)] := by rfl) (hs2 : starEach [b] X.env = [(false, eval b X.env)] := by rfl) : PI X tg (.Call (.Name "range" p) [a, b] [] pos) (tDI X.K W true (wRng2 ws)) :=
  pi_imp (pi_range2 hg hm ha hs hs2) fun σ H Rr ⟨env, G, Qd, Z, er, ex, w1, k, z⟩ => ⟨env, G, _, Z, er, ex, w1, fun vs H1 G1 ds u ra ⟨i, j, e, h1, q⟩ => by
    subst e
    cases ra with
    | cons r t =>
      cases t with
      | cons r2 t =>
        cases t
        cases r
        cases r2
        exact ⟨i, j, rfl, by omega, k _ H1 G1 _ u it_range (by rw [rangeD_len]; exact Nat.le_trans (by omega) tenM) q⟩, z⟩
end
/-- the signs of a text -/
def strD (x : Str) : List D := x.cps.toList.map fun c => .str ⟨#[c]⟩
theorem it_str {K : PySem.W.Frag} {G : Hp} {x : Str} : ItD K G (Its x) (strD x) := fun F H e1 e2 => by
  have hl : (strD x).length = x.cps.size := by simp [strD]
  refine ⟨by rw [hl]; exact Nat.le_refl _, fun i hi => by rw [hl] at hi; exact hi, fun i d v H' hd hy => ?_⟩
  obtain ⟨e, c, hc, ev⟩ := hy
  subst e ev
  unfold strD at hd
  rw [List.getElem?_map, Array.getElem?_toList, hc] at hd
  cases hd
  exact ⟨F, Up.refl e2, .str _⟩
def wItS (w : WE) : WA := fun env Q Z => w env (fun d => ∃ x, d = .str x ∧ x.length ≤ sizeLine ∧ Q (strD x)) Z
theorem di_str {X : Cx} {W : WX} {tg l : Expr} {w : WE} (h : PE X l (tD X.K W w)) : PI X tg l (tDI X.K W true (wItS w)) := pi_imp (pi_str h) fun σ H Rr ⟨env, G, Qd, Z, er, ex, w1, k, z⟩ =>
  ⟨env, G, _, Z, er, ex, w1, fun v H1 G1 d u r ⟨x, e, hl, q⟩ => by
    subst e
    cases r
    exact ⟨x, rfl, k _ H1 G1 _ u it_str (by unfold strD; rw [List.length_map, Array.length_toList]; exact hl) q⟩, z⟩

/-! ### comprehensions -/
abbrev W0 : WX := fun _ _ _ _ => False
def wLcL (g : WG) (t : WT) (w : WE) : List D → List D → Env → (List D → Prop) → Prop
  | [], acc, _, Q => Q acc
  | d :: ds, acc, env, Q => g d env fun env1 => t env1 (fun b => if b = true then w env1 (fun y => wLcL g t w ds (acc ++ [y]) env Q) (fun _ => False) else wLcL g t w ds acc env Q) (fun _ => False)
def wLc (wi : WA) (g : WG) (t : WT) (w : WE) (vs : List Nat) : WA := fun env Q Z => wi env (fun ds => wLcL g t w ds [] (mask vs env) Q) Z
def wYes : WT := fun _ Q _ => Q true
theorem mask_len (env : Env) : ∀ vs : List Nat, (mask vs env).length = env.length
  | [] => rfl
  | v :: vs => by unfold mask; rw [List.length_set, mask_len env vs]
theorem er_wipe {K : PySem.W.Frag} {G : Hp} {σ : L2.St} {env : Env} (h : ER K G σ env) (vs : List Nat) : ER K G (wipe σ vs) (mask vs env) := fun i s q => by
  obtain ⟨q1, q2⟩ := mask_some q
  obtain ⟨v, hv, r⟩ := h i s q1
  refine ⟨v, ?_, r⟩
  have : ∀ vs : List Nat, i ∉ vs → (wipe σ vs)[i]? = σ[i]? := by
    intro vs
    induction vs with
    | nil => intro _; rfl
    | cons k vs ih =>
      intro hn
      unfold wipe
      rw [List.getElem?_set_ne fun z => hn (by simp [z])]
      exact ih fun z => hn (List.mem_cons_of_mem _ z)
  rw [this vs q2]
  exact hv
theorem wipe_get {σ : L2.St} {i : Nat} : ∀ {vs : List Nat}, (wipe σ vs)[i]? = if i ∈ vs then (σ[i]?).map (fun _ => none) else σ[i]?
  | [] => by simp [wipe]
  | v :: vs => by
    unfold wipe
    by_cases h : i = v
    · subst h
      rw [if_pos (by simp)]
      cases e : σ[i]? with
      | none =>
        have hl := List.getElem?_eq_none_iff.mp e
        rw [List.getElem?_eq_none (by rw [List.length_set, wipe_length]; exact hl)]
        rfl
      | some o =>
        have hl := (List.getElem?_eq_some_iff.mp e).1
        rw [List.getElem?_set_self (by rw [wipe_length]; exact hl)]
        rfl
    · rw [List.getElem?_set_ne (Ne.symm h), wipe_get]
      simp [h]
theorem wipe_wipe {σ : L2.St} {vs : List Nat} : wipe (wipe σ vs) vs = wipe σ vs := by
  apply List.ext_getElem?
  intro i
  rw [wipe_get, wipe_get]
  split
  · cases σ[i]? <;> rfl
  · rfl
/-- an environment as long as the slots (a comprehension's stores need it) -/
def wLen (n : Nat) (w : WA) : WA := fun env Q Z => env.length = n ∧ w env Q Z
theorem t_lc {K : PySem.W.Frag} {W : WX} {sc : Bool} {wi : WA} {g : WG} {js : List Nat} {tg : TG} {t : WT} {w : WE} {vs : List Nat} (gs : GS K js tg g) (hj : ∀ j ∈ js, j ∈ vs) (σ : L2.St) (H : Hp) (Q : VK)
    (h : tDL K W (wLen σ.length (wLc wi g t w vs)) σ H Q) : tLc (tDI K W sc wi) tg (tDT K W0 t) (tD K W0 w) vs σ H Q := by
  obtain ⟨env, G, Qd, Z, er, ex, ⟨hlen, w1⟩, k, z⟩ := h
  refine ⟨env, G, _, Z, er, ex, w1, fun J H1 G1 ds u it hz q => fun Dl hD => ?_, z⟩
  refine ⟨fun i m H' => m = ds.length - i ∧ i ≤ ds.length ∧ ∃ G' xs acc, Ex H1 H' ∧ Ex G1 G' ∧ Ex G' H' ∧ Fr G1 G' H1 ∧ G' Dl = none ∧ H' Dl = some (.lst xs) ∧ RA K G' xs acc ∧ acc.length ≤ i ∧ wLcL g t w (ds.drop i) acc (mask vs env) Qd, ⟨ds.length, rfl, Nat.zero_le _, G1, [], [], Ex.new hD, Ex.refl _, u.gh.trans (Ex.new hD), fun a n p => absurd n p, fresh_back u.gh hD, upd_same, .nil, Nat.le_refl _, q⟩, ?_⟩
  rintro i m H' ⟨rfl, hi, G', xs, acc, a1, a2, a3, a4, a5, a6, a7, a8, q'⟩
  have gi : Ex (if sc then noH else G1) G' := by
    cases sc with
    | true => exact fun a o h => nomatch h
    | false => exact a2
  obtain ⟨h1, h2, h3⟩ := it G' H' gi a3
  by_cases hlt : i < ds.length
  · refine .inr ⟨h2 i hlt, fun H2 => ∃ G' xs acc, Ex H1 H2 ∧ Ex G1 G' ∧ Ex G' H2 ∧ Fr G1 G' H1 ∧ G' Dl = none ∧ H2 Dl = some (.lst xs) ∧ RA K G' xs acc ∧ acc.length ≤ i + 1 ∧ wLcL g t w (ds.drop (i + 1)) acc (mask vs env) Qd,
      fun H2 h => ⟨ds.length - (i + 1), by omega, rfl, hlt, h⟩, fun x H2 hy => ?_⟩
    obtain ⟨G2, u2, r2⟩ := h3 i _ x H2 (List.getElem?_eq_getElem hlt) hy
    rw [List.drop_eq_getElem_cons hlt] at q'
    have hn : ∀ {Ha Ga Hb Gb : Hp}, Up Ha Ga Hb Gb → Ga Dl = none → (∃ o, Ha Dl = some o) → Gb Dl = none := fun {Ha Ga Hb Gb} v n ho => by
      cases e : Gb Dl with
      | none => rfl
      | some o =>
        have := v.f Dl n (by rw [e]; exact fun z => by cases z)
        obtain ⟨o', ho⟩ := ho
        rw [ho] at this
        cases this
    have f2 : ∀ {Hb Gb : Hp}, Up H' G' Hb Gb → Fr G1 Gb H1 := fun {Hb Gb} v a n p => by
      by_cases e : G' a = none
      · exact fresh_back a1 (v.f a e p)
      · exact a4 a n e
    have er0 : ER K G2 (wipe σ vs) (mask vs env) := (er_wipe er vs).mono ((u.g.trans a2).trans u2.g)
    refine gs.er G2 H2 (wipe σ vs) (mask vs env) x _ _ _ (by rw [wipe_length, mask_len]; exact hlen.symm) u2.gh er0 r2 q' fun σ3 env3 hl3 hw3 er3 q3 => ⟨(hw3 vs hj).trans wipe_wipe, ?_⟩
    refine ⟨env3, G2, _, _, er3, u2.gh, q3, fun b H3 e3 q4 => ?_, fun _ _ _ _ _ _ z => z.elim⟩
    have u3 : Up H' G' H3 G2 := u2.trans (Up.grow u2.gh e3)
    cases b with
    | true =>
      refine ⟨env3, G2, _, _, er3, u3.gh, q4, fun y H4 G4 dy u4 ry q5 => ?_, fun _ _ _ _ _ _ z => z.elim⟩
      have u5 : Up H' G' H4 G4 := u3.trans u4
      have g4 : G4 Dl = none := hn u5 a5 ⟨_, a6⟩
      have hacc := a7.length
      refine ⟨xs, u5.h Dl _ a6, by omega, G4, xs ++ [y], acc ++ [dy], (a1.trans u5.h).mut hD, a2.trans u5.g, u5.gh.mut g4, f2 u5, g4, upd_same, (a7.mono u5.g).app (.one ry), ?_, q5⟩
      rw [List.length_append, List.length_singleton]
      omega
    | false => exact ⟨G2, xs, acc, a1.trans u3.h, a2.trans u3.g, u3.gh, f2 u3, hn u3 a5 ⟨_, a6⟩, u3.h Dl _ a6, a7.mono u3.g, by omega, q4⟩
  · have e : i = ds.length := by omega
    subst e
    refine .inl ⟨h1, ?_⟩
    rw [List.drop_length] at q'
    exact k Dl xs H' G' acc ⟨u.h.trans a1, u.g.trans a2, a3, fun a n p => by
      by_cases e : G1 a = none
      · exact fresh_back u.h (a4 a e p)
      · exact u.f a n e⟩ (fresh_back u.h hD) a5 a6 a7 q'
end MP
namespace MP
open PySem PySem.Spec PyProof.Rows L2
open Evl (Ex fresh_back ex_rd ex_l ex_t)

/-! ### the operations on data -/
/-- two rules for one operation -/
theorem op_or {X : Cx} {f : Value → Value → Sem Value} {r1 r2 : R2} (h1 : OpR X f r1) (h2 : OpR X f r2) : OpR X f (fun x y H Q => r1 x y H Q ∨ r2 x y H Q) := fun pins s σ H x y v u Q I rx ry h =>
  h.elim (h1 pins s σ H x y v u Q I rx ry) (h2 pins s σ H x y v u Q I rx ry)
theorem ca_or {X : Cx} {f : Value} {r1 r2 : List V → Hp → VK → Prop} (h1 : CallR X f r1) (h2 : CallR X f r2) : CallR X f (fun x H Q => r1 x H Q ∨ r2 x H Q) := fun pins s σ H x u Q I rx h =>
  h.elim (h1 pins s σ H x u Q I rx) (h2 pins s σ H x u Q I rx)
section
variable {K : PySem.W.Frag} {G H : Hp} {v : V}
theorem R.int_inv {i : Int} (h : R K G v (.int i)) : v = .int i := by cases h; rfl
theorem R.str_inv {i : Str} (h : R K G v (.str i)) : v = .str i := by cases h; rfl
theorem R.bl_inv {i : Bool} (h : R K G v (.bl i)) : v = .bl i := by cases h; rfl
theorem R.non_inv (h : R K G v .non) : v = .non := by cases h; rfl
theorem R.ref_inv {i : Addr} (h : R K G v (.ref i)) : v = .ref i := by cases h; rfl
theorem R.ty_inv {i : String} (h : R K G v (.ty i)) : v = .ty i := by cases h; rfl
theorem R.lst_inv {l : List D} (h : R K G v (.lst l)) : ∃ a xs, v = .ref a ∧ SqL K G a xs ∧ RA K G xs l := by cases h with | lst h r => exact ⟨_, _, rfl, h, r⟩
theorem R.tup_inv {l : List D} (h : R K G v (.tup l)) : ∃ a xs, v = .ref a ∧ SqT K G a xs ∧ RA K G xs l := by cases h with | tup h r => exact ⟨_, _, rfl, h, r⟩
theorem VKt.now {k : D → Prop} {Q : VK} (q : VKt K H G k Q) (e : Ex G H) {d : D} (r : R K G v d) (h : k d) : Q v H := q v H G d (Up.refl e) r h
end

/-- two ints, a condition, a value -/
def fI (C : Int → Int → Prop) (g : Int → Int → D) : F2 := fun x y k => ∃ i j, x = .int i ∧ y = .int j ∧ C i j ∧ k (g i j)
def fI0 (g : Int → Int → D) : F2 := fun x y k => ∃ i j, x = .int i ∧ y = .int j ∧ k (g i j)
theorem od_I {K : PySem.W.Frag} {C : Int → Int → Prop} {g : Int → Int → D} {gv : Int → Int → V} (hg : ∀ i j G, R K G (gv i j) (g i j)) : OpD K (rI C gv) (fI C g) := fun G H x y dx dy k Q e rx ry ⟨i, j, e1, e2, c, h⟩ q => by
  subst e1 e2
  exact ⟨i, j, rx.int_inv, ry.int_inv, c, q.now e (hg i j G) h⟩
theorem od_I0 {K : PySem.W.Frag} {g : Int → Int → D} {gv : Int → Int → V} (hg : ∀ i j G, R K G (gv i j) (g i j)) : OpD K (rI0 gv) (fI0 g) := fun G H x y dx dy k Q e rx ry ⟨i, j, e1, e2, h⟩ q => by
  subst e1 e2
  exact ⟨i, j, rx.int_inv, ry.int_inv, q.now e (hg i j G) h⟩
def fAdd : F2 := fI0 fun i j => .int (i + j)
def fSub : F2 := fI0 fun i j => .int (i - j)
def fMul : F2 := fI CMul fun i j => .int (i * j)
def fMod : F2 := fI (fun _ j => 0 < j) fun i j => .int (i % j)
def fDiv : F2 := fI CDiv fun i j => .int (i / j)
def fPow : F2 := fI CPow fun i j => .int (i ^ j.toNat)
def fShl : F2 := fI CPow fun i j => .int (i * 2 ^ j.toNat)
def fShr : F2 := fI (fun _ j => 0 ≤ j) fun i j => .int (i / 2 ^ j.toNat)
def fAnd : F2 := fI0 fun i j => .int (Builtin.bitAnd i j)
def fOr : F2 := fI0 fun i j => .int (Builtin.bitOr i j)
def fXor : F2 := fI0 fun i j => .int (Builtin.bitXor i j)
def fLt : F2 := fI0 fun i j => .bl (decide (i < j))
def fLe : F2 := fI0 fun i j => .bl (decide (i ≤ j))
def fGt : F2 := fI0 fun i j => .bl (decide (j < i))
def fGe : F2 := fI0 fun i j => .bl (decide (j ≤ i))
def fAddS : F2 := fun x y k => ∃ i j, x = .str i ∧ y = .str j ∧ i.length + j.length ≤ sizeLine ∧ k (.str (i ++ j))
section
variable {X : Cx} {W : WX} {a b : Expr} {pos : Pos} {wa wb : WE}
theorem d_add (ha : PE X a (tD X.K W wa)) (hb : PE X b (tD X.K W wb)) : PE X (.BinOp a .Add b pos) (tD X.K W (wOp fAdd wa wb)) := d_op op_add (od_I0 fun _ _ _ => .int _) ha hb
theorem d_sub (ha : PE X a (tD X.K W wa)) (hb : PE X b (tD X.K W wb)) : PE X (.BinOp a .Sub b pos) (tD X.K W (wOp fSub wa wb)) := d_op op_sub (od_I0 fun _ _ _ => .int _) ha hb
theorem d_mul (ha : PE X a (tD X.K W wa)) (hb : PE X b (tD X.K W wb)) : PE X (.BinOp a .Mult b pos) (tD X.K W (wOp fMul wa wb)) := d_op op_mul (od_I fun _ _ _ => .int _) ha hb
theorem d_mod (ha : PE X a (tD X.K W wa)) (hb : PE X b (tD X.K W wb)) : PE X (.BinOp a .Mod b pos) (tD X.K W (wOp fMod wa wb)) := d_op op_mod (od_I fun _ _ _ => .int _) ha hb
theorem d_div (ha : PE X a (tD X.K W wa)) (hb : PE X b (tD X.K W wb)) : PE X (.BinOp a .FloorDiv b pos) (tD X.K W (wOp fDiv wa wb)) := d_op op_fdiv (od_I fun _ _ _ => .int _) ha hb
theorem d_pow (ha : PE X a (tD X.K W wa)) (hb : PE X b (tD X.K W wb)) : PE X (.BinOp a .Pow b pos) (tD X.K W (wOp fPow wa wb)) := d_op op_pow (od_I fun _ _ _ => .int _) ha hb
theorem d_shl (ha : PE X a (tD X.K W wa)) (hb : PE X b (tD X.K W wb)) : PE X (.BinOp a .LShift b pos) (tD X.K W (wOp fShl wa wb)) := d_op op_shl (od_I fun _ _ _ => .int _) ha hb
theorem d_shr (ha : PE X a (tD X.K W wa)) (hb : PE X b (tD X.K W wb)) : PE X (.BinOp a .RShift b pos) (tD X.K W (wOp fShr wa wb)) := d_op op_shr (od_I fun _ _ _ => .int _) ha hb
theorem d_band (ha : PE X a (tD X.K W wa)) (hb : PE X b (tD X.K W wb)) : PE X (.BinOp a .BitAnd b pos) (tD X.K W (wOp fAnd wa wb)) := d_op op_and (od_I0 fun _ _ _ => .int _) ha hb
theorem d_bor (ha : PE X a (tD X.K W wa)) (hb : PE X b (tD X.K W wb)) : PE X (.BinOp a .BitOr b pos) (tD X.K W (wOp fOr wa wb)) := d_op L2.op_or (od_I0 fun _ _ _ => .int _) ha hb
theorem d_bxor (ha : PE X a (tD X.K W wa)) (hb : PE X b (tD X.K W wb)) : PE X (.BinOp a .BitXor b pos) (tD X.K W (wOp fXor wa wb)) := d_op op_xor (od_I0 fun _ _ _ => .int _) ha hb
theorem od_addS {K : PySem.W.Frag} : OpD K (fun x y H Q => ∃ i j, x = .str i ∧ y = .str j ∧ i.length + j.length ≤ sizeLine ∧ Q (.str (i ++ j)) H) fAddS := fun G H x y dx dy k Q e rx ry ⟨i, j, e1, e2, c, h⟩ q => by
  subst e1 e2
  exact ⟨i, j, rx.str_inv, ry.str_inv, c, q.now e (.str _) h⟩
theorem d_addS (ha : PE X a (tD X.K W wa)) (hb : PE X b (tD X.K W wb)) : PE X (.BinOp a .Add b pos) (tD X.K W (wOp fAddS wa wb)) := d_op op_add_str od_addS ha hb
/-- comparisons of ints: as a value, as a test -/
theorem od_lt {K : PySem.W.Frag} : OpD K (rI0 fun i j => .bl (decide (i < j))) fLt := od_I0 fun _ _ _ => .bl _
theorem od_le {K : PySem.W.Frag} : OpD K (rI0 fun i j => .bl (decide (i ≤ j))) fLe := od_I0 fun _ _ _ => .bl _
theorem od_gt {K : PySem.W.Frag} : OpD K (rI0 fun i j => .bl (decide (j < i))) fGt := od_I0 fun _ _ _ => .bl _
theorem od_ge {K : PySem.W.Frag} : OpD K (rI0 fun i j => .bl (decide (j ≤ i))) fGe := od_I0 fun _ _ _ => .bl _
end

/-! ### data as the library's -/
mutual
def D.py : D → PyData
  | .non => .none | .bl b => .bool b | .int i => .int i | .str x => .str x
  | .ref _ => .dict [] | .ty _ => .dict [] | .dK _ => .dict [] | .dT _ => .dict []
  | .lst l => .list (pyA l) | .tup l => .tuple (pyA l)
def pyA : List D → List PyData
  | [] => []
  | d :: ds => d.py :: pyA ds
end
mutual
def D.pl : D → Bool
  | .non => true | .bl _ => true | .int _ => true | .str _ => true
  | .ref _ => false | .ty _ => false | .dK _ => false | .dT _ => false
  | .lst l => plA l | .tup l => plA l
def plA : List D → Bool
  | [] => true
  | d :: ds => d.pl && plA ds
end
mutual
theorem R.dp {K : PySem.W.Frag} {H : Hp} : ∀ {v : V} {d : D}, R K H v d → d.pl = true → Dp K H v d.py
  | _, _, .non, _ => by rw [D.py]; exact .non
  | _, _, .bl b, _ => by rw [D.py]; exact .bl b
  | _, _, .int i, _ => by rw [D.py]; exact .int i
  | _, _, .str x, _ => by rw [D.py]; exact .str x
  | _, _, .ref a, h => by rw [D.pl] at h; exact nomatch h
  | _, _, .ty n, h => by rw [D.pl] at h; exact nomatch h
  | _, _, .lst h r, p => by rw [D.py]; exact .lst h (RA.dp r (by rw [D.pl] at p; exact p))
  | _, _, .tup h r, p => by rw [D.py]; exact .tup h (RA.dp r (by rw [D.pl] at p; exact p))
  | _, _, .dK h r, h' => by rw [D.pl] at h'; exact nomatch h'
  | _, _, .dT h r, h' => by rw [D.pl] at h'; exact nomatch h'
theorem RA.dp {K : PySem.W.Frag} {H : Hp} : ∀ {vs : List V} {ds : List D}, RA K H vs ds → plA ds = true → DpAll K H vs (pyA ds)
  | _, _, .nil, _ => by rw [pyA]; exact .nil
  | _, _, .cons h r, p => by
    rw [plA, Bool.and_eq_true] at p
    rw [pyA]
    exact .cons (R.dp h p.1) (RA.dp r p.2)
end
/-- == on data -/
def eqD (x y : D) : Bool := PyData.eqv x.py y.py
/-- flat: None, truths, ints, texts -/
def D.flat : D → Bool
  | .non => true | .bl _ => true | .int _ => true | .str _ => true | _ => false
def dV : D → V
  | .non => .non | .bl b => .bl b | .int i => .int i | .str x => .str x | .ref a => .ref a | .ty n => .ty n | _ => .non
theorem R.flat_inv {K : PySem.W.Frag} {G : Hp} {v : V} {d : D} (h : R K G v d) (f : d.flat = true) : v = dV d := by
  cases h <;> first | rfl | exact absurd f Bool.false_ne_true
/-- the plain pairs that == tells apart at once -/
def scalD : D → D → Bool
  | .non, .non => true | .non, .int _ => true | .int _, .non => true | .non, .bl _ => true | .bl _, .non => true | .non, .str _ => true | .str _, .non => true
  | .int _, .int _ => true | .bl _, .bl _ => true | .str _, .str _ => true | .int _, .str _ => true | .str _, .int _ => true | .bl _, .str _ => true | .str _, .bl _ => true
  | _, _ => false
theorem scal_dV {x y : D} (h : scalD x y = true) : scal (dV x) (dV y) = true ∧ x.flat = true ∧ y.flat = true ∧ decide (dV x = dV y) = eqD x y := by
  cases x <;> cases y <;> first
    | exact absurd h Bool.false_ne_true
    | (refine ⟨rfl, rfl, rfl, ?_⟩
       simp only [dV, eqD, D.py, PyData.eqv, decide_eq_true_eq, V.int.injEq, V.str.injEq, V.bl.injEq, reduceCtorEq, decide_false]
       try (first | rfl | exact (Bool.beq_eq_decide_eq _ _).symm | exact (beq_eq_decide _ _).symm))
def fEqN (neg : Bool) : F2 := fun x y k => (scalD x y = true ∧ k (.bl (if neg then !eqD x y else eqD x y))) ∨ (x.pl = true ∧ y.pl = true ∧ SeqAt.shaped x.py = true ∧ SeqAt.shaped y.py = true ∧ k (.bl (if neg then !eqD x y else eqD x y)))
abbrev fEq : F2 := fEqN false
abbrev fNe : F2 := fEqN true
theorem od_eq {K : PySem.W.Frag} : OpD K (fun x y H Q => rEq x y H Q ∨ rEqD K x y H Q) fEq := fun G H x y dx dy k Q e rx ry h q => by
  rcases h with ⟨h1, h⟩ | ⟨h1, h2, h3, h4, h⟩
  · obtain ⟨a, b, c, d⟩ := scal_dV h1
    rw [rx.flat_inv b, ry.flat_inv c]
    refine .inl ⟨a, ?_⟩
    rw [d]
    exact q.now e (.bl _) h
  · exact .inr ⟨_, _, (rx.mono e).dp h1, (ry.mono e).dp h2, h3, h4, q.now e (.bl _) h⟩
theorem od_ne {K : PySem.W.Frag} : OpD K (fun x y H Q => rNe x y H Q ∨ rNeD K x y H Q) fNe := fun G H x y dx dy k Q e rx ry h q => by
  rcases h with ⟨h1, h⟩ | ⟨h1, h2, h3, h4, h⟩
  · obtain ⟨a, b, c, d⟩ := scal_dV h1
    rw [rx.flat_inv b, ry.flat_inv c]
    refine .inl ⟨a, ?_⟩
    rw [d]
    exact q.now e (.bl _) h
  · exact .inr ⟨_, _, (rx.mono e).dp h1, (ry.mono e).dp h2, h3, h4, q.now e (.bl _) h⟩
theorem opr_eq {X : Cx} (hu : X.A.units + 64 < cLine) : OpR X (compareOp .Eq) (fun x y H Q => rEq x y H Q ∨ rEqD X.K x y H Q) := op_or op_eq (op_eqD hu)
theorem opr_ne {X : Cx} (hu : X.A.units + 64 < cLine) : OpR X (compareOp .NotEq) (fun x y H Q => rNe x y H Q ∨ rNeD X.K x y H Q) := op_or op_ne (op_neD hu)
/-- is None -/
def D.isN : D → Bool
  | .non => true | _ => false
def fIsN : F2 := fun x y k => y = .non ∧ k (.bl x.isN)
def fNotN : F2 := fun x y k => y = .non ∧ k (.bl (!x.isN))
theorem non_iff {K : PySem.W.Frag} {G : Hp} {v : V} {d : D} (h : R K G v d) : decide (v = .non) = d.isN := by
  cases h <;> rfl
theorem od_isN {K : PySem.W.Frag} : OpD K (fun x y H Q => y = .non ∧ Q (.bl (decide (x = .non))) H) fIsN := fun G H x y dx dy k Q e rx ry h q => by
  obtain ⟨h1, h⟩ := h
  subst h1
  refine ⟨ry.non_inv, ?_⟩
  rw [non_iff rx]
  exact q.now e (.bl _) h
theorem od_notN {K : PySem.W.Frag} : OpD K (fun x y H Q => y = .non ∧ Q (.bl (!decide (x = .non))) H) fNotN := fun G H x y dx dy k Q e rx ry h q => by
  obtain ⟨h1, h⟩ := h
  subst h1
  refine ⟨ry.non_inv, ?_⟩
  rw [non_iff rx]
  exact q.now e (.bl _) h

/-! in, not in -/
def eqF : D → D → Bool
  | .non, .non => true
  | .bl a, .bl b => a == b
  | .bl a, .int b => (if a then 1 else 0) == b
  | .int a, .bl b => a == (if b then 1 else 0)
  | .int a, .int b => a == b
  | .str a, .str b => a == b
  | _, _ => false
theorem eqF_dV {x y : D} (hx : x.flat = true) (hy : y.flat = true) : eqV (dV x) (dV y) = eqF x y := by
  cases x <;> cases y <;> first | exact absurd hx Bool.false_ne_true | exact absurd hy Bool.false_ne_true | rfl
def inD (x : D) (ds : List D) : Bool := ds.any fun y => eqF y x
def fInN (neg : Bool) : F2 := fun x y k => ((∃ ds, (y = .lst ds ∨ y = .tup ds) ∧ x.flat = true ∧ ds.all D.flat = true ∧ k (.bl (if neg then !inD x ds else inD x ds)))) ∨
  ∃ (c : Nat) (z : Str), x = .str ⟨#[c]⟩ ∧ y = .str z ∧ k (.bl (if neg then !decide (c ∈ z.cps.toList) else decide (c ∈ z.cps.toList)))
abbrev fIn : F2 := fInN false
abbrev fNotIn : F2 := fInN true
theorem ra_flat {K : PySem.W.Frag} {G : Hp} : ∀ {vs : List V} {ds : List D}, RA K G vs ds → ds.all D.flat = true → vs = ds.map dV
  | _, _, .nil, _ => rfl
  | _, _, .cons h r, f => by
    rw [List.all_cons, Bool.and_eq_true] at f
    rw [List.map_cons, h.flat_inv f.1, ra_flat r f.2]
theorem flatV_dV {d : D} (h : d.flat = true) : flatV (dV d) = true := by
  cases d <;> first | rfl | exact absurd h Bool.false_ne_true
theorem inV_dV {x : D} (hx : x.flat = true) : ∀ {ds : List D}, ds.all D.flat = true → inV (dV x) (ds.map dV) = inD x ds ∧ (ds.map dV).all flatV = true
  | [], _ => ⟨rfl, rfl⟩
  | d :: ds, f => by
    rw [List.all_cons, Bool.and_eq_true] at f
    obtain ⟨a, b⟩ := inV_dV hx f.2
    unfold inV inD at a ⊢
    rw [List.map_cons, List.any_cons, List.any_cons, List.all_cons, a, b, eqF_dV f.1 hx, flatV_dV f.1]
    exact ⟨rfl, rfl⟩
theorem od_in {K : PySem.W.Frag} {neg : Bool} : OpD K (fun x y H Q => rIn K neg x y H Q ∨ ∃ (c : Nat) (z : Str), x = .str ⟨#[c]⟩ ∧ y = .str z ∧ Q (.bl (if neg then !decide (c ∈ z.cps.toList) else decide (c ∈ z.cps.toList))) H) (fInN neg) := fun G H x y dx dy k Q e rx ry h q => by
  rcases h with ⟨ds, hy, hx, hf, h⟩ | ⟨c, z, h1, h2, h⟩
  · have hv := rx.flat_inv hx
    obtain ⟨a, b⟩ := inV_dV hx hf
    have hn : (if neg then !inD dx ds else inD dx ds) = (if neg then !inV x (ds.map dV) else inV x (ds.map dV)) := by rw [hv, a]
    rw [hn] at h
    rcases hy with hy | hy
    · subst hy
      obtain ⟨p, xs, e1, hs, ra⟩ := ry.lst_inv
      rw [ra_flat ra hf] at hs
      exact .inl ⟨p, _, e1, .inl (ex_l e hs), by rw [hv]; exact flatV_dV hx, b, q.now e (.bl _) h⟩
    · subst hy
      obtain ⟨p, xs, e1, hs, ra⟩ := ry.tup_inv
      rw [ra_flat ra hf] at hs
      exact .inl ⟨p, _, e1, .inr (ex_t e hs), by rw [hv]; exact flatV_dV hx, b, q.now e (.bl _) h⟩
  · subst h1 h2
    exact .inr ⟨c, z, rx.str_inv, ry.str_inv, q.now e (.bl _) h⟩
theorem opr_in {X : Cx} : OpR X (compareOp .In) (fun x y H Q => rIn X.K false x y H Q ∨ ∃ (c : Nat) (z : Str), x = .str ⟨#[c]⟩ ∧ y = .str z ∧ Q (.bl (if false then !decide (c ∈ z.cps.toList) else decide (c ∈ z.cps.toList))) H) := op_or op_in_seq op_in_sign
theorem opr_notIn {X : Cx} : OpR X (compareOp .NotIn) (fun x y H Q => rIn X.K true x y H Q ∨ ∃ (c : Nat) (z : Str), x = .str ⟨#[c]⟩ ∧ y = .str z ∧ Q (.bl (if true then !decide (c ∈ z.cps.toList) else decide (c ∈ z.cps.toList))) H) := op_or op_notIn_seq op_notIn_sign

/-- a text of the module -/
theorem d_gstr {X : Cx} {W : WX} {x y : Str} {pos : Pos} (h : ∃ t, X.mg x = some (.str y t)) (hg : Gl X x) (hd : (x == ("__debug__" : Str)) = false := by decide) : PE X (.Name x pos) (tD X.K W (wC (.str y))) :=
  let ⟨t, ht⟩ := h
  d_c (pe_glob (v := .str y) hg ht ⟨t, rfl⟩ hd) fun _ => .str y

/-! x[i], slices -/
def fIx : F2 := fun x y k => (∃ ds i d, (x = .lst ds ∨ x = .tup ds) ∧ y = .int i ∧ atI ds i = some d ∧ k d) ∨ ∃ z i c, x = .str z ∧ y = .int i ∧ z.length ≤ sizeLine ∧ atI z.cps.toList i = some c ∧ k (.str ⟨#[c]⟩)
theorem atI_rel {K : PySem.W.Frag} {G : Hp} {xs : List V} {ds : List D} {i : Int} {d : D} (ra : RA K G xs ds) (h : atI ds i = some d) : ∃ v, atI xs i = some v ∧ R K G v d := by
  unfold atI at h ⊢
  rw [← ra.length] at h
  cases e : ixN xs.length i with
  | none => rw [e] at h; cases h
  | some j =>
    rw [e] at h
    exact ra.get' h
theorem od_ix {K : PySem.W.Frag} : OpD K (rIx K) fIx := fun G H x y dx dy k Q e rx ry h q => by
  rcases h with ⟨ds, i, d, hx, hy, ha, h⟩ | ⟨z, i, c, hx, hy, hl, ha, h⟩
  · subst hy
    rcases hx with hx | hx
    · subst hx
      obtain ⟨p, xs, e1, hs, ra⟩ := rx.lst_inv
      obtain ⟨v, hv, r⟩ := atI_rel ra ha
      exact .inl ⟨p, xs, i, v, e1, ry.int_inv, ex_l e hs, hv, q.now e r h⟩
    · subst hx
      obtain ⟨p, xs, e1, hs, ra⟩ := rx.tup_inv
      obtain ⟨v, hv, r⟩ := atI_rel ra ha
      exact .inr (.inl ⟨p, xs, i, v, e1, ry.int_inv, ex_t e hs, hv, q.now e r h⟩)
  · subst hx hy
    exact .inr (.inr ⟨z, i, c, rx.str_inv, ry.int_inv, hl, ha, q.now e (.str _) h⟩)
def wNo : WO := fun _ Q _ => Q none
def wPart (w : WE) : WO := fun env Q Z => w env (fun d => ∃ i, d = .int i ∧ Q (some i)) Z
def cutD (ds : List D) (lo hi : Option Int) : List D := (ds.drop (HT.sIx ds.length 0 lo)).take (HT.sIx ds.length ds.length hi - HT.sIx ds.length 0 lo)
theorem ra_cut {K : PySem.W.Frag} {G : Hp} {xs : List V} {ds : List D} {lo hi : Option Int} (ra : RA K G xs ds) : RA K G (cutV xs lo hi) (cutD ds lo hi) := by
  unfold cutV cutD
  rw [ra.length]
  exact (ra.drop _).take _
def wSlL (we : WE) (wl wh : WO) : WA := fun env Q Z => we env (fun x => wl env (fun l => wh env (fun u => ∃ ds, x = .lst ds ∧ Q (cutD ds l u)) Z) Z) Z
def wSlS (we : WE) (wl wh : WO) : WE := fun env Q Z => we env (fun x => wl env (fun l => wh env (fun u => ∃ z, x = .str z ∧ z.length ≤ sizeLine ∧ Q (.str (cutS z l u))) Z) Z) Z
section
variable {X : Cx} {W : WX} {a b e : Expr} {lo hi : Option Expr} {pos p2 : Pos} {wa wb we : WE} {wl wh : WO}
theorem do_none : PO X none (tDO X.K W wNo) := ⟨fun pins s σ H Q I ⟨env, G, Qd, Z, er, ex, w, k, z⟩ => po_none.run pins s σ H Q I (k none H (Ex.refl H) w)⟩
theorem po_imp {o : Option Expr} {t t' : TO} (h : PO X o t) (k : ∀ σ H Q, t' σ H Q → t σ H Q) : PO X o t' := ⟨fun pins s σ H Q I q => h.run pins s σ H Q I (k σ H Q q)⟩
theorem do_some (h : PE X e (tD X.K W we)) : PO X (some e) (tDO X.K W (wPart we)) := po_imp (po_some h) fun σ H Q ⟨env, G, Qd, Z, er, ex, w, k, z⟩ =>
  ⟨env, G, _, Z, er, ex, w, fun v H1 G1 d u r ⟨i, e1, q⟩ => by
    subst e1
    exact ⟨i, r.int_inv, k _ H1 u.h q⟩, z⟩
theorem l_slice (he : PE X e (tD X.K W we)) (hl : PO X lo (tDO X.K W wl)) (hh : PO X hi (tDO X.K W wh)) : PE X (.Subscript e (.Slice lo hi none p2) pos) (tDL X.K W (wSlL we wl wh)) := pe_imp (pe_slice sl_list he hl hh) fun σ H Q ⟨env, G, Qd, Z, er, ex, w, k, z⟩ =>
  ⟨env, G, _, Z, er, ex, w, fun v H1 G1 d u r w1 => ⟨env, G1, _, Z, er.mono u.g, u.gh, w1, fun l H2 e2 w2 => ⟨env, G1, _, Z, er.mono u.g, u.gh.trans e2, w2, fun m H3 e3 ⟨ds, ed, q⟩ => by
    subst ed
    obtain ⟨p, xs, e1, hs, ra⟩ := r.lst_inv
    have e4 : Ex G1 H3 := (u.gh.trans e2).trans e3
    refine ⟨p, xs, e1, ex_l e4 hs, fun pn hp => k pn _ _ G1 _ ⟨((u.h.trans e2).trans e3).trans (Ex.new hp), u.g, e4.trans (Ex.new hp), u.f⟩ (fresh_back ((u.h.trans e2).trans e3) hp) (fresh_back e4 hp) upd_same (ra_cut ra) q⟩, (z.up u).grow u.gh e2⟩, z.up u⟩, z⟩
theorem d_sliceS (he : PE X e (tD X.K W we)) (hl : PO X lo (tDO X.K W wl)) (hh : PO X hi (tDO X.K W wh)) : PE X (.Subscript e (.Slice lo hi none p2) pos) (tD X.K W (wSlS we wl wh)) := pe_imp (pe_slice sl_str he hl hh) fun σ H Q ⟨env, G, Qd, Z, er, ex, w, k, z⟩ =>
  ⟨env, G, _, Z, er, ex, w, fun v H1 G1 d u r w1 => ⟨env, G1, _, Z, er.mono u.g, u.gh, w1, fun l H2 e2 w2 => ⟨env, G1, _, Z, er.mono u.g, u.gh.trans e2, w2, fun m H3 e3 ⟨x, ed, hz, q⟩ => by
    subst ed
    exact ⟨x, r.str_inv, hz, k _ H3 G1 _ (u.trans ((Up.grow u.gh e2).trans (Up.grow (u.gh.trans e2) e3))) (.str _) q⟩, (z.up u).grow u.gh e2⟩, z.up u⟩, z⟩

/-! calls of built-in functions -/
variable {es : List Expr} {ws : WA} {x : Str} {p : Pos} {id : String}
theorem d_callB {r : List V → Hp → VK → Prop} {f : FA} (hc : CallR X (.builtin id) r) (cd : CaD X.K r f) (hg : Gl X x) (hm : X.mg x = none) (hv : bootBuiltins x = some (.builtin id)) (ha : PA X (e :: es) (tDA X.K W ws)) (hn : x ≠ "__name__" := by decide)
    (hdb : (x == ("__debug__" : Str)) = false := by decide) (he : starEach (e :: es) X.env = (false, eval e X.env) :: starEach es X.env := by rfl) (hpl : (backTo pos (starEach es X.env)).any (·.1) = false := by rfl) :
    PE X (.Call (.Name x p) (e :: es) [] pos) (tD X.K W (wCa f ws)) := pe_imp (pe_callB hc hg hm hv ha hn hdb he hpl) (t_ca cd)
theorem d_callT {r : List V → Hp → VK → Prop} {f : FA} (hc : CallR X (.type id) r) (cd : CaD X.K r f) (hg : Gl X x) (hm : X.mg x = none) (hv : bootBuiltins x = some (.type id)) (ha : PA X (e :: es) (tDA X.K W ws)) (hn : x ≠ "__name__" := by decide)
    (hdb : (x == ("__debug__" : Str)) = false := by decide) (he : starEach (e :: es) X.env = (false, eval e X.env) :: starEach es X.env := by rfl) (hpl : (backTo pos (starEach es X.env)).any (·.1) = false := by rfl) :
    PE X (.Call (.Name x p) (e :: es) [] pos) (tD X.K W (wCa f ws)) := pe_imp (pe_callTy hc hg hm hv ha hn hdb he hpl) (t_ca cd)
theorem l_callB {r : List V → Hp → VK → Prop} {f : List D → (List D → Prop) → Prop} (hc : CallR X (.builtin id) r) (cd : CaL X.K r f) (hg : Gl X x) (hm : X.mg x = none) (hv : bootBuiltins x = some (.builtin id)) (ha : PA X (e :: es) (tDA X.K W ws)) (hn : x ≠ "__name__" := by decide)
    (hdb : (x == ("__debug__" : Str)) = false := by decide) (he : starEach (e :: es) X.env = (false, eval e X.env) :: starEach es X.env := by rfl) (hpl : (backTo pos (starEach es X.env)).any (·.1) = false := by rfl) :
    PE X (.Call (.Name x p) (e :: es) [] pos) (tDL X.K W (wCaL f ws)) := pe_imp (pe_callB hc hg hm hv ha hn hdb he hpl) (t_caL cd)
theorem l_callT {r : List V → Hp → VK → Prop} {f : List D → (List D → Prop) → Prop} (hc : CallR X (.type id) r) (cd : CaL X.K r f) (hg : Gl X x) (hm : X.mg x = none) (hv : bootBuiltins x = some (.type id)) (ha : PA X (e :: es) (tDA X.K W ws)) (hn : x ≠ "__name__" := by decide)
    (hdb : (x == ("__debug__" : Str)) = false := by decide) (he : starEach (e :: es) X.env = (false, eval e X.env) :: starEach es X.env := by rfl) (hpl : (backTo pos (starEach es X.env)).any (·.1) = false := by rfl) :
    PE X (.Call (.Name x p) (e :: es) [] pos) (tDL X.K W (wCaL f ws)) := pe_imp (pe_callTy hc hg hm hv ha hn hdb he hpl) (t_caL cd)
end
end MP
namespace MP
open PySem PySem.Spec PyProof.Rows L2
open Evl (Ex fresh_back ex_rd ex_l ex_t)

section
variable {K : PySem.W.Frag} {G : Hp}
theorem RA.nil_inv {vs : List V} (h : RA K G vs []) : vs = [] := by cases h; rfl
theorem RA.cons_inv {vs : List V} {d : D} {ds : List D} (h : RA K G vs (d :: ds)) : ∃ v r, vs = v :: r ∧ R K G v d ∧ RA K G r ds := by cases h with | cons a b => exact ⟨_, _, rfl, a, b⟩
theorem RA.one_inv {vs : List V} {d : D} (h : RA K G vs [d]) : ∃ v, vs = [v] ∧ R K G v d := by
  obtain ⟨v, r, e, a, b⟩ := h.cons_inv
  exact ⟨v, by rw [e, b.nil_inv], a⟩
theorem RA.two_inv {vs : List V} {d e : D} (h : RA K G vs [d, e]) : ∃ v u, vs = [v, u] ∧ R K G v d ∧ R K G u e := by
  obtain ⟨v, r, e, a, b⟩ := h.cons_inv
  obtain ⟨u, e2, c⟩ := b.one_inv
  exact ⟨v, u, by rw [e, e2], a, c⟩
end

/-! len, abs, min, max, list, tuple, str, int, all, any, sum -/
def fLen : FA := fun xs k => (∃ ds, (xs = [.lst ds] ∨ xs = [.tup ds]) ∧ k (.int ds.length)) ∨ ∃ s : Str, xs = [.str s] ∧ s.length ≤ sizeLine ∧ k (.int s.length)
theorem cd_len {K : PySem.W.Frag} : CaD K (fun xs H Q => ∃ x n, xs = [x] ∧ LenV K x H n ∧ Q (.int n) H) fLen := fun G H vs ds k Q e ra h q => by
  rcases h with ⟨l, hx, h⟩ | ⟨s, hx, hl, h⟩
  · rcases hx with hx | hx
    · subst hx
      obtain ⟨v, e1, r⟩ := ra.one_inv
      obtain ⟨a, xs, e2, hs, rx⟩ := r.lst_inv
      subst e2
      exact ⟨_, xs.length, e1, .inl ⟨xs, ex_l e hs, rfl⟩, q.now e (.int _) (by rw [rx.length]; exact h)⟩
    · subst hx
      obtain ⟨v, e1, r⟩ := ra.one_inv
      obtain ⟨a, xs, e2, hs, rx⟩ := r.tup_inv
      subst e2
      exact ⟨_, xs.length, e1, .inr ⟨xs, ex_t e hs, rfl⟩, q.now e (.int _) (by rw [rx.length]; exact h)⟩
  · subst hx
    obtain ⟨v, e1, r⟩ := ra.one_inv
    rw [r.str_inv] at e1
    exact ⟨_, s.length, e1, ⟨hl, rfl⟩, q.now e (.int _) h⟩
def fAbs : FA := fun xs k => ∃ i, xs = [.int i] ∧ k (.int (if i < 0 then -i else i))
theorem cd_abs {K : PySem.W.Frag} : CaD K (fun xs H Q => ∃ i, xs = [.int i] ∧ Q (.int (if i < 0 then -i else i)) H) fAbs := fun G H vs ds k Q e ra ⟨i, hx, h⟩ q => by
  subst hx
  obtain ⟨v, e1, r⟩ := ra.one_inv
  rw [r.int_inv] at e1
  exact ⟨i, e1, q.now e (.int _) h⟩
def fMin2 : FA := fun xs k => ∃ i j, xs = [.int i, .int j] ∧ k (.int (if j < i then j else i))
def fMax2 : FA := fun xs k => ∃ i j, xs = [.int i, .int j] ∧ k (.int (if j > i then j else i))
theorem cd_two {K : PySem.W.Frag} {g : Int → Int → Int} : CaD K (fun xs H Q => ∃ i j, xs = [.int i, .int j] ∧ Q (.int (g i j)) H) (fun xs k => ∃ i j, xs = [.int i, .int j] ∧ k (.int (g i j))) := fun G H vs ds k Q e ra ⟨i, j, hx, h⟩ q => by
  subst hx
  obtain ⟨v, u, e1, r, r2⟩ := ra.two_inv
  rw [r.int_inv, r2.int_inv] at e1
  exact ⟨i, j, e1, q.now e (.int _) h⟩
theorem cd_min2 {K : PySem.W.Frag} : CaD K (fun xs H Q => ∃ i j, xs = [.int i, .int j] ∧ Q (.int (if j < i then j else i)) H) fMin2 := cd_two
theorem cd_max2 {K : PySem.W.Frag} : CaD K (fun xs H Q => ∃ i j, xs = [.int i, .int j] ∧ Q (.int (if j > i then j else i)) H) fMax2 := cd_two
def fList : List D → (List D → Prop) → Prop := fun xs k => ∃ ds, (xs = [.lst ds] ∨ xs = [.tup ds]) ∧ k ds
theorem LKt.up {K : PySem.W.Frag} {H G H' G' : Hp} {k : List D → Prop} {Q : VK} (u : Up H G H' G') (q : LKt K H G k Q) : LKt K H' G' k Q := fun p ys H3 G3 ds u3 n g e ra h => q p ys H3 G3 ds (u.trans u3) (fresh_back u.h n) g e ra h
theorem LKt.new {K : PySem.W.Frag} {H G : Hp} {k : List D → Prop} {Q : VK} (q : LKt K H G k Q) (e : Ex G H) {xs : List V} {ds : List D} (ra : RA K G xs ds) (h : k ds) {p : Addr} (n : H p = none) : Q (.ref p) (upd H p (.lst xs)) :=
  q p xs _ G ds ⟨Ex.new n, Ex.refl G, e.trans (Ex.new n), fun _ a b => absurd a b⟩ n (fresh_back e n) upd_same ra h
theorem cd_list {K : PySem.W.Frag} : CaL K (fun xs H Q => ∃ p ys, xs = [.ref p] ∧ (SqL K H p ys ∨ SqT K H p ys) ∧ ∀ l, H l = none → Q (.ref l) (upd H l (.lst ys))) fList := fun G H vs ds k Q e ra ⟨l, hx, h⟩ q => by
  rcases hx with hx | hx
  · subst hx
    obtain ⟨v, e1, r⟩ := ra.one_inv
    obtain ⟨a, xs, e2, hs, rx⟩ := r.lst_inv
    rw [e2] at e1
    exact ⟨a, xs, e1, .inl (ex_l e hs), fun p n => q.new e rx h n⟩
  · subst hx
    obtain ⟨v, e1, r⟩ := ra.one_inv
    obtain ⟨a, xs, e2, hs, rx⟩ := r.tup_inv
    rw [e2] at e1
    exact ⟨a, xs, e1, .inr (ex_t e hs), fun p n => q.new e rx h n⟩
def fTuple : FA := fun xs k => ∃ ds, (xs = [.lst ds] ∨ xs = [.tup ds]) ∧ k (.tup ds)
theorem VKt.newT {K : PySem.W.Frag} {H G : Hp} {k : D → Prop} {Q : VK} (q : VKt K H G k Q) (e : Ex G H) {xs : List V} {ds : List D} (ra : RA K G xs ds) (h : k (.tup ds)) {p : Addr} (n : H p = none) : Q (.ref p) (upd H p (.tup xs)) :=
  q _ _ _ _ (Up.new e n) (.tup (SqT.of upd_same) (ra.mono (Ex.new (fresh_back e n)))) h
theorem cd_tuple {K : PySem.W.Frag} : CaD K (fun xs H Q => ∃ p ys, xs = [.ref p] ∧ ((SqL K H p ys ∧ ∀ l, H l = none → Q (.ref l) (upd H l (.tup ys))) ∨ (SqT K H p ys ∧ Q (.ref p) H))) fTuple := fun G H vs ds k Q e ra ⟨l, hx, h⟩ q => by
  rcases hx with hx | hx
  · subst hx
    obtain ⟨v, e1, r⟩ := ra.one_inv
    obtain ⟨a, xs, e2, hs, rx⟩ := r.lst_inv
    rw [e2] at e1
    exact ⟨a, xs, e1, .inl ⟨ex_l e hs, fun p n => q.newT e rx h n⟩⟩
  · subst hx
    obtain ⟨v, e1, r⟩ := ra.one_inv
    obtain ⟨a, xs, e2, hs, rx⟩ := r.tup_inv
    have e3 := e1
    rw [e2] at e3
    refine ⟨a, xs, e3, .inr ⟨ex_t e hs, ?_⟩⟩
    rw [← e2]
    exact q.now e r h
def fStrI : FA := fun xs k => ∃ i, xs = [.int i] ∧ i.natAbs.log2 < 1920 ∧ k (.str (toString i))
theorem cd_strI {K : PySem.W.Frag} : CaD K (fun xs H Q => ∃ i : Int, xs = [.int i] ∧ i.natAbs.log2 < 1920 ∧ Q (.str (toString i)) H) fStrI := fun G H vs ds k Q e ra ⟨i, hx, c, h⟩ q => by
  subst hx
  obtain ⟨v, e1, r⟩ := ra.one_inv
  rw [r.int_inv] at e1
  exact ⟨i, e1, c, q.now e (.str _) h⟩
def fIntS : FA := fun xs k => ∃ (a : Str) (n : Int), xs = [.str a] ∧ PySem.intText? a = some n ∧ a.length ≤ 640 ∧ k (.int n)
theorem cd_intS {K : PySem.W.Frag} : CaD K (fun xs H Q => ∃ (a : Str) (n : Int), xs = [.str a] ∧ PySem.intText? a = some n ∧ a.length ≤ 640 ∧ Q (.int n) H) fIntS := fun G H vs ds k Q e ra ⟨a, n, hx, c, c2, h⟩ q => by
  subst hx
  obtain ⟨v, e1, r⟩ := ra.one_inv
  rw [r.str_inv] at e1
  exact ⟨a, n, e1, c, c2, q.now e (.int _) h⟩
theorem ra_bools {K : PySem.W.Frag} {G : Hp} : ∀ {bs : List Bool} {vs : List V}, RA K G vs (bs.map D.bl) → vs = bs.map V.bl
  | [], _, h => h.nil_inv
  | b :: bs, _, h => by
    obtain ⟨v, r, e, h1, h2⟩ := h.cons_inv
    rw [e, h1.bl_inv, ra_bools h2]
    rfl
theorem ra_ints {K : PySem.W.Frag} {G : Hp} : ∀ {bs : List Int} {vs : List V}, RA K G vs (bs.map D.int) → vs = bs.map V.int
  | [], _, h => h.nil_inv
  | b :: bs, _, h => by
    obtain ⟨v, r, e, h1, h2⟩ := h.cons_inv
    rw [e, h1.int_inv, ra_ints h2]
    rfl
theorem ra_strs {K : PySem.W.Frag} {G : Hp} : ∀ {bs : List Str} {vs : List V}, RA K G vs (bs.map D.str) → vs = bs.map V.str
  | [], _, h => h.nil_inv
  | b :: bs, _, h => by
    obtain ⟨v, r, e, h1, h2⟩ := h.cons_inv
    rw [e, h1.str_inv, ra_strs h2]
    rfl
theorem ints_ra {K : PySem.W.Frag} {G : Hp} : ∀ (bs : List Int), RA K G (bs.map V.int) (bs.map D.int)
  | [] => .nil
  | b :: bs => .cons (.int b) (ints_ra bs)
theorem strs_ra {K : PySem.W.Frag} {G : Hp} : ∀ (bs : List Str), RA K G (bs.map V.str) (bs.map D.str)
  | [] => .nil
  | b :: bs => .cons (.str b) (strs_ra bs)
def fAll : FA := fun xs k => ∃ bs : List Bool, xs = [.lst (bs.map D.bl)] ∧ k (.bl (bs.all id))
def fAny : FA := fun xs k => ∃ bs : List Bool, xs = [.lst (bs.map D.bl)] ∧ k (.bl (bs.any id))
def fSum : FA := fun xs k => ∃ ns : List Int, xs = [.lst (ns.map D.int)] ∧ k (.int ns.sum)
theorem cd_all {K : PySem.W.Frag} : CaD K (rAll K) fAll := fun G H vs ds k Q e ra ⟨bs, hx, h⟩ q => by
  subst hx
  obtain ⟨v, e1, r⟩ := ra.one_inv
  obtain ⟨a, xs, e2, hs, rx⟩ := r.lst_inv
  rw [ra_bools rx] at hs
  exact ⟨a, bs, by rw [e1, e2], ex_l e hs, q.now e (.bl _) h⟩
theorem cd_any {K : PySem.W.Frag} : CaD K (rAny K) fAny := fun G H vs ds k Q e ra ⟨bs, hx, h⟩ q => by
  subst hx
  obtain ⟨v, e1, r⟩ := ra.one_inv
  obtain ⟨a, xs, e2, hs, rx⟩ := r.lst_inv
  rw [ra_bools rx] at hs
  exact ⟨a, bs, by rw [e1, e2], ex_l e hs, q.now e (.bl _) h⟩
theorem cd_sum {K : PySem.W.Frag} : CaD K (rSum K) fSum := fun G H vs ds k Q e ra ⟨bs, hx, h⟩ q => by
  subst hx
  obtain ⟨v, e1, r⟩ := ra.one_inv
  obtain ⟨a, xs, e2, hs, rx⟩ := r.lst_inv
  rw [ra_ints rx] at hs
  exact ⟨a, bs, by rw [e1, e2], ex_l e hs, q.now e (.int _) h⟩

/-! isinstance(x, T), T a built-in class -/
def D.tyn : D → Option String
  | .non => some "NoneType" | .bl _ => some "bool" | .int _ => some "int" | .str _ => some "str" | .lst _ => some "list" | .tup _ => some "tuple"
  | _ => none
theorem tyX_of {K : PySem.W.Frag} {G : Hp} {v : V} {d : D} {n : String} (h : R K G v d) (e : d.tyn = some n) : TyX K G v (.type n) := by
  cases h with
  | non => cases e; exact .base .non
  | bl b => cases e; exact .base (.bl b)
  | int i => cases e; exact .base (.int i)
  | str x => cases e; exact .base (.str x)
  | ref a => cases e
  | ty n => cases e
  | lst h r =>
    cases e
    rcases h with (h | ⟨o, h⟩) | ⟨o, its, n, hk, hc, _⟩
    · exact .base (.lst h)
    · exact .base (.frz h)
    · exact .kList hk hc
  | tup h r =>
    cases e
    rcases h with (h | ⟨o, h⟩) | ⟨o, its, n, hk, hc, _⟩
    · exact .base (.tup h)
    · exact .fTuple h
    · exact .kTuple hk hc
  | dK h r => cases e
  | dT h r => cases e
theorem tyX_mono {K : PySem.W.Frag} {G H : Hp} {v : V} {t : Value} (e : Ex G H) (h : TyX K G v t) : TyX K H v t := by
  cases h with
  | base h => exact .base (by
      cases h with
      | non => exact .non
      | bl x => exact .bl x
      | int x => exact .int x
      | str x => exact .str x
      | flt x => exact .flt x
      | lst q => exact .lst (e _ _ q)
      | frz q => exact .frz (e _ _ q)
      | tup q => exact .tup (e _ _ q)
      | dK q => exact .dK (e _ _ q)
      | dT q => exact .dT (e _ _ q)
      | ins q c a b d f => exact .ins (e _ _ q) c a b d f)
  | byt b => exact .byt b
  | set q => exact .set (e _ _ q)
  | kList a b => exact .kList a b
  | kTuple a b => exact .kTuple a b
  | kDict a b => exact .kDict a b
  | fTuple q => exact .fTuple (e _ _ q)
  | fDict q => exact .fDict (e _ _ q)
def fIsi : FA := fun xs k => ∃ (x : D) (T n : String) (b : Bool), xs = [x, .ty T] ∧ x.tyn = some n ∧ kitB n T = some b ∧ k (.bl b)
theorem cd_isi {K : PySem.W.Frag} : CaD K (rIsi K) fIsi := fun G H vs ds k Q e ra ⟨x, T, n, b, hx, hn, hb, h⟩ q => by
  subst hx
  obtain ⟨v, u, e1, r, r2⟩ := ra.two_inv
  rw [r2.ty_inv] at e1
  exact ⟨v, .ty T, .type n, .type T, b, e1, .ty T, tyX_mono e (tyX_of r hn), kit_ty hb, q.now e (.bl b) h⟩

/-! methods of texts -/
def wM1 (f : Str → D → (D → Prop) → Prop) (wo we : WE) : WE := fun env Q Z => wo env (fun x => ∃ a, x = .str a ∧ we env (fun y => f a y Q) Z) Z
def wM1L (f : Str → D → (List D → Prop) → Prop) (wo we : WE) : WA := fun env Q Z => wo env (fun x => ∃ a, x = .str a ∧ we env (fun y => f a y Q) Z) Z
def SmD (K : PySem.W.Frag) (r : V → List V → Hp → VK → Prop) (f : Str → D → (D → Prop) → Prop) : Prop := ∀ (G H : Hp) (a : Str) (y : V) (dy : D) (k : D → Prop) (Q : VK), Ex G H → R K G y dy → f a dy k → VKt K H G k Q → r (.str a) [y] H Q
def SmL (K : PySem.W.Frag) (r : V → List V → Hp → VK → Prop) (f : Str → D → (List D → Prop) → Prop) : Prop := ∀ (G H : Hp) (a : Str) (y : V) (dy : D) (k : List D → Prop) (Q : VK), Ex G H → R K G y dy → f a dy k → LKt K H G k Q → r (.str a) [y] H Q
section
variable {X : Cx} {W : WX} {o e : Expr} {pos apos : Pos} {wo we : WE} {id : String} {name : Str}
theorem d_m1 {r : V → List V → Hp → VK → Prop} {f : Str → D → (D → Prop) → Prop} {pp : Expr} (h : PE X pp (tM1 r (tD X.K W wo) (tD X.K W we))) (sd : SmD X.K r f) : PE X pp (tD X.K W (wM1 f wo we)) := pe_imp h fun σ H Q ⟨env, G, Qd, Z, er, ex, w, k, z⟩ =>
  ⟨env, G, _, Z, er, ex, w, fun v H1 G1 d u rv ⟨a, e1, q⟩ => by
    subst e1
    refine ⟨⟨a, rv.str_inv⟩, env, G1, _, Z, er.mono u.g, u.gh, q, fun y H2 G2 dy u2 ry q2 => ?_, z.up u⟩
    rw [rv.str_inv]
    exact sd G2 H2 a y dy _ Q u2.gh ry q2 (k.up (u.trans u2)), z⟩
theorem l_m1 {r : V → List V → Hp → VK → Prop} {f : Str → D → (List D → Prop) → Prop} {pp : Expr} (h : PE X pp (tM1 r (tD X.K W wo) (tD X.K W we))) (sd : SmL X.K r f) : PE X pp (tDL X.K W (wM1L f wo we)) := pe_imp h fun σ H Q ⟨env, G, Qd, Z, er, ex, w, k, z⟩ =>
  ⟨env, G, _, Z, er, ex, w, fun v H1 G1 d u rv ⟨a, e1, q⟩ => by
    subst e1
    refine ⟨⟨a, rv.str_inv⟩, env, G1, _, Z, er.mono u.g, u.gh, q, fun y H2 G2 dy u2 ry q2 => ?_, z.up u⟩
    rw [rv.str_inv]
    exact sd G2 H2 a y dy _ Q u2.gh ry q2 (k.up (u.trans u2)), z⟩
end
def fSplit : Str → D → (List D → Prop) → Prop := fun a y k => ∃ b, y = .str b ∧ (b.length == 0) = false ∧ a.length + 2 ≤ sizeLine ∧ k ((Txt.split a b).map D.str)
theorem sm_split {K : PySem.W.Frag} : SmL K (fun x xs H Q => ∃ a b, x = .str a ∧ xs = [.str b] ∧ (b.length == 0) = false ∧ a.length + 2 ≤ sizeLine ∧ rNewStrs (Txt.split a b) H Q) fSplit := fun G H a y dy k Q e ry ⟨b, h1, h2, h3, h⟩ q => by
  subst h1
  exact ⟨a, b, rfl, by rw [ry.str_inv], h2, h3, fun p n => q.new e (strs_ra _) h n⟩
def fPartition : Str → D → (D → Prop) → Prop := fun a y k => ∃ b, y = .str b ∧ (b.length == 0) = false ∧ a.length ≤ sizeLine ∧ k (.tup [.str (Txt.partition a b).1, .str (Txt.partition a b).2.1, .str (Txt.partition a b).2.2])
theorem sm_partition {K : PySem.W.Frag} : SmD K (fun x xs H Q => ∃ a b, x = .str a ∧ xs = [.str b] ∧ (b.length == 0) = false ∧ a.length ≤ sizeLine ∧
    ∀ p, H p = none → Q (.ref p) (upd H p (.tup [.str (Txt.partition a b).1, .str (Txt.partition a b).2.1, .str (Txt.partition a b).2.2]))) fPartition := fun G H a y dy k Q e ry ⟨b, h1, h2, h3, h⟩ q => by
  subst h1
  exact ⟨a, b, rfl, by rw [ry.str_inv], h2, h3, fun p n => q.newT e (.cons (.str _) (.cons (.str _) (.cons (.str _) .nil))) h n⟩
def fJoin : Str → D → (D → Prop) → Prop := fun a y k => ∃ ys : List Str, (y = .lst (ys.map D.str) ∨ y = .tup (ys.map D.str)) ∧ (ys.map (·.length)).sum + ys.length * a.length ≤ 16777216 ∧ k (.str (Txt.join a ys))
theorem sm_join {K : PySem.W.Frag} : SmD K (fun x xs H Q => ∃ a p, ∃ ys : List Str, x = .str a ∧ xs = [.ref p] ∧ (SqL K H p (ys.map V.str) ∨ SqT K H p (ys.map V.str)) ∧
    (ys.map (·.length)).sum + ys.length * a.length ≤ 16777216 ∧ Q (.str (Txt.join a ys)) H) fJoin := fun G H a y dy k Q e ry ⟨ys, h1, h2, h⟩ q => by
  rcases h1 with h1 | h1
  · subst h1
    obtain ⟨p, xs, e1, hs, ra⟩ := ry.lst_inv
    rw [ra_strs ra] at hs
    exact ⟨a, p, ys, rfl, by rw [e1], .inl (ex_l e hs), h2, q.now e (.str _) h⟩
  · subst h1
    obtain ⟨p, xs, e1, hs, ra⟩ := ry.tup_inv
    rw [ra_strs ra] at hs
    exact ⟨a, p, ys, rfl, by rw [e1], .inr (ex_t e hs), h2, q.now e (.str _) h⟩
def fS2 (g : Str → Str → D) : Str → D → (D → Prop) → Prop := fun a y k => ∃ b, y = .str b ∧ k (g a b)
theorem sm_two {K : PySem.W.Frag} {g : Str → Str → D} {gv : Str → Str → V} (hg : ∀ a b G, R K G (gv a b) (g a b)) : SmD K (fun x xs H Q => ∃ a b, x = .str a ∧ xs = [.str b] ∧ Q (gv a b) H) (fS2 g) := fun G H a y dy k Q e ry ⟨b, h1, h⟩ q => by
  subst h1
  exact ⟨a, b, rfl, by rw [ry.str_inv], q.now e (hg a b G) h⟩
abbrev fFind := fS2 fun a b => .int (Txt.find a b)
abbrev fCount := fS2 fun a b => .int (Txt.count a b)
abbrev fStarts := fS2 fun a b => .bl (Txt.startswith a b)
theorem sm_find {K : PySem.W.Frag} : SmD K (fun x xs H Q => ∃ a b, x = .str a ∧ xs = [.str b] ∧ Q (.int (Txt.find a b)) H) fFind := sm_two fun _ _ _ => .int _
theorem sm_count {K : PySem.W.Frag} : SmD K (fun x xs H Q => ∃ a b, x = .str a ∧ xs = [.str b] ∧ Q (.int (Txt.count a b)) H) fCount := sm_two fun _ _ _ => .int _
theorem sm_starts {K : PySem.W.Frag} : SmD K (fun x xs H Q => ∃ a b, x = .str a ∧ xs = [.str b] ∧ Q (.bl (Txt.startswith a b)) H) fStarts := sm_two fun _ _ _ => .bl _

/-! lists: +, and a comprehension in its forms -/
def fCat : D → D → (List D → Prop) → Prop := fun x y k => ∃ a b, x = .lst a ∧ y = .lst b ∧ a.length + b.length ≤ sizeLine ∧ k (a ++ b)
/-- xs + ys, whatever the two stand in -/
def rCatA (K : PySem.W.Frag) : R2 := fun x y H Q => ∃ l b xs zs, x = .ref l ∧ y = .ref b ∧ SqL K H l xs ∧ SqL K H b zs ∧ xs.length + zs.length ≤ sizeLine ∧ ∀ p, H p = none → Q (.ref p) (upd H p (.lst (xs ++ zs)))
theorem lnew {X : Cx} {pins : List (Addr × Obj)} {σ : L2.St} {H : Hp} {s : Shared} {its : List Value} {xs : List V} {tk : Nat} (I : Inv X pins σ H s) (r : Vals xs its) (hz : xs.length ≤ sizeLine) : Inv X pins σ (upd H s.heap.objs.size (.lst xs)) { s with heap := s.heap.push { cls := .type "list", data := .seq its.toArray }, toks := tk } :=
  I.laid (fun b o e => Heap.get?_push_of_some _ e) (Nat.le_refl _) ⟨hz, its, 0, r, Heap.get?_push_size _ rfl⟩
theorem op_catA {X : Cx} : OpR X (binaryOp .Add) (rCatA X.K) := fun pins s σ H x y v u Q I rx ry ⟨l, b, xs, zs, e1, e2, h1, h2, hz, q⟩ => by
  subst e1 e2
  cases (show v = Value.ref l from rx)
  cases (show u = Value.ref b from ry)
  obtain ⟨i1, r1, ⟨o1, n1, g1, c1, _, f1⟩, _⟩ := I.list h1
  obtain ⟨i2, r2, ⟨o2, n2, g2, c2, _, f2⟩, _⟩ := I.list h2
  have k1 := r1.length
  have k2 := r2.length
  cases o1
  cases o2
  cases c1; cases f1; cases c2; cases f2
  refine PySem.concat_meets ⟨_, g1, rfl⟩ ⟨_, g2, rfl⟩ noFill_list_add seq_list_add PySem.F.slot_list_add PySem.F.entry_list_add (PySem.F.args_list_add_2 _ _)
    (list_addW l b i1.toArray i2.toArray n1 n2 _ _ _ _ (by simp only [List.size_toArray]; omega)) ⟨g1, g2, ?_⟩
  rw [show i1.toArray ++ i2.toArray = (i1 ++ i2).toArray from by simp]
  exact ⟨.ref s.heap.objs.size, _, lnew (tk := s.toks) I (r1.append r2) (by simpa using hz), rfl, q _ (I.hok.fresh (Nat.le_refl _))⟩
theorem ol_cat {K : PySem.W.Frag} : OpL K (rCatA K) fCat := fun G H x y dx dy k Q e rx ry ⟨a, b, h1, h2, hz, h⟩ q => by
  subst h1 h2
  obtain ⟨p, xs, e1, hs, ra⟩ := rx.lst_inv
  obtain ⟨p2, ys, e2, hs2, ra2⟩ := ry.lst_inv
  exact ⟨p, p2, xs, ys, e1, e2, ex_l e hs, ex_l e hs2, by rw [ra.length, ra2.length]; exact hz, fun n hn => q.new e (ra.app ra2) h hn⟩
section
variable {X : Cx} {W : WX} {a b : Expr} {pos : Pos} {wa wb : WE}
theorem l_cat (ha : PE X a (tD X.K W wa)) (hb : PE X b (tD X.K W wb)) : PE X (.BinOp a .Add b pos) (tDL X.K W (wOpL fCat wa wb)) := l_op op_catA ol_cat ha hb
end

/-! [elt for target in iter if ..] -/
section
variable {X : Cx} {W : WX} {elt tg iter : Expr} {ifs : List Expr} {scope : Scope} {own : List (Str × Nat)} {pos : Pos} {wi : WA} {sc : Bool} {t : TG} {g : WG} {js : List Nat} {wt : WT} {we : WE} {n : Nat}
theorem pe_lc_len {e : Expr} {t' : TE} {w : WA} (hn : X.N.length = n) (h : PE X e t') (k : ∀ σ H Q, σ.length = n → tDL X.K W w σ H Q → t' σ H Q) : PE X e (tDL X.K W w) := ⟨fun pins s σ H Q I q => h.run pins s σ H Q I (k σ H Q (I.len.trans hn) q)⟩
theorem l_lc (hn : X.N.length = n) (hc : X.calm = true) (hN : X.N.Nodup) (hi : PI X tg iter (tDI X.K W sc wi)) (ok : BlkOk X.N X.env.scope scope own)
    (hg : ∀ (s : Shared) (H : Hp) (C : Addr) (cl : List (Str × Addr)) (fp : List Addr), PG (X.blk s H scope (compEnvC scope cl C X.env) fp) tg t) (gs : GS X.K js t g) (hj : ∀ j ∈ js, j ∈ own.map (·.2))
    (ht : ∀ (s : Shared) (H : Hp) (C : Addr) (cl : List (Str × Addr)) (fp : List Addr), PTs (X.blk s H scope (compEnvC scope cl C X.env) fp) ifs (tDT X.K W0 wt))
    (he : ∀ (s : Shared) (H : Hp) (C : Addr) (cl : List (Str × Addr)) (fp : List Addr), PE (X.blk s H scope (compEnvC scope cl C X.env) fp) elt (tD X.K W0 we)) (hs : ∀ x, foldedSetIterable iter X.env x = pure x := by intro _; rfl) :
    PE X (.ListComp elt [⟨tg, iter, ifs, 0⟩] scope pos) (tDL X.K W (wLen n (wLc wi g wt we (own.map (·.2))))) :=
  pe_lc_len hn (pe_lc hc hN hi ok hg ht he hs) fun σ H Q hl q => by
    subst hl
    exact t_lc gs hj σ H Q q
theorem dts_nil : PTs X [] (tDT X.K W wYes) := ⟨fun pins s σ H Q I q => by
  obtain ⟨env, G, Qd, Z, er, ex, w, k, z⟩ := q
  exact pts_nil.run pins s σ H Q I (k true H (Ex.refl H) w)⟩
theorem dts_one {c : Expr} {w : WT} (h : PT X c (tDT X.K W w)) : PTs X [c] (tDT X.K W w) := pts_one h
/-- y = [..] on one line -/
theorem ds_setLc {i : Nat} {y : Str} {py spos : Pos} (ks : List Nat) (hn : X.N.length = n) (hc : X.calm = true) (hN : X.N.Nodup) (hy : X.N[i]? = some y) (hyl : X.env.scope.names.lookup y = some .local)
    (hsw : swapsWith (.ListComp elt [⟨tg, iter, ifs, 0⟩] scope pos) (some (.Name y py)) spos.line X.env = pure true) (hi : PI X tg iter (tDI X.K W sc wi)) (ok : BlkOk X.N X.env.scope scope own)
    (hg : ∀ (s : Shared) (H : Hp) (C : Addr) (cl : List (Str × Addr)) (fp : List Addr), PG (X.blk s H scope (compEnvC scope cl C X.env) fp) tg t) (gs : GS X.K js t g) (hj : ∀ j ∈ js, j ∈ own.map (·.2))
    (ht : ∀ (s : Shared) (H : Hp) (C : Addr) (cl : List (Str × Addr)) (fp : List Addr), PTs (X.blk s H scope (compEnvC scope cl C X.env) fp) ifs (tDT X.K W0 wt))
    (he : ∀ (s : Shared) (H : Hp) (C : Addr) (cl : List (Str × Addr)) (fp : List Addr), PE (X.blk s H scope (compEnvC scope cl C X.env) fp) elt (tD X.K W0 we)) (hs : ∀ x, foldedSetIterable iter X.env x = pure x := by intro _; rfl) :
    PS X (.Assign [.Name y py] (.ListComp elt [⟨tg, iter, ifs, 0⟩] scope pos) spos) (tDS X.K W (wAsgL ks i (wLen n (wLc wi g wt we (own.map (·.2)))))) :=
  ps_imp (ps_setLc hc hN hy hyl hsw hi ok hg ht he hs) fun Dh σ H ⟨env, F, H0, G0, De, S, w, L⟩ => by
    refine t_lc gs hj σ H _ ?_
    have hl : σ.length = env.length := S.len
    have w2 : wEvL ks (wLen σ.length (wLc wi g wt we (own.map (·.2)))) De env fun ds env1 => De.nx (env1.set i (some (.ol ds))) := ⟨by rw [mask_len]; exact hl.symm, w.2⟩
    exact evL_of L S w2 fun p xs H' F' ds S' h0 hn hF ho ra k => L.nx _ _ _ _ (put_new (H := H) (env := env) S' rfl h0 hF ho (.ol ra) (old_ne S hn)) k
end
end MP
namespace MP
open PySem PySem.Spec PyProof.Rows L2
open Evl (Ex fresh_back ex_rd ex_l ex_t)
/-- a def of the text that keeps a promise on data -/
structure Def (P : Program) (w : World) (K : PySem.W.Frag) (mg : Str → Option Value) (base : Heap) (k : Nat) (x : Str) (ps : List Str) (sp : SpD) : Prop where
  ex : ∃ (f : Addr) (fd : FuncData), mg x = some (.ref f) ∧ PySem.W.keepIn K (.ref f) = true ∧ Binds K fd ps [] ∧ FnOk P w K mg base (L2.CX P w) k f fd ps (liftSp K sp)
section
variable {X : Cx} {W : WX} {k : Nat} {ps : List Str} {sp : SpD} {x : Str} {p pos : Pos} {e : Expr} {es : List Expr} {ws : WA}
theorem d_cal (D : Def X.prog X.w X.K X.mg X.base k x ps sp) (hr : Room k X.A) (hg : Gl X x) (tk : Takes X W)
    (ha : PA X (e :: es) (tDA X.K W ws)) (hdb : (x == ("__debug__" : Str)) = false := by decide) (he : starEach (e :: es) X.env = (false, eval e X.env) :: starEach es X.env := by rfl) (hpl : (backTo pos (starEach es X.env)).any (·.1) = false := by rfl) :
    PE X (.Call (.Name x p) (e :: es) [] pos) (tD X.K W (wCall sp ws)) :=
  let ⟨_, _, hm, hk, hb, F⟩ := D.ex
  d_call F hr hg hm hk hb tk ha hdb he hpl
end
end MP
namespace MP
open PySem PySem.Spec PyProof.Rows L2
open Evl (Ex fresh_back ex_rd ex_l ex_t)
/-! ### the readings, evaluated -/
section
variable {env : Env} {Q : D → Prop} {Z : XP} {k : D → Prop} {De : EndsD}
@[simp high] theorem ex_bl {p : Bool → Prop} {x : Bool} : (∃ b, D.bl x = .bl b ∧ p b) = p x := propext ⟨fun ⟨_, e, h⟩ => by cases e; exact h, fun h => ⟨x, rfl, h⟩⟩
@[simp] theorem fI_ii {C : Int → Int → Prop} {g : Int → Int → D} {i j : Int} : fI C g (.int i) (.int j) k = (C i j ∧ k (g i j)) := by simp [fI]
@[simp] theorem fI0_ii {g : Int → Int → D} {i j : Int} : fI0 g (.int i) (.int j) k = k (g i j) := by simp [fI0]
@[simp] theorem fAdd_ii {i j : Int} : fAdd (.int i) (.int j) k = k (.int (i + j)) := fI0_ii
@[simp] theorem fSub_ii {i j : Int} : fSub (.int i) (.int j) k = k (.int (i - j)) := fI0_ii
@[simp] theorem fAnd_ii {i j : Int} : fAnd (.int i) (.int j) k = k (.int (Builtin.bitAnd i j)) := fI0_ii
@[simp] theorem fOr_ii {i j : Int} : fOr (.int i) (.int j) k = k (.int (Builtin.bitOr i j)) := fI0_ii
@[simp] theorem fXor_ii {i j : Int} : fXor (.int i) (.int j) k = k (.int (Builtin.bitXor i j)) := fI0_ii
@[simp] theorem fLt_ii {i j : Int} : fLt (.int i) (.int j) k = k (.bl (decide (i < j))) := fI0_ii
@[simp] theorem fLe_ii {i j : Int} : fLe (.int i) (.int j) k = k (.bl (decide (i ≤ j))) := fI0_ii
@[simp] theorem fGt_ii {i j : Int} : fGt (.int i) (.int j) k = k (.bl (decide (j < i))) := fI0_ii
@[simp] theorem fGe_ii {i j : Int} : fGe (.int i) (.int j) k = k (.bl (decide (j ≤ i))) := fI0_ii
@[simp] theorem fMul_ii {i j : Int} : fMul (.int i) (.int j) k = (CMul i j ∧ k (.int (i * j))) := fI_ii
@[simp] theorem fMod_ii {i j : Int} : fMod (.int i) (.int j) k = (0 < j ∧ k (.int (i % j))) := fI_ii
@[simp] theorem fDiv_ii {i j : Int} : fDiv (.int i) (.int j) k = (CDiv i j ∧ k (.int (i / j))) := fI_ii
@[simp] theorem fPow_ii {i j : Int} : fPow (.int i) (.int j) k = (CPow i j ∧ k (.int (i ^ j.toNat))) := fI_ii
@[simp] theorem fShl_ii {i j : Int} : fShl (.int i) (.int j) k = (CPow i j ∧ k (.int (i * 2 ^ j.toNat))) := fI_ii
@[simp] theorem fShr_ii {i j : Int} : fShr (.int i) (.int j) k = (0 ≤ j ∧ k (.int (i / 2 ^ j.toNat))) := fI_ii
@[simp] theorem fAddS_ss {a b : Str} : fAddS (.str a) (.str b) k = (a.length + b.length ≤ sizeLine ∧ k (.str (a ++ b))) := by simp [fAddS]
@[simp] theorem fEqN_ii {n : Bool} {i j : Int} : fEqN n (.int i) (.int j) k = k (.bl (if n then !(i == j) else i == j)) := by
  simp only [fEqN, scalD, eqD, D.py, PyData.eqv, true_and, eq_iff_iff]
  exact ⟨fun h => h.elim id fun h => h.2.2.2.2, .inl⟩
@[simp] theorem fEqN_ss {n : Bool} {i j : Str} : fEqN n (.str i) (.str j) k = k (.bl (if n then !(i == j) else i == j)) := by
  simp only [fEqN, scalD, eqD, D.py, PyData.eqv, true_and, eq_iff_iff]
  exact ⟨fun h => h.elim id fun h => h.2.2.2.2, .inl⟩
@[simp] theorem fEqN_bb {n : Bool} {i j : Bool} : fEqN n (.bl i) (.bl j) k = k (.bl (if n then !(i == j) else i == j)) := by
  simp only [fEqN, scalD, eqD, D.py, PyData.eqv, true_and, eq_iff_iff]
  exact ⟨fun h => h.elim id fun h => h.2.2.2.2, .inl⟩
@[simp] theorem fEqN_nn {n : Bool} : fEqN n .non .non k = k (.bl (if n then false else true)) := by
  simp only [fEqN, scalD, eqD, D.py, PyData.eqv, true_and, eq_iff_iff, Bool.not_true]
  exact ⟨fun h => h.elim id fun h => h.2.2.2.2, .inl⟩
@[simp] theorem fEqN_ni {n : Bool} {i : Int} : fEqN n .non (.int i) k = k (.bl (if n then true else false)) := by
  simp only [fEqN, scalD, eqD, D.py, PyData.eqv, true_and, eq_iff_iff, Bool.not_false]
  exact ⟨fun h => h.elim id fun h => h.2.2.2.2, .inl⟩
@[simp] theorem fEqN_in {n : Bool} {i : Int} : fEqN n (.int i) .non k = k (.bl (if n then true else false)) := by
  simp only [fEqN, scalD, eqD, D.py, PyData.eqv, true_and, eq_iff_iff, Bool.not_false]
  exact ⟨fun h => h.elim id fun h => h.2.2.2.2, .inl⟩
@[simp] theorem fIsN_n {x : D} : fIsN x .non k = k (.bl x.isN) := by simp [fIsN]
@[simp] theorem fNotN_n {x : D} : fNotN x .non k = k (.bl (!x.isN)) := by simp [fNotN]
@[simp] theorem isN_n : D.isN .non = true := rfl
@[simp] theorem isN_i {i : Int} : D.isN (.int i) = false := rfl
@[simp] theorem isN_s {i : Str} : D.isN (.str i) = false := rfl
@[simp] theorem isN_l {i : List D} : D.isN (.lst i) = false := rfl
@[simp] theorem isN_t {i : List D} : D.isN (.tup i) = false := rfl
@[simp] theorem scal_n : D.scal .non = true := rfl
@[simp] theorem scal_i {i : Int} : D.scal (.int i) = true := rfl
@[simp] theorem scal_b {i : Bool} : D.scal (.bl i) = true := rfl
@[simp] theorem scal_s {i : Str} : D.scal (.str i) = true := rfl
@[simp] theorem scal_r {i : Addr} : D.scal (.ref i) = true := rfl
@[simp] theorem scal_l {i : List D} : D.scal (.lst i) = false := rfl
@[simp] theorem scal_t {i : List D} : D.scal (.tup i) = false := rfl
@[simp] theorem fLen_l {ds : List D} : fLen [.lst ds] k = k (.int ds.length) := by simp [fLen]
@[simp] theorem fLen_t {ds : List D} : fLen [.tup ds] k = k (.int ds.length) := by simp [fLen]
@[simp] theorem fLen_s {s : Str} : fLen [.str s] k = (s.length ≤ sizeLine ∧ k (.int s.length)) := by simp [fLen]
@[simp] theorem fAbs_i {i : Int} : fAbs [.int i] k = k (.int (if i < 0 then -i else i)) := by simp [fAbs]
@[simp] theorem fMin2_i {i j : Int} : fMin2 [.int i, .int j] k = k (.int (if j < i then j else i)) := propext ⟨fun ⟨_, _, h1, h⟩ => by cases h1; exact h, fun h => ⟨i, j, rfl, h⟩⟩
@[simp] theorem fMax2_i {i j : Int} : fMax2 [.int i, .int j] k = k (.int (if j > i then j else i)) := propext ⟨fun ⟨_, _, h1, h⟩ => by cases h1; exact h, fun h => ⟨i, j, rfl, h⟩⟩
@[simp] theorem fList_l {ds : List D} {k : List D → Prop} : fList [.lst ds] k = k ds := by simp [fList]
@[simp] theorem fList_t {ds : List D} {k : List D → Prop} : fList [.tup ds] k = k ds := by simp [fList]
@[simp] theorem fTuple_l {ds : List D} : fTuple [.lst ds] k = k (.tup ds) := by simp [fTuple]
@[simp] theorem fTuple_t {ds : List D} : fTuple [.tup ds] k = k (.tup ds) := by simp [fTuple]
@[simp] theorem fStrI_i {i : Int} : fStrI [.int i] k = (i.natAbs.log2 < 1920 ∧ k (.str (toString i))) := by simp [fStrI]
@[simp] theorem fCat_ll {a b : List D} {k : List D → Prop} : fCat (.lst a) (.lst b) k = (a.length + b.length ≤ sizeLine ∧ k (a ++ b)) := by simp [fCat]
@[simp] theorem fIx_l {ds : List D} {i : Int} : fIx (.lst ds) (.int i) k = ∃ d, atI ds i = some d ∧ k d := by simp [fIx]
@[simp] theorem fIx_t {ds : List D} {i : Int} : fIx (.tup ds) (.int i) k = ∃ d, atI ds i = some d ∧ k d := by simp [fIx]
@[simp] theorem fIx_s {z : Str} {i : Int} : fIx (.str z) (.int i) k = (z.length ≤ sizeLine ∧ ∃ c, atI z.cps.toList i = some c ∧ k (.str ⟨#[c]⟩)) := by simp [fIx]
theorem fInN_s {n : Bool} {c : Nat} {z : Str} : fInN n (.str ⟨#[c]⟩) (.str z) k = k (.bl (if n then !decide (c ∈ z.cps.toList) else decide (c ∈ z.cps.toList))) := by
  simp only [fInN, reduceCtorEq, or_self, false_and, exists_false, false_or, D.str.injEq, eq_iff_iff]
  refine ⟨fun ⟨c', z', h1, h2, h⟩ => ?_, fun h => ⟨c, z, rfl, rfl, h⟩⟩
  subst h2
  have : c = c' := by simpa using h1
  subst this
  exact h
@[simp] theorem fInN_l {n : Bool} {x : D} {ds : List D} : fInN n x (.lst ds) k = (x.flat = true ∧ ds.all D.flat = true ∧ k (.bl (if n then !inD x ds else inD x ds))) := by simp [fInN]
@[simp] theorem fInN_t {n : Bool} {x : D} {ds : List D} : fInN n x (.tup ds) k = (x.flat = true ∧ ds.all D.flat = true ∧ k (.bl (if n then !inD x ds else inD x ds))) := by simp [fInN]
theorem map_inj {α β : Type} {f : α → β} (hf : ∀ a b, f a = f b → a = b) : ∀ {xs ys : List α}, xs.map f = ys.map f → xs = ys
  | [], [], _ => rfl
  | [], _ :: _, h => by simp at h
  | _ :: _, [], h => by simp at h
  | x :: xs, y :: ys, h => by
    rw [List.map_cons, List.map_cons, List.cons.injEq] at h
    rw [hf _ _ h.1, map_inj hf h.2]
theorem fAll_l {bs : List Bool} {k : D → Prop} : fAll [.lst (bs.map D.bl)] k ↔ k (.bl (bs.all id)) := by
  constructor
  · rintro ⟨cs, h1, h⟩
    have e : bs = cs := by
      have h2 : bs.map D.bl = cs.map D.bl := by simpa using h1
      exact map_inj (fun a b h => by cases h; rfl) h2
    rw [e]
    exact h
  · exact fun h => ⟨bs, rfl, h⟩
@[simp] theorem fSplit_s {a b : Str} {k : List D → Prop} : fSplit a (.str b) k = ((b.length == 0) = false ∧ a.length + 2 ≤ sizeLine ∧ k ((Txt.split a b).map D.str)) := by simp [fSplit]
@[simp] theorem fPartition_s {a b : Str} : fPartition a (.str b) k = ((b.length == 0) = false ∧ a.length ≤ sizeLine ∧ k (.tup [.str (Txt.partition a b).1, .str (Txt.partition a b).2.1, .str (Txt.partition a b).2.2])) := by simp [fPartition]
@[simp] theorem fS2_s {g : Str → Str → D} {a b : Str} : fS2 g a (.str b) k = k (g a b) := by simp [fS2]
theorem fIsi_ty {x : D} {T : String} : fIsi [x, .ty T] k = ∃ n b, x.tyn = some n ∧ kitB n T = some b ∧ k (.bl b) := by
  simp only [fIsi, List.cons.injEq, D.ty.injEq, and_true, eq_iff_iff]
  exact ⟨fun ⟨x', T', n, b, ⟨h1, h2⟩, h3, h4, h5⟩ => by subst h1 h2; exact ⟨n, b, h3, h4, h5⟩, fun ⟨n, b, h3, h4, h5⟩ => ⟨x, T, n, b, ⟨rfl, rfl⟩, h3, h4, h5⟩⟩
end
/-- isinstance of the built-in classes, as asked here -/
def isiB (x : D) (T : String) : Bool := match x, T with
  | .int _, "int" => true | .bl _, "int" => true | .bl _, "bool" => true | .str _, "str" => true | .lst _, "list" => true | .tup _, "tuple" => true
  | _, _ => false
theorem kit_int : kitB "int" "int" = some true ∧ kitB "int" "bool" = some false ∧ kitB "int" "list" = some false ∧ kitB "int" "tuple" = some false ∧ kitB "int" "str" = some false := by decide +kernel
theorem kit_bool : kitB "bool" "int" = some true ∧ kitB "bool" "bool" = some true ∧ kitB "bool" "list" = some false ∧ kitB "bool" "tuple" = some false ∧ kitB "bool" "str" = some false := by decide +kernel
theorem kit_none : kitB "NoneType" "int" = some false ∧ kitB "NoneType" "bool" = some false ∧ kitB "NoneType" "list" = some false ∧ kitB "NoneType" "tuple" = some false ∧ kitB "NoneType" "str" = some false := by decide +kernel
theorem kit_str : kitB "str" "int" = some false ∧ kitB "str" "bool" = some false ∧ kitB "str" "list" = some false ∧ kitB "str" "tuple" = some false ∧ kitB "str" "str" = some true := by decide +kernel
theorem kit_list : kitB "list" "int" = some false ∧ kitB "list" "bool" = some false ∧ kitB "list" "list" = some true ∧ kitB "list" "tuple" = some false ∧ kitB "list" "str" = some false := by decide +kernel
theorem kit_tup : kitB "tuple" "int" = some false ∧ kitB "tuple" "bool" = some false ∧ kitB "tuple" "list" = some false ∧ kitB "tuple" "tuple" = some true ∧ kitB "tuple" "str" = some false := by decide +kernel
section
variable {k : D → Prop}
@[simp] theorem isi_i1 {i : Int} : fIsi [.int i, .ty "int"] k = k (.bl true) := by simp [fIsi_ty, D.tyn, kit_int]
@[simp] theorem isi_i2 {i : Int} : fIsi [.int i, .ty "bool"] k = k (.bl false) := by simp [fIsi_ty, D.tyn, kit_int]
@[simp] theorem isi_i3 {i : Int} : fIsi [.int i, .ty "list"] k = k (.bl false) := by simp [fIsi_ty, D.tyn, kit_int]
@[simp] theorem isi_i4 {i : Int} : fIsi [.int i, .ty "tuple"] k = k (.bl false) := by simp [fIsi_ty, D.tyn, kit_int]
@[simp] theorem isi_i5 {i : Int} : fIsi [.int i, .ty "str"] k = k (.bl false) := by simp [fIsi_ty, D.tyn, kit_int]
@[simp] theorem isi_n1 : fIsi [.non, .ty "int"] k = k (.bl false) := by simp [fIsi_ty, D.tyn, kit_none]
@[simp] theorem isi_n2 : fIsi [.non, .ty "bool"] k = k (.bl false) := by simp [fIsi_ty, D.tyn, kit_none]
@[simp] theorem isi_n3 : fIsi [.non, .ty "list"] k = k (.bl false) := by simp [fIsi_ty, D.tyn, kit_none]
@[simp] theorem isi_n4 : fIsi [.non, .ty "tuple"] k = k (.bl false) := by simp [fIsi_ty, D.tyn, kit_none]
@[simp] theorem isi_n5 : fIsi [.non, .ty "str"] k = k (.bl false) := by simp [fIsi_ty, D.tyn, kit_none]
@[simp] theorem isi_s1 {i : Str} : fIsi [.str i, .ty "int"] k = k (.bl false) := by simp [fIsi_ty, D.tyn, kit_str]
@[simp] theorem isi_s5 {i : Str} : fIsi [.str i, .ty "str"] k = k (.bl true) := by simp [fIsi_ty, D.tyn, kit_str]
@[simp] theorem isi_l1 {i : List D} : fIsi [.lst i, .ty "int"] k = k (.bl false) := by simp [fIsi_ty, D.tyn, kit_list]
@[simp] theorem isi_l3 {i : List D} : fIsi [.lst i, .ty "list"] k = k (.bl true) := by simp [fIsi_ty, D.tyn, kit_list]
@[simp] theorem isi_l4 {i : List D} : fIsi [.lst i, .ty "tuple"] k = k (.bl false) := by simp [fIsi_ty, D.tyn, kit_list]
@[simp] theorem isi_t1 {i : List D} : fIsi [.tup i, .ty "int"] k = k (.bl false) := by simp [fIsi_ty, D.tyn, kit_tup]
@[simp] theorem isi_t3 {i : List D} : fIsi [.tup i, .ty "list"] k = k (.bl false) := by simp [fIsi_ty, D.tyn, kit_tup]
@[simp] theorem isi_t4 {i : List D} : fIsi [.tup i, .ty "tuple"] k = k (.bl true) := by simp [fIsi_ty, D.tyn, kit_tup]
end
/-! comprehensions and loops -/
theorem lc_name {j : Nat} {t : WT} {w : WE} {p : D → Bool} {f : D → D} {env : Env} : ∀ {ds acc : List D} {Q : List D → Prop}, (∀ d ∈ ds, ∀ k : Bool → Prop, k (p d) → t (env.set j (some (.fz d))) k (fun _ => False)) →
    (∀ d ∈ ds, p d = true → ∀ k : D → Prop, k (f d) → w (env.set j (some (.fz d))) k (fun _ => False)) → Q (acc ++ (ds.filter p).map f) → wLcL (gN j) t w ds acc env Q
  | [], acc, Q, _, _, h => by simpa [wLcL] using h
  | d :: ds, acc, Q, ht, hw, h => by
    show t (env.set j (some (.fz d))) _ _
    refine ht d (by simp) _ ?_
    cases hp : p d with
    | true =>
      refine hw d (by simp) hp _ (lc_name (fun d h => ht d (by simp [h])) (fun d h => hw d (by simp [h])) ?_)
      simpa [hp, List.append_assoc] using h
    | false => exact lc_name (fun d h => ht d (by simp [h])) (fun d h => hw d (by simp [h])) (by simpa [hp] using h)
theorem lc_map {j : Nat} {w : WE} {f : D → D} {env : Env} {ds acc : List D} {Q : List D → Prop} (hw : ∀ d ∈ ds, ∀ k : D → Prop, k (f d) → w (env.set j (some (.fz d))) k (fun _ => False)) (h : Q (acc ++ ds.map f)) : wLcL (gN j) wYes w ds acc env Q :=
  lc_name (p := fun _ => true) (fun _ _ _ hk => hk) (fun d hd _ => hw d hd) (by rw [List.filter_eq_self.mpr (fun _ _ => rfl)]; exact h)
theorem lc_nameT {α : Type} {enc : α → D} {j : Nat} {t : WT} {w : WE} {p : α → Bool} {f : α → D} {env : Env} : ∀ {xs : List α} {acc : List D} {Q : List D → Prop}, (∀ x ∈ xs, ∀ k : Bool → Prop, k (p x) → t (env.set j (some (.fz (enc x)))) k (fun _ => False)) →
    (∀ x ∈ xs, p x = true → ∀ k : D → Prop, k (f x) → w (env.set j (some (.fz (enc x)))) k (fun _ => False)) → Q (acc ++ (xs.filter p).map f) → wLcL (gN j) t w (xs.map enc) acc env Q
  | [], acc, Q, _, _, h => by simpa [wLcL] using h
  | d :: ds, acc, Q, ht, hw, h => by
    show t (env.set j (some (.fz (enc d)))) _ _
    refine ht d (by simp) _ ?_
    cases hp : p d with
    | true =>
      refine hw d (by simp) hp _ (lc_nameT (fun d h => ht d (by simp [h])) (fun d h => hw d (by simp [h])) ?_)
      simpa [hp, List.append_assoc] using h
    | false => exact lc_nameT (fun d h => ht d (by simp [h])) (fun d h => hw d (by simp [h])) (by simpa [hp] using h)
theorem lc_mapT {α : Type} {enc : α → D} {j : Nat} {w : WE} {f : α → D} {env : Env} {xs : List α} {acc : List D} {Q : List D → Prop} (hw : ∀ x ∈ xs, ∀ k : D → Prop, k (f x) → w (env.set j (some (.fz (enc x)))) k (fun _ => False)) (h : Q (acc ++ xs.map f)) : wLcL (gN j) wYes w (xs.map enc) acc env Q :=
  lc_nameT (p := fun _ => true) (fun _ _ _ hk => hk) (fun d hd _ => hw d hd) (by rw [List.filter_eq_self.mpr (fun _ _ => rfl)]; exact h)
/-- a loop, by what holds of the part that is walked -/
theorem loop_pre {α : Type} {enc : α → D} {g : WG} {body : WS} {De : EndsD} (I : List α → Env → Prop) : ∀ (post pre : List α) (env : Env), I pre env →
    (∀ a x b env nx, pre ++ post = a ++ x :: b → I a env → (∀ env', I (a ++ [x]) env' → nx env') → g (enc x) env fun env1 => body { De with nx := nx, ct := nx, bk := De.nx } env1) →
    (∀ env, I (pre ++ post) env → De.nx env) → wLoop g body De (post.map enc) env
  | [], pre, env, h0, _, hd => hd env (by rw [List.append_nil]; exact h0)
  | x :: post, pre, env, h0, hs, hd => by
    refine hs pre x post env _ rfl h0 fun env' h' => ?_
    refine loop_pre I post (pre ++ [x]) env' h' (fun a y b env nx e => hs a y b env nx (by rw [← e, List.append_assoc]; rfl)) fun env hI => hd env ?_
    rw [List.append_assoc] at hI
    exact hI
theorem loop_T {α : Type} {enc : α → D} {g : WG} {body : WS} {De : EndsD} {xs : List α} {env : Env} (I : List α → Env → Prop) (h0 : I [] env)
    (hs : ∀ a x b env nx, xs = a ++ x :: b → I a env → (∀ env', I (a ++ [x]) env' → nx env') → g (enc x) env fun env1 => body { De with nx := nx, ct := nx, bk := De.nx } env1)
    (hd : ∀ env, I xs env → De.nx env) : wLoop g body De (xs.map enc) env := loop_pre I xs [] env h0 (fun a x b env nx e => hs a x b env nx e) hd
/-- data of flat things, no text, can be compared -/
def D.flatN : D → Bool
  | .non => true | .bl _ => true | .int _ => true | _ => false
theorem flatN_py : ∀ {ds : List D}, ds.all D.flatN = true → plA ds = true ∧ PyData.canLayAll0 (pyA ds) = true ∧ PyData.depthAll (pyA ds) = 0
  | [], _ => ⟨by simp [plA], by simp [pyA, PyData.canLayAll0], by simp [pyA, PyData.depthAll]⟩
  | d :: ds, h => by
    rw [List.all_cons, Bool.and_eq_true] at h
    obtain ⟨a, b, c⟩ := flatN_py h.2
    have hd : d.pl = true ∧ PyData.canLay0 d.py = true ∧ PyData.depth d.py = 0 := by
      cases d <;> first
        | exact absurd h.1 Bool.false_ne_true
        | simp [D.pl, D.py, PyData.canLay0, PyData.depth]
    refine ⟨by rw [plA, hd.1, a]; rfl, by rw [pyA, PyData.canLayAll0, hd.2.1, b]; rfl, by rw [pyA, PyData.depthAll, hd.2.2, c]; rfl⟩
theorem flatN_lst {ds : List D} (h : ds.all D.flatN = true) : (D.lst ds).pl = true ∧ SeqAt.shaped (D.lst ds).py = true := by
  obtain ⟨a, b, c⟩ := flatN_py h
  refine ⟨by rw [D.pl]; exact a, ?_⟩
  unfold SeqAt.shaped
  rw [D.py, PyData.canLay0, b, PyData.depth, c]
  rfl
theorem eqv_ints : ∀ (xs ys : List Int), PyData.eqvAll (pyA (xs.map D.int)) (pyA (ys.map D.int)) = (xs == ys)
  | [], [] => by simp [pyA, PyData.eqvAll]
  | [], _ :: _ => by simp [pyA, PyData.eqvAll]
  | _ :: _, [] => by simp [pyA, PyData.eqvAll]
  | x :: xs, y :: ys => by
    rw [List.map_cons, List.map_cons, pyA, pyA, PyData.eqvAll, eqv_ints xs ys, D.py, D.py, PyData.eqv]
    rfl
theorem flatN_ints (xs : List Int) : (xs.map D.int).all D.flatN = true := by
  simp [List.all_map, D.flatN]
/-- == of lists of ints -/
theorem fEqN_ints {n : Bool} {xs ys : List Int} {k : D → Prop} (h : k (.bl (if n then !(xs == ys) else xs == ys))) : fEqN n (.lst (xs.map D.int)) (.lst (ys.map D.int)) k := by
  obtain ⟨a, b⟩ := flatN_lst (flatN_ints xs)
  obtain ⟨c, d⟩ := flatN_lst (flatN_ints ys)
  have e : eqD (.lst (xs.map D.int)) (.lst (ys.map D.int)) = (xs == ys) := by
    unfold eqD
    rw [D.py, D.py, PyData.eqv, eqv_ints]
  exact .inr ⟨a, c, b, d, by rw [e]; exact h⟩
/-- == of a list of flat things with the empty list -/
theorem fEqN_nil {n : Bool} {ds : List D} {k : D → Prop} (hf : ds.all D.flatN = true) (h : k (.bl (if n then !ds.isEmpty else ds.isEmpty))) : fEqN n (.lst ds) (.lst []) k := by
  obtain ⟨a, b⟩ := flatN_lst hf
  obtain ⟨c, d⟩ := flatN_lst (ds := []) rfl
  have e : eqD (.lst ds) (.lst []) = ds.isEmpty := by
    unfold eqD
    rw [D.py, D.py, PyData.eqv]
    cases ds <;> simp [pyA, PyData.eqvAll]
  exact .inr ⟨a, c, b, d, by rw [e]; exact h⟩
theorem sz_m {n : Nat} (h : n ≤ 10000000) : n ≤ sizeLine := Nat.le_trans h tenM
/-- the law's own start -/
theorem ra_of_ints {K : PySem.W.Frag} {G : Hp} (ns : List Int) : RA K G (ns.map V.int) (ns.map D.int) := ints_ra ns
theorem law_starts {K : PySem.W.Frag} {H : Hp} {a : Addr} {sp : SpD} {xs : List V} {ds : List D} (h : SqL K H a xs) (ra : RA K H xs ds) (hs : sp [.lst ds] (fun d => d = .bl true) (fun _ => False)) : liftSp K sp [.ref a] H (fun v _ => v = .bl true) (fun _ _ _ => False) :=
  ⟨[.lst ds], H, _, _, .one (.lst h ra), Ex.refl H, hs, fun v H' G' d _ r e => by subst e; exact r.bl_inv, fun _ _ _ _ _ _ z => z⟩
theorem no_exc {P : Program} {w : World} {outer : List PySem.Env} {H : Hp} {s : Shared} {u : Value} {s' : Shared} (h : L2.CX P w outer H s (fun _ _ _ => False) u s') : False := by
  obtain ⟨_, _, _, _, _, _, _, _, _, _, _, _, z⟩ := h
  exact z
/-- one statement at a time: the slots behind it are named once -/
theorem seq_abs {a b : WS} {De : EndsD} {env env1 : Env} (h : ∀ nx : Env → Prop, nx env1 → a { De with nx := nx } env) (hb : b De env1) : wSeq a b De env := h _ hb
/-- .. where the slots behind are told by a word -/
theorem seq_word {a b : WS} {De : EndsD} {env : Env} (M : Env → Prop) (h : ∀ nx : Env → Prop, (∀ e, M e → nx e) → a { De with nx := nx } env) (hb : ∀ e, M e → b De e) : wSeq a b De env := h _ hb
theorem atI_ok {α : Type} {xs : List α} {i : Int} (h0 : 0 ≤ i) (h1 : i < xs.length) : ∃ d, atI xs i = some d ∧ xs[i.toNat]? = some d := by
  have hl : i.toNat < xs.length := by omega
  have := atI_nat (xs := xs) (j := i.toNat) (List.getElem?_eq_getElem hl)
  rw [Int.toNat_of_nonneg h0] at this
  exact ⟨_, this, List.getElem?_eq_getElem hl⟩
end MP
namespace K91
open PySem PySem.Spec PyProof.Rows L2 MP
/-! ### the text by places -/
def topS (i : Nat) : Stmt := PySem.Challenge.pw_crossracks_k91_words.main.body.getD i (.Pass ⟨0, 0, 0, 0⟩)
abbrev s_number_of : Stmt := topS 2
abbrev scN_number_of : List Str := ["word", "sign"]
theorem sc_number_of : FnScope scN_number_of ["word"] (defScope s_number_of) := ⟨rfl, rfl, rfl, by decide +kernel, rfl, by decide +kernel, by decide +kernel⟩
abbrev s_numbers_of : Stmt := topS 3
abbrev scN_numbers_of : List Str := ["word", "found", "part"]
theorem sc_numbers_of : FnScope scN_numbers_of ["word"] (defScope s_numbers_of) := ⟨rfl, rfl, rfl, by decide +kernel, rfl, by decide +kernel, by decide +kernel⟩
abbrev s_ask_of : Stmt := topS 4
abbrev scN_ask_of : List Str := ["word", "front", "mark", "behind", "caller", "ends"]
theorem sc_ask_of : FnScope scN_ask_of ["word"] (defScope s_ask_of) := ⟨rfl, rfl, rfl, by decide +kernel, rfl, by decide +kernel, by decide +kernel⟩
abbrev s_listed : Stmt := topS 5
abbrev scN_listed : List Str := ["some", "one"]
theorem sc_listed : FnScope scN_listed ["some"] (defScope s_listed) := ⟨rfl, rfl, rfl, by decide +kernel, rfl, by decide +kernel, by decide +kernel⟩
abbrev s__law_cell_at : Stmt := topS 7
abbrev scN__law_cell_at : List Str := ["_law_script", "_law_k"]
theorem sc__law_cell_at : FnScope scN__law_cell_at ["_law_script", "_law_k"] (defScope s__law_cell_at) := ⟨rfl, rfl, rfl, by decide +kernel, rfl, by decide +kernel, by decide +kernel⟩
abbrev s__law_number : Stmt := topS 8
abbrev scN__law_number : List Str := ["_law_cell"]
theorem sc__law_number : FnScope scN__law_number ["_law_cell"] (defScope s__law_number) := ⟨rfl, rfl, rfl, by decide +kernel, rfl, by decide +kernel, by decide +kernel⟩
abbrev s__law_whole : Stmt := topS 9
abbrev scN__law_whole : List Str := ["_law_found"]
theorem sc__law_whole : FnScope scN__law_whole ["_law_found"] (defScope s__law_whole) := ⟨rfl, rfl, rfl, by decide +kernel, rfl, by decide +kernel, by decide +kernel⟩
abbrev s__law_figures : Stmt := topS 10
abbrev scN__law_figures : List Str := ["_law_word", "_law_sign"]
theorem sc__law_figures : FnScope scN__law_figures ["_law_word"] (defScope s__law_figures) := ⟨rfl, rfl, rfl, by decide +kernel, rfl, by decide +kernel, by decide +kernel⟩
abbrev s__law_numbers : Stmt := topS 11
abbrev scN__law_numbers : List Str := ["_law_word", "_law_found", "_law_part", "_law_one"]
theorem sc__law_numbers : FnScope scN__law_numbers ["_law_word"] (defScope s__law_numbers) := ⟨rfl, rfl, rfl, by decide +kernel, rfl, by decide +kernel, by decide +kernel⟩
abbrev s__law_told_list : Stmt := topS 12
abbrev scN__law_told_list : List Str := ["_law_found", "_law_due", "_law_one"]
theorem sc__law_told_list : FnScope scN__law_told_list ["_law_found", "_law_due"] (defScope s__law_told_list) := ⟨rfl, rfl, rfl, by decide +kernel, rfl, by decide +kernel, by decide +kernel⟩
abbrev s__law_told : Stmt := topS 13
abbrev scN__law_told : List Str := ["_law_word", "_law_due", "_law_found", "_law_asks", "_law_first", "_law_some"]
theorem sc__law_told : FnScope scN__law_told ["_law_word"] (defScope s__law_told) := ⟨rfl, rfl, rfl, by decide +kernel, rfl, by decide +kernel, by decide +kernel⟩
abbrev s_law : Stmt := topS 14
abbrev scN_law : List Str := ["_law_script", "_law_text", "_law_row", "_law_cell", "_law_shown", "_law_told_here", "_law_word", "_law_one"]
theorem sc_law : FnScope scN_law ["_law_script"] (defScope s_law) := ⟨rfl, rfl, rfl, by decide +kernel, rfl, by decide +kernel, by decide +kernel⟩
/-! ### the readings on data -/
def wb_number_of : WS := (wSeq (wIf (wOr (wB (wOp fLt (wCa fLen (wCons (wVar 0) wNil)) (wC (.int 1)))) (wOr (wB (wOp fGt (wCa fLen (wCons (wVar 0) wNil)) (wC (.int 3)))) (wNot (wB (wCa fAll (wCons (wL (wLen 2 (wLc (wItS (wVar 0)) (gN 1) wYes (wOp fIn (wVar 1) (wC (.str (PySem.Str.ofString "0123456789")))) [1]))) wNil)))))) (wRet (wC .non)) wNext)
    (wSeq (wIf (wAnd (wB (wOp fGt (wCa fLen (wCons (wVar 0) wNil)) (wC (.int 1)))) (wB (wOp fEq (wOp fIx (wVar 0) (wC (.int 0))) (wC (.str (PySem.Str.ofString "0")))))) (wRet (wC .non)) wNext)
    (wRet (wCa fIntS (wCons (wVar 0) wNil)))))
def wb_numbers_of (sp_number_of : SpD) : WS := (wSeq (wAsgL [] 1 (wLen 3 (wLc (wIt (wL (wM1L fSplit (wVar 0) (wC (.str (PySem.Str.ofString ",")))))) (gN 2) wYes (wCall sp_number_of (wCons (wVar 2) wNil)) [2])))
    (wSeq (wIf (wOr (wB (wOp fIn (wC .non) (wVar 1))) (wB (wOp fGt (wCa fLen (wCons (wVar 1) wNil)) (wC (.int 8))))) (wRet (wC .non)) wNext)
    (wRet (wVar 1))))
def wb_ask_of (sp_number_of : SpD) (sp_numbers_of : SpD) : WS := (wSeq (wAsgG [] (gT 3 (gCons' (gN 1) (gCons' (gN 2) (gCons' (gN 3) gNil')))) (wM1 fPartition (wVar 0) (wC (.str (PySem.Str.ofString ">")))))
    (wSeq (wAsg [] 4 (wCall sp_number_of (wCons (wVar 1) wNil)))
    (wSeq (wAsg [] 5 (wCall sp_numbers_of (wCons (wVar 3) wNil)))
    (wSeq (wIf (wOr (wB (wOp fIsN (wVar 4) (wC .non))) (wB (wOp fIsN (wVar 5) (wC .non)))) (wRet (wC .non)) wNext)
    (wRet (wTup (wCons (wVar 4) (wCons (wVar 5) wNil))))))))
def wb_listed : WS := (wSeq (wIf (wB (wOp fEq (wVar 0) (wL (wLst wNil)))) (wRet (wC (.str (PySem.Str.ofString "-")))) wNext)
    (wRet (wM1 fJoin (wC (.str (PySem.Str.ofString ","))) (wL (wLen 2 (wLc (wIt (wVar 0)) (gN 1) wYes (wCa fStrI (wCons (wVar 1) wNil)) [1]))))))
def wb__law_cell_at : WS := (wSeq (wIf (wB (wOp fLt (wVar 1) (wCa fLen (wCons (wVar 0) wNil)))) (wRet (wOp fIx (wVar 0) (wVar 1))) wNext)
    (wRet (wC (.int 0))))
def wb__law_number : WS := (wRet (wOp fMod (wOp fMul (wOp fAdd (wOp fMod (wVar 0) (wC (.int 2147483629))) (wC (.int 48611))) (wC (.int 69621))) (wC (.int 2147483629))))
def wb__law_whole : WS := (wRet (wAndV (wCa fIsi (wCons (wVar 0) (wCons (wC (.ty "int")) wNil))) (wNotV (wCa fIsi (wCons (wVar 0) (wCons (wC (.ty "bool")) wNil))))))
def wb__law_figures : WS := (wSeq (wIf (wOr (wB (wOp fLt (wCa fLen (wCons (wVar 0) wNil)) (wC (.int 1)))) (wOr (wB (wOp fGt (wCa fLen (wCons (wVar 0) wNil)) (wC (.int 3)))) (wAnd (wB (wOp fGt (wCa fLen (wCons (wVar 0) wNil)) (wC (.int 1)))) (wB (wOp fEq (wOp fIx (wVar 0) (wC (.int 0))) (wC (.str (PySem.Str.ofString "0")))))))) (wRet (wC .non)) wNext)
    (wSeq (wFor [] true (wItS (wVar 0)) (gN 1) (wIf (wB (wOp fNotIn (wVar 1) (wC (.str (PySem.Str.ofString "0123456789"))))) (wRet (wC .non)) wNext))
    (wRet (wCa fIntS (wCons (wVar 0) wNil)))))
def wb__law_numbers (sp__law_figures : SpD) : WS := (wSeq (wAsgL [] 1 (wLen 4 (wLc (wIt (wL (wM1L fSplit (wVar 0) (wC (.str (PySem.Str.ofString ",")))))) (gN 2) wYes (wCall sp__law_figures (wCons (wVar 2) wNil)) [2])))
    (wSeq (wIf (wOr (wB (wOp fGt (wCa fLen (wCons (wVar 1) wNil)) (wC (.int 8)))) (wB (wOp fNe (wL (wLen 4 (wLc (wIt (wVar 1)) (gN 3) (wB (wOp fIsN (wVar 3) (wC .non))) (wVar 3) [3]))) (wL (wLst wNil))))) (wRet (wC .non)) wNext)
    (wRet (wVar 1))))
def wb__law_told_list (sp__law_whole : SpD) : WS := (wSeq (wIf (wOr (wB (wOp fIsN (wVar 1) (wC .non))) (wB (wOp fIsN (wVar 0) (wC .non)))) (wRet (wAndV (wOp fIsN (wVar 1) (wC .non)) (wOp fIsN (wVar 0) (wC .non)))) wNext)
    (wSeq (wIf (wOr (wNot (wB (wCa fIsi (wCons (wVar 0) (wCons (wC (.ty "list")) wNil))))) (wB (wOp fNe (wVar 0) (wVar 1)))) (wRet (wC (.bl false))) wNext)
    (wRet (wOp fEq (wL (wLen 3 (wLc (wIt (wVar 0)) (gN 2) (wNot (wB (wCall sp__law_whole (wCons (wVar 2) wNil)))) (wVar 2) [2]))) (wL (wLst wNil))))))
def wb__law_told (sp__law_figures : SpD) (sp_number_of : SpD) (sp__law_whole : SpD) (sp__law_told_list : SpD) (sp__law_numbers : SpD) (sp_numbers_of : SpD) (sp_ask_of : SpD) : WS := (wSeq (wAsg [] 1 (wCall sp__law_figures (wCons (wVar 0) wNil)))
    (wSeq (wAsg [] 2 (wCall sp_number_of (wCons (wVar 0) wNil)))
    (wSeq (wIf (wOr (wAnd (wB (wOp fIsN (wVar 1) (wC .non))) (wB (wOp fNotN (wVar 2) (wC .non)))) (wOr (wAnd (wB (wOp fNotN (wVar 1) (wC .non))) (wNot (wB (wCall sp__law_whole (wCons (wVar 2) wNil))))) (wB (wOp fNe (wVar 2) (wVar 1))))) (wRet (wC (.bl false))) wNext)
    (wSeq (wIf (wNot (wB (wCall sp__law_told_list (wCons (wCall sp_numbers_of (wCons (wVar 0) wNil)) (wCons (wCall sp__law_numbers (wCons (wVar 0) wNil)) wNil))))) (wRet (wC (.bl false))) wNext)
    (wSeq (wAsg [] 3 (wCall sp_ask_of (wCons (wVar 0) wNil)))
    (wSeq (wAsg [] 4 (wC .non))
    (wSeq (wAsg [] 5 (wC .non))
    (wSeq (wIf (wB (wOp fEq (wM1 fCount (wVar 0) (wC (.str (PySem.Str.ofString ">")))) (wC (.int 1)))) (wSeq (wAsg [] 4 (wCall sp__law_figures (wCons (wSlS (wVar 0) wNo (wPart (wM1 fFind (wVar 0) (wC (.str (PySem.Str.ofString ">")))))) wNil)))
    (wAsg [] 5 (wCall sp__law_numbers (wCons (wSlS (wVar 0) (wPart (wOp fAdd (wM1 fFind (wVar 0) (wC (.str (PySem.Str.ofString ">")))) (wC (.int 1)))) wNo) wNil)))) wNext)
    (wSeq (wIf (wOr (wB (wOp fIsN (wVar 4) (wC .non))) (wB (wOp fIsN (wVar 5) (wC .non)))) (wRet (wOp fIsN (wVar 3) (wC .non))) wNext)
    (wSeq (wIf (wOr (wNot (wB (wCa fIsi (wCons (wVar 3) (wCons (wC (.ty "tuple")) wNil))))) (wOr (wB (wOp fNe (wCa fLen (wCons (wVar 3) wNil)) (wC (.int 2)))) (wNot (wB (wCall sp__law_whole (wCons (wOp fIx (wVar 3) (wC (.int 0))) wNil)))))) (wRet (wC (.bl false))) wNext)
    (wRet (wAndV (wOp fEq (wOp fIx (wVar 3) (wC (.int 0))) (wVar 4)) (wCall sp__law_told_list (wCons (wOp fIx (wVar 3) (wC (.int 1))) (wCons (wVar 5) wNil)))))))))))))))
def wb_law (sp__law_number : SpD) (sp__law_cell_at : SpD) (sp_listed : SpD) (sp__law_told : SpD) : WS := (wSeq (wAsg [2] 1 (wC (.str (PySem.Str.ofString ""))))
    (wSeq (wAsgL [2] 2 (wLst wNil))
    (wSeq (wFor [2] false (wIt (wL (wSlL (wVar 0) wNo (wPart (wC (.int 84)))))) (gN 3) (wSeq (wAsg [2] 1 (wOp fAddS (wVar 1) (wOp fIx (wC (.str (PySem.Str.ofString "0123456789012,,>>>-x||"))) (wOp fMod (wCall sp__law_number (wCons (wVar 3) wNil)) (wC (.int 22))))))
    (wIf (wB (wOp fLe (wCa fLen (wCons (wVar 2) wNil)) (wOp fMod (wOp fDiv (wCall sp__law_number (wCons (wCall sp__law_cell_at (wCons (wVar 0) (wCons (wC (.int 0)) wNil))) wNil)) (wC (.int 22))) (wC (.int 10))))) (wApp [2] 2 (wOp fMod (wOp fDiv (wCall sp__law_number (wCons (wVar 3) wNil)) (wC (.int 22))) (wC (.int 1201)))) wNext)))
    (wSeq (wAsg [2] 4 (wC (.str (PySem.Str.ofString "-"))))
    (wSeq (wIf (wB (wOp fNe (wVar 2) (wL (wLst wNil)))) (wAsg [] 4 (wM1 fJoin (wC (.str (PySem.Str.ofString ","))) (wL (wLen 8 (wLc (wIt (wVar 2)) (gN 7) wYes (wCa fStrI (wCons (wVar 7) wNil)) [7]))))) wNext)
    (wSeq (wAsg [] 5 (wCall sp_listed (wCons (wL (wCaL fList (wCons (wVar 2) wNil))) wNil)))
    (wSeq (wIf (wOr (wNot (wB (wCa fIsi (wCons (wVar 5) (wCons (wC (.ty "str")) wNil))))) (wB (wOp fNe (wVar 5) (wVar 4)))) (wRet (wC (.bl false))) wNext)
    (wSeq (wFor [2] false (wIt (wL (wOpL fCat (wL (wM1L fSplit (wVar 1) (wC (.str (PySem.Str.ofString "|"))))) (wL (wLst (wCons (wVar 4) (wCons (wOp fAddS (wOp fAddS (wSlS (wVar 1) wNo (wPart (wC (.int 2)))) (wC (.str (PySem.Str.ofString ">")))) (wVar 4)) (wCons (wOp fAddS (wOp fAddS (wVar 4) (wC (.str (PySem.Str.ofString ">")))) (wSlS (wVar 1) wNo (wPart (wC (.int 1))))) wNil)))))))) (gN 6) (wIf (wNot (wB (wCall sp__law_told (wCons (wVar 6) wNil)))) (wRet (wC (.bl false))) wNext))
    (wRet (wC (.bl true)))))))))))
/-! ### the mathematics -/
def isD (c : Nat) : Bool := decide (48 ≤ c ∧ c ≤ 57)
theorem digs_eq : (PySem.Str.ofString "0123456789").cps.toList = [48, 49, 50, 51, 52, 53, 54, 55, 56, 57] := by decide +kernel
theorem dig_mem (c : Nat) : decide (c ∈ (PySem.Str.ofString "0123456789").cps.toList) = isD c := by
  rw [digs_eq]
  unfold isD
  rw [decide_eq_decide]
  simp only [List.mem_cons, List.not_mem_nil, or_false]
  omega
def good (s : Str) : Bool := decide (1 ≤ s.length) && decide (s.length ≤ 3) && s.cps.toList.all isD && !(decide (1 < s.length) && s.cps.toList.head? == some 48)
def numO (s : Str) : Option Int := if good s = true then PySem.intText? s else none
theorem num_good {s : Str} (h : good s = true) : ∃ n : Int, PySem.intText? s = some n ∧ s.length ≤ 3 := by
  unfold good at h
  simp only [Bool.and_eq_true, decide_eq_true_eq] at h
  obtain ⟨⟨⟨h1, h2⟩, h3⟩, _⟩ := h
  have hd : PySem.NumText.AllDigits s.cps.toList := fun c hc => by
    have := List.all_eq_true.mp h3 c hc
    exact of_decide_eq_true this
  have hl : s.cps.toList.length = s.length := Array.length_toList
  exact ⟨_, PySem.intText_digits hd (fun z => by rw [z] at hl; simp at hl; omega) (by omega), h2⟩
theorem numO_bad {s : Str} (h : ¬ good s = true) : numO s = none := if_neg h
theorem numO_good {s : Str} (h : good s = true) {n : Int} (e : PySem.intText? s = some n) : numO s = some n := by rw [numO, if_pos h, e]
def oD : Option Int → D
  | none => .non
  | some i => .int i
def numsO (s : Str) : Option (List Int) :=
  let l := (Txt.split s (PySem.Str.ofString ",")).map numO
  if l.any Option.isNone = true ∨ 8 < l.length then none else some (l.filterMap id)
def lD : Option (List Int) → D
  | none => .non
  | some l => .lst (l.map .int)
def askO (s : Str) : Option (Int × List Int) := (numO (Txt.partition s (PySem.Str.ofString ">")).1).bind fun c => (numsO (Txt.partition s (PySem.Str.ofString ">")).2.2).map fun l => (c, l)
def aD : Option (Int × List Int) → D
  | none => .non
  | some (c, l) => .tup [.int c, .lst (l.map .int)]
theorem tl_comma : (PySem.Str.ofString ",").cps.toList = [44] := by decide +kernel
theorem tl_gt : (PySem.Str.ofString ">").cps.toList = [62] := by decide +kernel
theorem gt_eq : PySem.Str.ofString ">" = ⟨#[62]⟩ := by decide +kernel
theorem comma_eq : PySem.Str.ofString "," = ⟨#[44]⟩ := by decide +kernel
theorem zero_eq (c : Nat) : ((⟨#[c]⟩ : Str) == PySem.Str.ofString "0") = (c == 48) := by
  have : PySem.Str.ofString "0" = ⟨#[48]⟩ := by decide +kernel
  rw [this, Bool.eq_iff_iff]
  simp
/-- the parts of a cut text are no longer than it, and hold its signs -/
theorem spl_mem {S : List Nat} : ∀ {k : Nat} {acc l p : List Nat}, p ∈ TL.spl S k acc l → p.length ≤ acc.length + l.length
  | k, acc, [], p, h => by
    rw [TL.spl_nil] at h
    rw [List.mem_singleton.mp h]
    omega
  | 0, acc, c :: r, p, h => by
    unfold TL.spl at h
    split at h
    · rcases List.mem_cons.mp h with h | h
      · rw [h]; simp
      · have := spl_mem h
        simp at this ⊢
        omega
    · have := spl_mem h
      simp at this ⊢
      omega
  | k + 1, acc, c :: r, p, h => by
    unfold TL.spl at h
    have := spl_mem h
    simp at this ⊢
    omega
theorem split_len {x y : Str} (hy : y.cps.toList ≠ []) (hk : y.cps.all (· < 256) = true) {p : Str} (h : p ∈ Txt.split x y) : p.length ≤ x.length := by
  have e := TL.split_spl x y hy (TL.kind_ok hk)
  have h2 : p.cps.toList ∈ (Txt.split x y).map TL.tl := List.mem_map.mpr ⟨p, h, rfl⟩
  rw [e] at h2
  have := spl_mem h2
  simpa [Str.length] using this
theorem comma_ne : (PySem.Str.ofString ",").cps.toList ≠ [] := by rw [tl_comma]; simp
theorem bar_ne : (PySem.Str.ofString "|").cps.toList ≠ [] := by decide +kernel
/-- the parts: each sign of the text but the comma stands in one of them -/
theorem spl_sign {s c : Nat} (hs : c ≠ s) : ∀ {acc l : List Nat}, c ∈ acc ∨ c ∈ l → ∃ p ∈ TL.spl [s] 0 acc l, c ∈ p
  | acc, [], h => ⟨acc, by rw [TL.spl_nil]; simp, by simpa using h⟩
  | acc, d :: r, h => by
    by_cases hd : d = s
    · subst hd
      have e : TL.spl [d] 0 acc (d :: r) = acc :: TL.spl [d] 0 [] r := TL.spl_hit (TL.pre_self [d] r)
      rw [e]
      rcases h with h | h
      · exact ⟨acc, by simp, h⟩
      · have hr : c ∈ r := (List.mem_cons.mp h).elim (fun z => absurd z hs) id
        obtain ⟨p, h1, h2⟩ := spl_sign hs (acc := []) (.inr hr)
        exact ⟨p, List.mem_cons_of_mem _ h1, h2⟩
    · rw [TL.spl_miss (TL.pre_of_head [] r hd)]
      refine spl_sign hs ?_
      rcases h with h | h
      · exact .inl (List.mem_append_left _ h)
      · rcases List.mem_cons.mp h with h | h
        · exact .inl (by simp [h])
        · exact .inr h
theorem numO_sign {s : Str} {c : Nat} (hc : c ∈ s.cps.toList) (hd : isD c = false) : numO s = none := by
  refine numO_bad fun h => ?_
  unfold good at h
  simp only [Bool.and_eq_true] at h
  have := List.all_eq_true.mp h.1.2 c hc
  rw [hd] at this
  cases this
theorem numsO_sign {s : Str} {c : Nat} (hc : c ∈ s.cps.toList) (hd : isD c = false) (hn : c ≠ 44) : numsO s = none := by
  have e := TL.split_spl s (PySem.Str.ofString ",") comma_ne (TL.kind_ok (by decide +kernel))
  obtain ⟨p, h1, h2⟩ := spl_sign hn (acc := []) (.inr hc)
  have tc : TL.tl (PySem.Str.ofString ",") = [44] := tl_comma
  rw [tc] at e
  have h1' : p ∈ (Txt.split s (PySem.Str.ofString ",")).map TL.tl := by rw [e]; exact h1
  obtain ⟨q, hq, eq⟩ := List.mem_map.mp h1'
  unfold numsO
  refine if_pos (.inl (List.any_eq_true.mpr ⟨none, List.mem_map.mpr ⟨q, hq, numO_sign (c := c) ?_ hd⟩, rfl⟩))
  show c ∈ TL.tl q
  rw [eq]
  exact h2
theorem numsO_empty : numsO Str.empty = none := by
  have : Txt.split Str.empty (PySem.Str.ofString ",") = [Str.empty] := by decide +kernel
  unfold numsO
  rw [this]
  refine if_pos (.inl ?_)
  have : numO Str.empty = none := numO_bad (by decide +kernel)
  simp [this]
theorem cut_take {s : Str} {k : Nat} (h : k ≤ s.cps.toList.length) : (cutS s none (some (k : Int))).cps.toList = s.cps.toList.take k := by
  have hl : s.cps.toList.length = s.length := Array.length_toList
  unfold cutS
  rw [HT.sIx_none, HT.sIx_nat, Nat.min_eq_left (by omega)]
  simp
theorem cut_drop {s : Str} {k : Nat} (h : k ≤ s.cps.toList.length) : (cutS s (some (k : Int)) none).cps.toList = s.cps.toList.drop k := by
  have hl : s.cps.toList.length = s.length := Array.length_toList
  unfold cutS
  rw [HT.sIx_none, HT.sIx_nat, Nat.min_eq_left (by omega)]
  show (s.cps.toList.drop k).take (s.length - k) = s.cps.toList.drop k
  exact List.take_of_length_le (by rw [List.length_drop]; omega)
/-- the two readings of an ask -/
theorem ask_count {s : Str} : (Txt.count s (PySem.Str.ofString ">") = 1 → (Txt.partition s (PySem.Str.ofString ">")).1 = cutS s none (some (Txt.find s (PySem.Str.ofString ">"))) ∧ (Txt.partition s (PySem.Str.ofString ">")).2.2 = cutS s (some (Txt.find s (PySem.Str.ofString ">") + 1)) none) ∧
    (Txt.count s (PySem.Str.ofString ">") ≠ 1 → askO s = none) := by
  have key : Txt.count s (PySem.Str.ofString ">") = cnt 62 s.cps.toList := by rw [gt_eq]; exact count_is s 62
  rw [key]
  rcases partition_whole s (PySem.Str.ofString ">") with ⟨e, hn⟩ | ⟨i, e, hi, hn⟩
  · have h0 : 62 ∉ s.cps.toList := fun h => by
      obtain ⟨i, hi⟩ := (mem_iff_at s 62).mp h
      rw [gt_eq] at hn
      exact hn i hi
    rw [cnt_none 62 _ h0]
    refine ⟨fun h => by simp at h, fun _ => ?_⟩
    unfold askO
    rw [e, numsO_empty]
    cases numO s <;> rfl
  · have hf : Txt.find s (PySem.Str.ofString ">") = (i : Int) := by
      rcases find_whole s (PySem.Str.ofString ">") with ⟨_, hn2⟩ | ⟨j, ej, hj, hn2⟩
      · exact absurd hi (hn2 i)
      · have : i = j := by
          by_cases h1 : i < j
          · exact absurd hi (hn2 i h1)
          · by_cases h2 : j < i
            · exact absurd hj (hn j h2)
            · omega
        rw [ej, this]
    have hl : (PySem.Str.ofString ">").length = 1 := by decide +kernel
    have hi' : s.cps.toList[i]? = some 62 := by
      rw [gt_eq] at hi
      exact (StrLaws.subAt_one s 62 i).mp hi
    have hlt : i < s.cps.toList.length := (List.getElem?_eq_some_iff.mp hi').1
    have e1 : (Builtin.Str.strSub s 0 i).cps.toList = s.cps.toList.take i := by rw [StrLaws.strSub_toList]; simp
    have e2 : (Builtin.Str.strSub s (i + 1) s.length).cps.toList = s.cps.toList.drop (i + 1) := by
      rw [StrLaws.strSub_toList]
      exact List.take_of_length_le (by rw [List.length_drop]; simp [Str.length])
    have esum : s.cps.toList = s.cps.toList.take i ++ 62 :: s.cps.toList.drop (i + 1) := by
      have h1 : s.cps.toList.drop i = 62 :: s.cps.toList.drop (i + 1) := by
        rw [List.drop_eq_getElem_cons hlt]
        congr 1
        exact (List.getElem?_eq_some_iff.mp hi').2
      rw [← h1, List.take_append_drop]
    rw [e, hf, hl]
    constructor
    · intro _
      constructor
      · exact TL.ext_tl (e1.trans (cut_take (Nat.le_of_lt hlt)).symm)
      · exact TL.ext_tl (e2.trans (cut_drop (k := i + 1) hlt).symm)
    · intro hc
      have hfree : 62 ∉ s.cps.toList.take i := fun h => by
        obtain ⟨j, hj⟩ := List.getElem?_of_mem h
        rw [List.getElem?_take] at hj
        split at hj
        · rename_i hji
          rw [gt_eq] at hn
          exact hn j hji ((StrLaws.subAt_one s 62 j).mpr hj)
        · cases hj
      have hin : 62 ∈ s.cps.toList.drop (i + 1) := by
        refine Classical.byContradiction fun hno => hc ?_
        rw [esum, cnt_append, cnt_cons, cnt_none 62 _ hfree, cnt_none 62 _ hno]
        rfl
      unfold askO
      rw [e, hl]
      have : numsO (Builtin.Str.strSub s (i + 1) s.length) = none := numsO_sign (c := 62) (by rw [e2]; exact hin) rfl (by decide)
      show ((numO (Builtin.Str.strSub s 0 i)).bind fun c => (numsO (Builtin.Str.strSub s (i + 1) s.length)).map fun l => (c, l)) = none
      rw [this]
      cases numO (Builtin.Str.strSub s 0 i) <;> rfl

/-! ### the promises -/
def sp_number_of : SpD := fun ds Q _ => ∃ s : Str, ds = [.str s] ∧ s.length ≤ 1000000 ∧ Q (oD (numO s))
def sp_numbers_of : SpD := fun ds Q _ => ∃ s : Str, ds = [.str s] ∧ s.length ≤ 1000000 ∧ Q (lD (numsO s))
def sp__law_figures : SpD := sp_number_of
def sp__law_numbers : SpD := sp_numbers_of
def sp_ask_of : SpD := fun ds Q _ => ∃ s : Str, ds = [.str s] ∧ s.length ≤ 1000000 ∧ Q (aD (askO s))
def shown (ns : List Int) : Str := if ns = [] then PySem.Str.ofString "-" else Txt.join (PySem.Str.ofString ",") (ns.map fun n => PySem.Str.ofString (toString n))
def sp_listed : SpD := fun ds Q _ => ∃ ns : List Int, ds = [.lst (ns.map .int)] ∧ ns.length ≤ 100 ∧ (∀ n ∈ ns, 0 ≤ n ∧ n < 10000) ∧ Q (.str (shown ns))
def cellAt (ns : List Int) (k : Int) : Int := (ns[k.toNat]?).getD 0
def sp__law_cell_at : SpD := fun ds Q _ => ∃ (ns : List Int) (k : Int), ds = [.lst (ns.map .int), .int k] ∧ 0 ≤ k ∧ Q (.int (cellAt ns k))
def lawNum (c : Int) : Int := (c % 2147483629 + 48611) * 69621 % 2147483629
def sp__law_number : SpD := fun ds Q _ => ∃ c : Int, ds = [.int c] ∧ Q (.int (lawNum c))
def sp__law_whole : SpD := fun ds Q _ => ∃ o : Option Int, ds = [oD o] ∧ Q (.bl o.isSome)
def sp__law_told_list : SpD := fun ds Q _ => ∃ a b : Option (List Int), ds = [lD a, lD b] ∧ Q (.bl (a == b))
def sp__law_told : SpD := fun ds Q _ => ∃ s : Str, ds = [.str s] ∧ s.length ≤ 1000000 ∧ Q (.bl true)
def sp_law : SpD := fun ds Q _ => ∃ ns : List Int, ds = [.lst (ns.map .int)] ∧ ns.length ≤ 63 ∧ Q (.bl true)

theorem sz1 {s : Str} (h : s.length ≤ 1000000) : s.length ≤ sizeLine := sz_m (by omega)
theorem good_int {s : Str} (h : good s = true) {Q : D → Prop} (hQ : Q (oD (numO s))) : fIntS [.str s] fun d => Q d := by
  obtain ⟨n, e, hl⟩ := num_good h
  rw [numO_good h e] at hQ
  exact ⟨s, n, rfl, e, by omega, hQ⟩
theorem strD_map (s : Str) : strD s = s.cps.toList.map fun c => D.str ⟨#[c]⟩ := rfl
theorem at0 {s : Str} (h : 1 ≤ s.length) : ∃ c r, s.cps.toList = c :: r ∧ atI s.cps.toList 0 = some c := by
  have hl : s.cps.toList.length = s.length := Array.length_toList
  cases e : s.cps.toList with
  | nil => rw [e] at hl; simp at hl; omega
  | cons c r => exact ⟨c, r, rfl, atI_nat (j := 0) rfl⟩
theorem h_number_of : ∀ ds Q Z, sp_number_of ds Q Z → ds.length = 1 ∧ wb_number_of (bodyD Q Z) (startD scN_number_of ds) := by
  rintro ds Q Z ⟨s, rfl, hs, h⟩
  refine ⟨rfl, ?_⟩
  have z := sz1 hs
  simp only [wb_number_of, wSeq, wIf, wEvT, wEv, wEvL, wAsg, wAsgL, wRet, wRetN, wDrop, wNext, wBreak, wCont, wB, wAnd, wOr, wNot, wAndV, wOrV, wNotV, wIfE, wOp, wUn, wCa, wCaL, wM1, wM1L, wL, wLst, wTup, wNil, wCons, wC, wVar, wCall, wLen, wLc, wIt, wItT, wItS, wRng1, wRng2, wFor, wPart, wNo, wSlL, wSlS, wOpL, wAsgG, gN, gT, gCons', gNil', wApp, wSet, wYes, bodyD, startD, mask, aft, frz, Sl.d, Sl.own, xsc, fEq, fNe, fIn, fNotIn, fFind, fCount, fStarts, ex_bl, fI_ii, fI0_ii, fAdd_ii, fSub_ii, fAnd_ii, fOr_ii, fXor_ii, fLt_ii, fLe_ii, fGt_ii, fGe_ii, fMul_ii, fMod_ii, fDiv_ii, fPow_ii, fShl_ii, fShr_ii, fAddS_ss, fEqN_ii, fEqN_ss, fEqN_bb, fEqN_nn, fEqN_ni, fEqN_in, fIsN_n, fNotN_n, isN_n, isN_i, isN_s, isN_l, isN_t, scal_n, scal_i, scal_b, scal_s, scal_r, scal_l, scal_t, fLen_l, fLen_t, fLen_s, fAbs_i, fMin2_i, fMax2_i, fList_l, fList_t, fTuple_l, fTuple_t, fStrI_i, fCat_ll, fIx_l, fIx_t, fIx_s, fInN_l, fInN_t, fSplit_s, fPartition_s, fS2_s, isi_i1, isi_i2, isi_i3, isi_i4, isi_i5, isi_n1, isi_n2, isi_n3, isi_n4, isi_n5, isi_s1, isi_s5, isi_l1, isi_l3, isi_l4, isi_t1, isi_t3, isi_t4, List.getElem?_cons_zero, List.getElem?_cons_succ, List.getElem?_nil, List.set_cons_zero, List.set_cons_succ, List.length_cons, List.length_nil, List.map_cons, List.map_nil, List.cons_append, List.nil_append, List.replicate_succ, List.replicate_zero, Option.some.injEq, exists_eq_left', exists_eq_left, decide_eq_true_eq, Bool.not_eq_true', Bool.not_eq_true, decide_eq_false_iff_not, Bool.false_eq_true, if_false, if_true, if_false, ite_true, ite_false, Bool.not_true, Bool.not_false, Nat.reduceAdd, Nat.reduceSub, Nat.reduceMul, ite_self, true_and, and_true, reduceCtorEq, D.int.injEq, D.bl.injEq, D.str.injEq, D.lst.injEq, D.tup.injEq, D.ty.injEq, List.cons.injEq, and_self, List.all_cons, List.all_nil, Bool.and_true, Bool.and_self, Bool.true_and, Bool.and_false, Bool.false_and, List.not_mem_nil, not_false_eq_true, List.isEmpty_nil, List.mapIdx_cons, List.mapIdx_nil, List.mem_cons, or_false]
  refine ⟨z, ite2 (fun c1 => ?_) fun c1 => ⟨z, ite2 (fun c2 => ?_) fun c2 => ⟨z, ?_⟩⟩⟩
  · rw [numO_bad fun g => by unfold good at g; simp only [Bool.and_eq_true, decide_eq_true_eq] at g; omega] at h
    exact h
  · rw [numO_bad fun g => by unfold good at g; simp only [Bool.and_eq_true, decide_eq_true_eq] at g; omega] at h
    exact h
  · rw [strD_map]
    refine lc_mapT (f := fun c => D.bl (isD c)) (fun c _ k hk => ?_) ?_
    · simp only [wSeq, wIf, wEvT, wEv, wEvL, wAsg, wAsgL, wRet, wRetN, wDrop, wNext, wBreak, wCont, wB, wAnd, wOr, wNot, wAndV, wOrV, wNotV, wIfE, wOp, wUn, wCa, wCaL, wM1, wM1L, wL, wLst, wTup, wNil, wCons, wC, wVar, wCall, wLen, wLc, wIt, wItT, wItS, wRng1, wRng2, wFor, wPart, wNo, wSlL, wSlS, wOpL, wAsgG, gN, gT, gCons', gNil', wApp, wSet, wYes, bodyD, startD, mask, aft, frz, Sl.d, Sl.own, xsc, fEq, fNe, fIn, fNotIn, fFind, fCount, fStarts, ex_bl, fI_ii, fI0_ii, fAdd_ii, fSub_ii, fAnd_ii, fOr_ii, fXor_ii, fLt_ii, fLe_ii, fGt_ii, fGe_ii, fMul_ii, fMod_ii, fDiv_ii, fPow_ii, fShl_ii, fShr_ii, fAddS_ss, fEqN_ii, fEqN_ss, fEqN_bb, fEqN_nn, fEqN_ni, fEqN_in, fIsN_n, fNotN_n, isN_n, isN_i, isN_s, isN_l, isN_t, scal_n, scal_i, scal_b, scal_s, scal_r, scal_l, scal_t, fLen_l, fLen_t, fLen_s, fAbs_i, fMin2_i, fMax2_i, fList_l, fList_t, fTuple_l, fTuple_t, fStrI_i, fCat_ll, fIx_l, fIx_t, fIx_s, fInN_l, fInN_t, fSplit_s, fPartition_s, fS2_s, isi_i1, isi_i2, isi_i3, isi_i4, isi_i5, isi_n1, isi_n2, isi_n3, isi_n4, isi_n5, isi_s1, isi_s5, isi_l1, isi_l3, isi_l4, isi_t1, isi_t3, isi_t4, List.getElem?_cons_zero, List.getElem?_cons_succ, List.getElem?_nil, List.set_cons_zero, List.set_cons_succ, List.length_cons, List.length_nil, List.map_cons, List.map_nil, List.cons_append, List.nil_append, List.replicate_succ, List.replicate_zero, Option.some.injEq, exists_eq_left', exists_eq_left, decide_eq_true_eq, Bool.not_eq_true', Bool.not_eq_true, decide_eq_false_iff_not, Bool.false_eq_true, if_false, if_true, if_false, ite_true, ite_false, Bool.not_true, Bool.not_false, Nat.reduceAdd, Nat.reduceSub, Nat.reduceMul, ite_self, true_and, and_true, reduceCtorEq, D.int.injEq, D.bl.injEq, D.str.injEq, D.lst.injEq, D.tup.injEq, D.ty.injEq, List.cons.injEq, and_self, List.all_cons, List.all_nil, Bool.and_true, Bool.and_self, Bool.true_and, Bool.and_false, Bool.false_and, List.not_mem_nil, not_false_eq_true, List.isEmpty_nil, List.mapIdx_cons, List.mapIdx_nil, List.mem_cons, or_false]
      rw [fInN_s, dig_mem]
      exact hk
    · rw [List.nil_append, show (fun c => D.bl (isD c)) = D.bl ∘ isD from rfl, ← List.map_map, fAll_l]
      have ea : (s.cps.toList.map isD).all id = s.cps.toList.all isD := by rw [List.all_map]; rfl
      rw [ea]
      refine ⟨_, rfl, ite2 (fun c3 => ?_) fun c3 => ⟨z, ?_⟩⟩
      · rw [numO_bad fun g => by unfold good at g; simp only [Bool.and_eq_true] at g; rw [g.1.2] at c3; cases c3] at h
        exact h
      · obtain ⟨c, r, er, ec⟩ := at0 (s := s) (by omega)
        have c3' : s.cps.toList.all isD = true := by
          cases e : s.cps.toList.all isD with
          | true => rfl
          | false => exact absurd e c3
        have hgood : ¬ (1 < s.length ∧ c = 48) → good s = true := fun hn => by
          unfold good
          simp only [Bool.and_eq_true, decide_eq_true_eq, c3', er, List.head?_cons, Bool.not_eq_true', Bool.and_eq_false_iff, decide_eq_false_iff_not]
          refine ⟨⟨⟨by omega, by omega⟩, er ▸ c3'⟩, ?_⟩
          by_cases h1 : 1 < s.length
          · right
            simp only [Option.some_beq_some, beq_eq_false_iff_ne]
            exact fun q => hn ⟨h1, q⟩
          · exact .inl h1
        refine ite2 (fun c4 => ⟨z, c, ec, ite2 (fun c5 => ?_) fun c5 => ?_⟩) fun c4 => ?_
        · rw [zero_eq] at c5
          rw [numO_bad fun g => by
            unfold good at g
            simp only [Bool.and_eq_true, er, List.head?_cons, c5, Option.some_beq_some, Bool.not_eq_true', Bool.and_eq_false_iff, decide_eq_false_iff_not, Bool.true_eq_false, or_false] at g
            omega] at h
          exact h
        · rw [zero_eq] at c5
          exact good_int (hgood fun q => c5 (by rw [q.2]; rfl)) h
        · exact good_int (hgood fun q => by omega) h

theorem h__law_figures : ∀ ds Q Z, sp__law_figures ds Q Z → ds.length = 1 ∧ wb__law_figures (bodyD Q Z) (startD scN__law_figures ds) := by
  rintro ds Q Z ⟨s, rfl, hs, h⟩
  refine ⟨rfl, ?_⟩
  have z := sz1 hs
  have bad : ¬ good s = true → Q .non := fun g => by rw [numO_bad g] at h; exact h
  have hc1 : good s = true → 1 ≤ s.length ∧ s.length ≤ 3 ∧ s.cps.toList.all isD = true ∧ ¬ (1 < s.length ∧ s.cps.toList.head? = some 48) := fun g => by
    unfold good at g
    simp only [Bool.and_eq_true, decide_eq_true_eq, Bool.not_eq_true', Bool.and_eq_false_iff, decide_eq_false_iff_not, beq_eq_false_iff_ne] at g
    exact ⟨g.1.1.1, g.1.1.2, g.1.2, fun q => g.2.elim (fun z => z q.1) fun z => z q.2⟩
  have hc2 : 1 ≤ s.length → s.length ≤ 3 → s.cps.toList.all isD = true → ¬ (1 < s.length ∧ s.cps.toList.head? = some 48) → good s = true := fun a b c d => by
    unfold good
    simp only [Bool.and_eq_true, decide_eq_true_eq, Bool.not_eq_true', Bool.and_eq_false_iff, decide_eq_false_iff_not, beq_eq_false_iff_ne]
    refine ⟨⟨⟨a, b⟩, c⟩, ?_⟩
    by_cases q : 1 < s.length
    · exact .inr fun z => d ⟨q, z⟩
    · exact .inl q
  unfold wb__law_figures
  by_cases c1 : (s.length : Int) < 1
  · simp only [wSeq, wIf, wEvT, wEv, wEvL, wAsg, wAsgL, wRet, wRetN, wDrop, wNext, wBreak, wCont, wB, wAnd, wOr, wNot, wAndV, wOrV, wNotV, wIfE, wOp, wUn, wCa, wCaL, wM1, wM1L, wL, wLst, wTup, wNil, wCons, wC, wVar, wCall, wLen, wLc, wIt, wItT, wItS, wRng1, wRng2, wFor, wPart, wNo, wSlL, wSlS, wOpL, wAsgG, gN, gT, gCons', gNil', wApp, wSet, wYes, bodyD, startD, mask, aft, frz, Sl.d, Sl.own, xsc, fEq, fNe, fIn, fNotIn, fFind, fCount, fStarts, ex_bl, fI_ii, fI0_ii, fAdd_ii, fSub_ii, fAnd_ii, fOr_ii, fXor_ii, fLt_ii, fLe_ii, fGt_ii, fGe_ii, fMul_ii, fMod_ii, fDiv_ii, fPow_ii, fShl_ii, fShr_ii, fAddS_ss, fEqN_ii, fEqN_ss, fEqN_bb, fEqN_nn, fEqN_ni, fEqN_in, fIsN_n, fNotN_n, isN_n, isN_i, isN_s, isN_l, isN_t, scal_n, scal_i, scal_b, scal_s, scal_r, scal_l, scal_t, fLen_l, fLen_t, fLen_s, fAbs_i, fMin2_i, fMax2_i, fList_l, fList_t, fTuple_l, fTuple_t, fStrI_i, fCat_ll, fIx_l, fIx_t, fIx_s, fInN_l, fInN_t, fSplit_s, fPartition_s, fS2_s, isi_i1, isi_i2, isi_i3, isi_i4, isi_i5, isi_n1, isi_n2, isi_n3, isi_n4, isi_n5, isi_s1, isi_s5, isi_l1, isi_l3, isi_l4, isi_t1, isi_t3, isi_t4, List.getElem?_cons_zero, List.getElem?_cons_succ, List.getElem?_nil, List.set_cons_zero, List.set_cons_succ, List.length_cons, List.length_nil, List.map_cons, List.map_nil, List.cons_append, List.nil_append, List.replicate_succ, List.replicate_zero, Option.some.injEq, exists_eq_left', exists_eq_left, decide_eq_true_eq, Bool.not_eq_true', Bool.not_eq_true, decide_eq_false_iff_not, Bool.false_eq_true, if_false, if_true, if_false, ite_true, ite_false, Bool.not_true, Bool.not_false, Nat.reduceAdd, Nat.reduceSub, Nat.reduceMul, ite_self, true_and, and_true, reduceCtorEq, D.int.injEq, D.bl.injEq, D.str.injEq, D.lst.injEq, D.tup.injEq, D.ty.injEq, List.cons.injEq, and_self, List.all_cons, List.all_nil, Bool.and_true, Bool.and_self, Bool.true_and, Bool.and_false, Bool.false_and, List.not_mem_nil, not_false_eq_true, List.isEmpty_nil, List.mapIdx_cons, List.mapIdx_nil, List.mem_cons, or_false, c1]
    exact ⟨z, bad fun g => by have := (hc1 g).1; omega⟩
  by_cases c2 : 3 < (s.length : Int)
  · simp only [wSeq, wIf, wEvT, wEv, wEvL, wAsg, wAsgL, wRet, wRetN, wDrop, wNext, wBreak, wCont, wB, wAnd, wOr, wNot, wAndV, wOrV, wNotV, wIfE, wOp, wUn, wCa, wCaL, wM1, wM1L, wL, wLst, wTup, wNil, wCons, wC, wVar, wCall, wLen, wLc, wIt, wItT, wItS, wRng1, wRng2, wFor, wPart, wNo, wSlL, wSlS, wOpL, wAsgG, gN, gT, gCons', gNil', wApp, wSet, wYes, bodyD, startD, mask, aft, frz, Sl.d, Sl.own, xsc, fEq, fNe, fIn, fNotIn, fFind, fCount, fStarts, ex_bl, fI_ii, fI0_ii, fAdd_ii, fSub_ii, fAnd_ii, fOr_ii, fXor_ii, fLt_ii, fLe_ii, fGt_ii, fGe_ii, fMul_ii, fMod_ii, fDiv_ii, fPow_ii, fShl_ii, fShr_ii, fAddS_ss, fEqN_ii, fEqN_ss, fEqN_bb, fEqN_nn, fEqN_ni, fEqN_in, fIsN_n, fNotN_n, isN_n, isN_i, isN_s, isN_l, isN_t, scal_n, scal_i, scal_b, scal_s, scal_r, scal_l, scal_t, fLen_l, fLen_t, fLen_s, fAbs_i, fMin2_i, fMax2_i, fList_l, fList_t, fTuple_l, fTuple_t, fStrI_i, fCat_ll, fIx_l, fIx_t, fIx_s, fInN_l, fInN_t, fSplit_s, fPartition_s, fS2_s, isi_i1, isi_i2, isi_i3, isi_i4, isi_i5, isi_n1, isi_n2, isi_n3, isi_n4, isi_n5, isi_s1, isi_s5, isi_l1, isi_l3, isi_l4, isi_t1, isi_t3, isi_t4, List.getElem?_cons_zero, List.getElem?_cons_succ, List.getElem?_nil, List.set_cons_zero, List.set_cons_succ, List.length_cons, List.length_nil, List.map_cons, List.map_nil, List.cons_append, List.nil_append, List.replicate_succ, List.replicate_zero, Option.some.injEq, exists_eq_left', exists_eq_left, decide_eq_true_eq, Bool.not_eq_true', Bool.not_eq_true, decide_eq_false_iff_not, Bool.false_eq_true, if_false, if_true, if_false, ite_true, ite_false, Bool.not_true, Bool.not_false, Nat.reduceAdd, Nat.reduceSub, Nat.reduceMul, ite_self, true_and, and_true, reduceCtorEq, D.int.injEq, D.bl.injEq, D.str.injEq, D.lst.injEq, D.tup.injEq, D.ty.injEq, List.cons.injEq, and_self, List.all_cons, List.all_nil, Bool.and_true, Bool.and_self, Bool.true_and, Bool.and_false, Bool.false_and, List.not_mem_nil, not_false_eq_true, List.isEmpty_nil, List.mapIdx_cons, List.mapIdx_nil, List.mem_cons, or_false, c1, c2]
    exact ⟨z, z, bad fun g => by have := (hc1 g).2.1; omega⟩
  obtain ⟨c, r, er, ec⟩ := at0 (s := s) (by omega)
  have eh : s.cps.toList.head? = some c := by rw [er]; rfl
  by_cases c3 : 1 < s.length ∧ c = 48
  · simp only [wSeq, wIf, wEvT, wEv, wEvL, wAsg, wAsgL, wRet, wRetN, wDrop, wNext, wBreak, wCont, wB, wAnd, wOr, wNot, wAndV, wOrV, wNotV, wIfE, wOp, wUn, wCa, wCaL, wM1, wM1L, wL, wLst, wTup, wNil, wCons, wC, wVar, wCall, wLen, wLc, wIt, wItT, wItS, wRng1, wRng2, wFor, wPart, wNo, wSlL, wSlS, wOpL, wAsgG, gN, gT, gCons', gNil', wApp, wSet, wYes, bodyD, startD, mask, aft, frz, Sl.d, Sl.own, xsc, fEq, fNe, fIn, fNotIn, fFind, fCount, fStarts, ex_bl, fI_ii, fI0_ii, fAdd_ii, fSub_ii, fAnd_ii, fOr_ii, fXor_ii, fLt_ii, fLe_ii, fGt_ii, fGe_ii, fMul_ii, fMod_ii, fDiv_ii, fPow_ii, fShl_ii, fShr_ii, fAddS_ss, fEqN_ii, fEqN_ss, fEqN_bb, fEqN_nn, fEqN_ni, fEqN_in, fIsN_n, fNotN_n, isN_n, isN_i, isN_s, isN_l, isN_t, scal_n, scal_i, scal_b, scal_s, scal_r, scal_l, scal_t, fLen_l, fLen_t, fLen_s, fAbs_i, fMin2_i, fMax2_i, fList_l, fList_t, fTuple_l, fTuple_t, fStrI_i, fCat_ll, fIx_l, fIx_t, fIx_s, fInN_l, fInN_t, fSplit_s, fPartition_s, fS2_s, isi_i1, isi_i2, isi_i3, isi_i4, isi_i5, isi_n1, isi_n2, isi_n3, isi_n4, isi_n5, isi_s1, isi_s5, isi_l1, isi_l3, isi_l4, isi_t1, isi_t3, isi_t4, List.getElem?_cons_zero, List.getElem?_cons_succ, List.getElem?_nil, List.set_cons_zero, List.set_cons_succ, List.length_cons, List.length_nil, List.map_cons, List.map_nil, List.cons_append, List.nil_append, List.replicate_succ, List.replicate_zero, Option.some.injEq, exists_eq_left', exists_eq_left, decide_eq_true_eq, Bool.not_eq_true', Bool.not_eq_true, decide_eq_false_iff_not, Bool.false_eq_true, if_false, if_true, if_false, ite_true, ite_false, Bool.not_true, Bool.not_false, Nat.reduceAdd, Nat.reduceSub, Nat.reduceMul, ite_self, true_and, and_true, reduceCtorEq, D.int.injEq, D.bl.injEq, D.str.injEq, D.lst.injEq, D.tup.injEq, D.ty.injEq, List.cons.injEq, and_self, List.all_cons, List.all_nil, Bool.and_true, Bool.and_self, Bool.true_and, Bool.and_false, Bool.false_and, List.not_mem_nil, not_false_eq_true, List.isEmpty_nil, List.mapIdx_cons, List.mapIdx_nil, List.mem_cons, or_false, c1, c2, show (1 : Int) < (s.length : Int) by omega]
    refine ⟨z, z, z, z, c, ec, ?_⟩
    rw [if_pos (by rw [zero_eq, c3.2]; rfl)]
    exact bad fun g => (hc1 g).2.2.2 ⟨c3.1, by rw [eh, c3.2]⟩
  refine seq_abs (env1 := [some (.fz (.str s)), none]) (fun nx hnx => ?_) ?_
  · simp only [wSeq, wIf, wEvT, wEv, wEvL, wAsg, wAsgL, wRet, wRetN, wDrop, wNext, wBreak, wCont, wB, wAnd, wOr, wNot, wAndV, wOrV, wNotV, wIfE, wOp, wUn, wCa, wCaL, wM1, wM1L, wL, wLst, wTup, wNil, wCons, wC, wVar, wCall, wLen, wLc, wIt, wItT, wItS, wRng1, wRng2, wFor, wPart, wNo, wSlL, wSlS, wOpL, wAsgG, gN, gT, gCons', gNil', wApp, wSet, wYes, bodyD, startD, mask, aft, frz, Sl.d, Sl.own, xsc, fEq, fNe, fIn, fNotIn, fFind, fCount, fStarts, ex_bl, fI_ii, fI0_ii, fAdd_ii, fSub_ii, fAnd_ii, fOr_ii, fXor_ii, fLt_ii, fLe_ii, fGt_ii, fGe_ii, fMul_ii, fMod_ii, fDiv_ii, fPow_ii, fShl_ii, fShr_ii, fAddS_ss, fEqN_ii, fEqN_ss, fEqN_bb, fEqN_nn, fEqN_ni, fEqN_in, fIsN_n, fNotN_n, isN_n, isN_i, isN_s, isN_l, isN_t, scal_n, scal_i, scal_b, scal_s, scal_r, scal_l, scal_t, fLen_l, fLen_t, fLen_s, fAbs_i, fMin2_i, fMax2_i, fList_l, fList_t, fTuple_l, fTuple_t, fStrI_i, fCat_ll, fIx_l, fIx_t, fIx_s, fInN_l, fInN_t, fSplit_s, fPartition_s, fS2_s, isi_i1, isi_i2, isi_i3, isi_i4, isi_i5, isi_n1, isi_n2, isi_n3, isi_n4, isi_n5, isi_s1, isi_s5, isi_l1, isi_l3, isi_l4, isi_t1, isi_t3, isi_t4, List.getElem?_cons_zero, List.getElem?_cons_succ, List.getElem?_nil, List.set_cons_zero, List.set_cons_succ, List.length_cons, List.length_nil, List.map_cons, List.map_nil, List.cons_append, List.nil_append, List.replicate_succ, List.replicate_zero, Option.some.injEq, exists_eq_left', exists_eq_left, decide_eq_true_eq, Bool.not_eq_true', Bool.not_eq_true, decide_eq_false_iff_not, Bool.false_eq_true, if_false, if_true, if_false, ite_true, ite_false, Bool.not_true, Bool.not_false, Nat.reduceAdd, Nat.reduceSub, Nat.reduceMul, ite_self, true_and, and_true, reduceCtorEq, D.int.injEq, D.bl.injEq, D.str.injEq, D.lst.injEq, D.tup.injEq, D.ty.injEq, List.cons.injEq, and_self, List.all_cons, List.all_nil, Bool.and_true, Bool.and_self, Bool.true_and, Bool.and_false, Bool.false_and, List.not_mem_nil, not_false_eq_true, List.isEmpty_nil, List.mapIdx_cons, List.mapIdx_nil, List.mem_cons, or_false, c1, c2]
    refine ⟨z, z, z, ite2 (fun c4 => ⟨z, c, ec, ?_⟩) fun _ => hnx⟩
    rw [if_neg (by rw [zero_eq]; intro q; exact c3 ⟨by omega, eq_of_beq q⟩)]
    exact hnx
  · simp only [wSeq, wIf, wEvT, wEv, wEvL, wAsg, wAsgL, wRet, wRetN, wDrop, wNext, wBreak, wCont, wB, wAnd, wOr, wNot, wAndV, wOrV, wNotV, wIfE, wOp, wUn, wCa, wCaL, wM1, wM1L, wL, wLst, wTup, wNil, wCons, wC, wVar, wCall, wLen, wLc, wIt, wItT, wItS, wRng1, wRng2, wFor, wPart, wNo, wSlL, wSlS, wOpL, wAsgG, gN, gT, gCons', gNil', wApp, wSet, wYes, bodyD, startD, mask, aft, frz, Sl.d, Sl.own, xsc, fEq, fNe, fIn, fNotIn, fFind, fCount, fStarts, ex_bl, fI_ii, fI0_ii, fAdd_ii, fSub_ii, fAnd_ii, fOr_ii, fXor_ii, fLt_ii, fLe_ii, fGt_ii, fGe_ii, fMul_ii, fMod_ii, fDiv_ii, fPow_ii, fShl_ii, fShr_ii, fAddS_ss, fEqN_ii, fEqN_ss, fEqN_bb, fEqN_nn, fEqN_ni, fEqN_in, fIsN_n, fNotN_n, isN_n, isN_i, isN_s, isN_l, isN_t, scal_n, scal_i, scal_b, scal_s, scal_r, scal_l, scal_t, fLen_l, fLen_t, fLen_s, fAbs_i, fMin2_i, fMax2_i, fList_l, fList_t, fTuple_l, fTuple_t, fStrI_i, fCat_ll, fIx_l, fIx_t, fIx_s, fInN_l, fInN_t, fSplit_s, fPartition_s, fS2_s, isi_i1, isi_i2, isi_i3, isi_i4, isi_i5, isi_n1, isi_n2, isi_n3, isi_n4, isi_n5, isi_s1, isi_s5, isi_l1, isi_l3, isi_l4, isi_t1, isi_t3, isi_t4, List.getElem?_cons_zero, List.getElem?_cons_succ, List.getElem?_nil, List.set_cons_zero, List.set_cons_succ, List.length_cons, List.length_nil, List.map_cons, List.map_nil, List.cons_append, List.nil_append, List.replicate_succ, List.replicate_zero, Option.some.injEq, exists_eq_left', exists_eq_left, decide_eq_true_eq, Bool.not_eq_true', Bool.not_eq_true, decide_eq_false_iff_not, Bool.false_eq_true, if_false, if_true, if_false, ite_true, ite_false, Bool.not_true, Bool.not_false, Nat.reduceAdd, Nat.reduceSub, Nat.reduceMul, ite_self, true_and, and_true, reduceCtorEq, D.int.injEq, D.bl.injEq, D.str.injEq, D.lst.injEq, D.tup.injEq, D.ty.injEq, List.cons.injEq, and_self, List.all_cons, List.all_nil, Bool.and_true, Bool.and_self, Bool.true_and, Bool.and_false, Bool.false_and, List.not_mem_nil, not_false_eq_true, List.isEmpty_nil, List.mapIdx_cons, List.mapIdx_nil, List.mem_cons, or_false, strD_map]
    refine ⟨z, loop_T (fun p env => (∃ o, env = [some (.fz (.str s)), o]) ∧ p.all isD = true) ⟨⟨_, rfl⟩, rfl⟩ (fun p x q env nx e hI hn => ?_) fun env hI => ?_⟩
    · obtain ⟨⟨o, rfl⟩, hp⟩ := hI
      simp only [wSeq, wIf, wEvT, wEv, wEvL, wAsg, wAsgL, wRet, wRetN, wDrop, wNext, wBreak, wCont, wB, wAnd, wOr, wNot, wAndV, wOrV, wNotV, wIfE, wOp, wUn, wCa, wCaL, wM1, wM1L, wL, wLst, wTup, wNil, wCons, wC, wVar, wCall, wLen, wLc, wIt, wItT, wItS, wRng1, wRng2, wFor, wPart, wNo, wSlL, wSlS, wOpL, wAsgG, gN, gT, gCons', gNil', wApp, wSet, wYes, bodyD, startD, mask, aft, frz, Sl.d, Sl.own, xsc, fEq, fNe, fIn, fNotIn, fFind, fCount, fStarts, ex_bl, fI_ii, fI0_ii, fAdd_ii, fSub_ii, fAnd_ii, fOr_ii, fXor_ii, fLt_ii, fLe_ii, fGt_ii, fGe_ii, fMul_ii, fMod_ii, fDiv_ii, fPow_ii, fShl_ii, fShr_ii, fAddS_ss, fEqN_ii, fEqN_ss, fEqN_bb, fEqN_nn, fEqN_ni, fEqN_in, fIsN_n, fNotN_n, isN_n, isN_i, isN_s, isN_l, isN_t, scal_n, scal_i, scal_b, scal_s, scal_r, scal_l, scal_t, fLen_l, fLen_t, fLen_s, fAbs_i, fMin2_i, fMax2_i, fList_l, fList_t, fTuple_l, fTuple_t, fStrI_i, fCat_ll, fIx_l, fIx_t, fIx_s, fInN_l, fInN_t, fSplit_s, fPartition_s, fS2_s, isi_i1, isi_i2, isi_i3, isi_i4, isi_i5, isi_n1, isi_n2, isi_n3, isi_n4, isi_n5, isi_s1, isi_s5, isi_l1, isi_l3, isi_l4, isi_t1, isi_t3, isi_t4, List.getElem?_cons_zero, List.getElem?_cons_succ, List.getElem?_nil, List.set_cons_zero, List.set_cons_succ, List.length_cons, List.length_nil, List.map_cons, List.map_nil, List.cons_append, List.nil_append, List.replicate_succ, List.replicate_zero, Option.some.injEq, exists_eq_left', exists_eq_left, decide_eq_true_eq, Bool.not_eq_true', Bool.not_eq_true, decide_eq_false_iff_not, Bool.false_eq_true, if_false, if_true, if_false, ite_true, ite_false, Bool.not_true, Bool.not_false, Nat.reduceAdd, Nat.reduceSub, Nat.reduceMul, ite_self, true_and, and_true, reduceCtorEq, D.int.injEq, D.bl.injEq, D.str.injEq, D.lst.injEq, D.tup.injEq, D.ty.injEq, List.cons.injEq, and_self, List.all_cons, List.all_nil, Bool.and_true, Bool.and_self, Bool.true_and, Bool.and_false, Bool.false_and, List.not_mem_nil, not_false_eq_true, List.isEmpty_nil, List.mapIdx_cons, List.mapIdx_nil, List.mem_cons, or_false]
      rw [fInN_s, dig_mem]
      cases hx : isD x with
      | true => exact ⟨_, rfl, hn _ ⟨⟨_, rfl⟩, by rw [List.all_append, hp]; simp [hx]⟩⟩
      | false =>
        refine ⟨_, rfl, bad fun g => ?_⟩
        have := List.all_eq_true.mp (hc1 g).2.2.1 x (by rw [e]; simp)
        rw [hx] at this
        cases this
    · obtain ⟨⟨o, rfl⟩, hp⟩ := hI
      simp only [wSeq, wIf, wEvT, wEv, wEvL, wAsg, wAsgL, wRet, wRetN, wDrop, wNext, wBreak, wCont, wB, wAnd, wOr, wNot, wAndV, wOrV, wNotV, wIfE, wOp, wUn, wCa, wCaL, wM1, wM1L, wL, wLst, wTup, wNil, wCons, wC, wVar, wCall, wLen, wLc, wIt, wItT, wItS, wRng1, wRng2, wFor, wPart, wNo, wSlL, wSlS, wOpL, wAsgG, gN, gT, gCons', gNil', wApp, wSet, wYes, bodyD, startD, mask, aft, frz, Sl.d, Sl.own, xsc, fEq, fNe, fIn, fNotIn, fFind, fCount, fStarts, ex_bl, fI_ii, fI0_ii, fAdd_ii, fSub_ii, fAnd_ii, fOr_ii, fXor_ii, fLt_ii, fLe_ii, fGt_ii, fGe_ii, fMul_ii, fMod_ii, fDiv_ii, fPow_ii, fShl_ii, fShr_ii, fAddS_ss, fEqN_ii, fEqN_ss, fEqN_bb, fEqN_nn, fEqN_ni, fEqN_in, fIsN_n, fNotN_n, isN_n, isN_i, isN_s, isN_l, isN_t, scal_n, scal_i, scal_b, scal_s, scal_r, scal_l, scal_t, fLen_l, fLen_t, fLen_s, fAbs_i, fMin2_i, fMax2_i, fList_l, fList_t, fTuple_l, fTuple_t, fStrI_i, fCat_ll, fIx_l, fIx_t, fIx_s, fInN_l, fInN_t, fSplit_s, fPartition_s, fS2_s, isi_i1, isi_i2, isi_i3, isi_i4, isi_i5, isi_n1, isi_n2, isi_n3, isi_n4, isi_n5, isi_s1, isi_s5, isi_l1, isi_l3, isi_l4, isi_t1, isi_t3, isi_t4, List.getElem?_cons_zero, List.getElem?_cons_succ, List.getElem?_nil, List.set_cons_zero, List.set_cons_succ, List.length_cons, List.length_nil, List.map_cons, List.map_nil, List.cons_append, List.nil_append, List.replicate_succ, List.replicate_zero, Option.some.injEq, exists_eq_left', exists_eq_left, decide_eq_true_eq, Bool.not_eq_true', Bool.not_eq_true, decide_eq_false_iff_not, Bool.false_eq_true, if_false, if_true, if_false, ite_true, ite_false, Bool.not_true, Bool.not_false, Nat.reduceAdd, Nat.reduceSub, Nat.reduceMul, ite_self, true_and, and_true, reduceCtorEq, D.int.injEq, D.bl.injEq, D.str.injEq, D.lst.injEq, D.tup.injEq, D.ty.injEq, List.cons.injEq, and_self, List.all_cons, List.all_nil, Bool.and_true, Bool.and_self, Bool.true_and, Bool.and_false, Bool.false_and, List.not_mem_nil, not_false_eq_true, List.isEmpty_nil, List.mapIdx_cons, List.mapIdx_nil, List.mem_cons, or_false]
      exact good_int (hc2 (by omega) (by omega) hp fun q => c3 ⟨q.1, by rw [eh] at q; exact Option.some.inj q.2⟩) h
theorem h__law_cell_at : ∀ ds Q Z, sp__law_cell_at ds Q Z → ds.length = 2 ∧ wb__law_cell_at (bodyD Q Z) (startD scN__law_cell_at ds) := by
  rintro ds Q Z ⟨ns, k, rfl, hk, h⟩
  refine ⟨rfl, ?_⟩
  simp only [wb__law_cell_at, wSeq, wIf, wEvT, wEv, wEvL, wAsg, wAsgL, wRet, wRetN, wDrop, wNext, wBreak, wCont, wB, wAnd, wOr, wNot, wAndV, wOrV, wNotV, wIfE, wOp, wUn, wCa, wCaL, wM1, wM1L, wL, wLst, wTup, wNil, wCons, wC, wVar, wCall, wLen, wLc, wIt, wItT, wItS, wRng1, wRng2, wFor, wPart, wNo, wSlL, wSlS, wOpL, wAsgG, gN, gT, gCons', gNil', wApp, wSet, wYes, bodyD, startD, mask, aft, frz, Sl.d, Sl.own, xsc, fEq, fNe, fIn, fNotIn, fFind, fCount, fStarts, ex_bl, fI_ii, fI0_ii, fAdd_ii, fSub_ii, fAnd_ii, fOr_ii, fXor_ii, fLt_ii, fLe_ii, fGt_ii, fGe_ii, fMul_ii, fMod_ii, fDiv_ii, fPow_ii, fShl_ii, fShr_ii, fAddS_ss, fEqN_ii, fEqN_ss, fEqN_bb, fEqN_nn, fEqN_ni, fEqN_in, fIsN_n, fNotN_n, isN_n, isN_i, isN_s, isN_l, isN_t, scal_n, scal_i, scal_b, scal_s, scal_r, scal_l, scal_t, fLen_l, fLen_t, fLen_s, fAbs_i, fMin2_i, fMax2_i, fList_l, fList_t, fTuple_l, fTuple_t, fStrI_i, fCat_ll, fIx_l, fIx_t, fIx_s, fInN_l, fInN_t, fSplit_s, fPartition_s, fS2_s, isi_i1, isi_i2, isi_i3, isi_i4, isi_i5, isi_n1, isi_n2, isi_n3, isi_n4, isi_n5, isi_s1, isi_s5, isi_l1, isi_l3, isi_l4, isi_t1, isi_t3, isi_t4, List.getElem?_cons_zero, List.getElem?_cons_succ, List.getElem?_nil, List.set_cons_zero, List.set_cons_succ, List.length_cons, List.length_nil, List.map_cons, List.map_nil, List.cons_append, List.nil_append, List.replicate_succ, List.replicate_zero, Option.some.injEq, exists_eq_left', exists_eq_left, decide_eq_true_eq, Bool.not_eq_true', Bool.not_eq_true, decide_eq_false_iff_not, Bool.false_eq_true, if_false, if_true, if_false, ite_true, ite_false, Bool.not_true, Bool.not_false, Nat.reduceAdd, Nat.reduceSub, Nat.reduceMul, ite_self, true_and, and_true, reduceCtorEq, D.int.injEq, D.bl.injEq, D.str.injEq, D.lst.injEq, D.tup.injEq, D.ty.injEq, List.cons.injEq, and_self, List.all_cons, List.all_nil, Bool.and_true, Bool.and_self, Bool.true_and, Bool.and_false, Bool.false_and, List.not_mem_nil, not_false_eq_true, List.isEmpty_nil, List.mapIdx_cons, List.mapIdx_nil, List.mem_cons, or_false]
  rw [List.length_map]
  unfold cellAt at h
  refine ite2 (fun c1 => ?_) fun c1 => ?_
  · obtain ⟨d, e1, e2⟩ := atI_ok (xs := ns.map D.int) hk (by rw [List.length_map]; exact c1)
    refine ⟨d, e1, ?_⟩
    rw [List.getElem?_map] at e2
    cases e3 : ns[k.toNat]? with
    | none => rw [e3] at e2; cases e2
    | some i =>
      rw [e3] at e2 h
      cases e2
      exact h
  · rw [List.getElem?_eq_none (by omega)] at h
    exact h
theorem h__law_number : ∀ ds Q Z, sp__law_number ds Q Z → ds.length = 1 ∧ wb__law_number (bodyD Q Z) (startD scN__law_number ds) := by
  rintro ds Q Z ⟨c, rfl, h⟩
  refine ⟨rfl, ?_⟩
  simp only [wb__law_number, wSeq, wIf, wEvT, wEv, wEvL, wAsg, wAsgL, wRet, wRetN, wDrop, wNext, wBreak, wCont, wB, wAnd, wOr, wNot, wAndV, wOrV, wNotV, wIfE, wOp, wUn, wCa, wCaL, wM1, wM1L, wL, wLst, wTup, wNil, wCons, wC, wVar, wCall, wLen, wLc, wIt, wItT, wItS, wRng1, wRng2, wFor, wPart, wNo, wSlL, wSlS, wOpL, wAsgG, gN, gT, gCons', gNil', wApp, wSet, wYes, bodyD, startD, mask, aft, frz, Sl.d, Sl.own, xsc, fEq, fNe, fIn, fNotIn, fFind, fCount, fStarts, ex_bl, fI_ii, fI0_ii, fAdd_ii, fSub_ii, fAnd_ii, fOr_ii, fXor_ii, fLt_ii, fLe_ii, fGt_ii, fGe_ii, fMul_ii, fMod_ii, fDiv_ii, fPow_ii, fShl_ii, fShr_ii, fAddS_ss, fEqN_ii, fEqN_ss, fEqN_bb, fEqN_nn, fEqN_ni, fEqN_in, fIsN_n, fNotN_n, isN_n, isN_i, isN_s, isN_l, isN_t, scal_n, scal_i, scal_b, scal_s, scal_r, scal_l, scal_t, fLen_l, fLen_t, fLen_s, fAbs_i, fMin2_i, fMax2_i, fList_l, fList_t, fTuple_l, fTuple_t, fStrI_i, fCat_ll, fIx_l, fIx_t, fIx_s, fInN_l, fInN_t, fSplit_s, fPartition_s, fS2_s, isi_i1, isi_i2, isi_i3, isi_i4, isi_i5, isi_n1, isi_n2, isi_n3, isi_n4, isi_n5, isi_s1, isi_s5, isi_l1, isi_l3, isi_l4, isi_t1, isi_t3, isi_t4, List.getElem?_cons_zero, List.getElem?_cons_succ, List.getElem?_nil, List.set_cons_zero, List.set_cons_succ, List.length_cons, List.length_nil, List.map_cons, List.map_nil, List.cons_append, List.nil_append, List.replicate_succ, List.replicate_zero, Option.some.injEq, exists_eq_left', exists_eq_left, decide_eq_true_eq, Bool.not_eq_true', Bool.not_eq_true, decide_eq_false_iff_not, Bool.false_eq_true, if_false, if_true, if_false, ite_true, ite_false, Bool.not_true, Bool.not_false, Nat.reduceAdd, Nat.reduceSub, Nat.reduceMul, ite_self, true_and, and_true, reduceCtorEq, D.int.injEq, D.bl.injEq, D.str.injEq, D.lst.injEq, D.tup.injEq, D.ty.injEq, List.cons.injEq, and_self, List.all_cons, List.all_nil, Bool.and_true, Bool.and_self, Bool.true_and, Bool.and_false, Bool.false_and, List.not_mem_nil, not_false_eq_true, List.isEmpty_nil, List.mapIdx_cons, List.mapIdx_nil, List.mem_cons, or_false]
  exact ⟨by decide, .inr ⟨by decide, by decide⟩, by decide, h⟩
theorem h__law_whole : ∀ ds Q Z, sp__law_whole ds Q Z → ds.length = 1 ∧ wb__law_whole (bodyD Q Z) (startD scN__law_whole ds) := by
  rintro ds Q Z ⟨o, rfl, h⟩
  refine ⟨rfl, ?_⟩
  cases o with
  | none => simp only [wb__law_whole, oD, wSeq, wIf, wEvT, wEv, wEvL, wAsg, wAsgL, wRet, wRetN, wDrop, wNext, wBreak, wCont, wB, wAnd, wOr, wNot, wAndV, wOrV, wNotV, wIfE, wOp, wUn, wCa, wCaL, wM1, wM1L, wL, wLst, wTup, wNil, wCons, wC, wVar, wCall, wLen, wLc, wIt, wItT, wItS, wRng1, wRng2, wFor, wPart, wNo, wSlL, wSlS, wOpL, wAsgG, gN, gT, gCons', gNil', wApp, wSet, wYes, bodyD, startD, mask, aft, frz, Sl.d, Sl.own, xsc, fEq, fNe, fIn, fNotIn, fFind, fCount, fStarts, ex_bl, fI_ii, fI0_ii, fAdd_ii, fSub_ii, fAnd_ii, fOr_ii, fXor_ii, fLt_ii, fLe_ii, fGt_ii, fGe_ii, fMul_ii, fMod_ii, fDiv_ii, fPow_ii, fShl_ii, fShr_ii, fAddS_ss, fEqN_ii, fEqN_ss, fEqN_bb, fEqN_nn, fEqN_ni, fEqN_in, fIsN_n, fNotN_n, isN_n, isN_i, isN_s, isN_l, isN_t, scal_n, scal_i, scal_b, scal_s, scal_r, scal_l, scal_t, fLen_l, fLen_t, fLen_s, fAbs_i, fMin2_i, fMax2_i, fList_l, fList_t, fTuple_l, fTuple_t, fStrI_i, fCat_ll, fIx_l, fIx_t, fIx_s, fInN_l, fInN_t, fSplit_s, fPartition_s, fS2_s, isi_i1, isi_i2, isi_i3, isi_i4, isi_i5, isi_n1, isi_n2, isi_n3, isi_n4, isi_n5, isi_s1, isi_s5, isi_l1, isi_l3, isi_l4, isi_t1, isi_t3, isi_t4, List.getElem?_cons_zero, List.getElem?_cons_succ, List.getElem?_nil, List.set_cons_zero, List.set_cons_succ, List.length_cons, List.length_nil, List.map_cons, List.map_nil, List.cons_append, List.nil_append, List.replicate_succ, List.replicate_zero, Option.some.injEq, exists_eq_left', exists_eq_left, decide_eq_true_eq, Bool.not_eq_true', Bool.not_eq_true, decide_eq_false_iff_not, Bool.false_eq_true, if_false, if_true, if_false, ite_true, ite_false, Bool.not_true, Bool.not_false, Nat.reduceAdd, Nat.reduceSub, Nat.reduceMul, ite_self, true_and, and_true, reduceCtorEq, D.int.injEq, D.bl.injEq, D.str.injEq, D.lst.injEq, D.tup.injEq, D.ty.injEq, List.cons.injEq, and_self, List.all_cons, List.all_nil, Bool.and_true, Bool.and_self, Bool.true_and, Bool.and_false, Bool.false_and, List.not_mem_nil, not_false_eq_true, List.isEmpty_nil, List.mapIdx_cons, List.mapIdx_nil, List.mem_cons, or_false]; exact h
  | some i => simp only [wb__law_whole, oD, wSeq, wIf, wEvT, wEv, wEvL, wAsg, wAsgL, wRet, wRetN, wDrop, wNext, wBreak, wCont, wB, wAnd, wOr, wNot, wAndV, wOrV, wNotV, wIfE, wOp, wUn, wCa, wCaL, wM1, wM1L, wL, wLst, wTup, wNil, wCons, wC, wVar, wCall, wLen, wLc, wIt, wItT, wItS, wRng1, wRng2, wFor, wPart, wNo, wSlL, wSlS, wOpL, wAsgG, gN, gT, gCons', gNil', wApp, wSet, wYes, bodyD, startD, mask, aft, frz, Sl.d, Sl.own, xsc, fEq, fNe, fIn, fNotIn, fFind, fCount, fStarts, ex_bl, fI_ii, fI0_ii, fAdd_ii, fSub_ii, fAnd_ii, fOr_ii, fXor_ii, fLt_ii, fLe_ii, fGt_ii, fGe_ii, fMul_ii, fMod_ii, fDiv_ii, fPow_ii, fShl_ii, fShr_ii, fAddS_ss, fEqN_ii, fEqN_ss, fEqN_bb, fEqN_nn, fEqN_ni, fEqN_in, fIsN_n, fNotN_n, isN_n, isN_i, isN_s, isN_l, isN_t, scal_n, scal_i, scal_b, scal_s, scal_r, scal_l, scal_t, fLen_l, fLen_t, fLen_s, fAbs_i, fMin2_i, fMax2_i, fList_l, fList_t, fTuple_l, fTuple_t, fStrI_i, fCat_ll, fIx_l, fIx_t, fIx_s, fInN_l, fInN_t, fSplit_s, fPartition_s, fS2_s, isi_i1, isi_i2, isi_i3, isi_i4, isi_i5, isi_n1, isi_n2, isi_n3, isi_n4, isi_n5, isi_s1, isi_s5, isi_l1, isi_l3, isi_l4, isi_t1, isi_t3, isi_t4, List.getElem?_cons_zero, List.getElem?_cons_succ, List.getElem?_nil, List.set_cons_zero, List.set_cons_succ, List.length_cons, List.length_nil, List.map_cons, List.map_nil, List.cons_append, List.nil_append, List.replicate_succ, List.replicate_zero, Option.some.injEq, exists_eq_left', exists_eq_left, decide_eq_true_eq, Bool.not_eq_true', Bool.not_eq_true, decide_eq_false_iff_not, Bool.false_eq_true, if_false, if_true, if_false, ite_true, ite_false, Bool.not_true, Bool.not_false, Nat.reduceAdd, Nat.reduceSub, Nat.reduceMul, ite_self, true_and, and_true, reduceCtorEq, D.int.injEq, D.bl.injEq, D.str.injEq, D.lst.injEq, D.tup.injEq, D.ty.injEq, List.cons.injEq, and_self, List.all_cons, List.all_nil, Bool.and_true, Bool.and_self, Bool.true_and, Bool.and_false, Bool.false_and, List.not_mem_nil, not_false_eq_true, List.isEmpty_nil, List.mapIdx_cons, List.mapIdx_nil, List.mem_cons, or_false]; exact h
theorem h_listed : ∀ ds Q Z, sp_listed ds Q Z → ds.length = 1 ∧ wb_listed (bodyD Q Z) (startD scN_listed ds) := by
  rintro ds Q Z ⟨s, rfl, hs, hn, h⟩
  refine ⟨rfl, ?_⟩
  simp only [wb_listed, wSeq, wIf, wEvT, wEv, wEvL, wAsg, wAsgL, wRet, wRetN, wDrop, wNext, wBreak, wCont, wB, wAnd, wOr, wNot, wAndV, wOrV, wNotV, wIfE, wOp, wUn, wCa, wCaL, wM1, wM1L, wL, wLst, wTup, wNil, wCons, wC, wVar, wCall, wLen, wLc, wIt, wItT, wItS, wRng1, wRng2, wFor, wPart, wNo, wSlL, wSlS, wOpL, wAsgG, gN, gT, gCons', gNil', wApp, wSet, wYes, bodyD, startD, mask, aft, frz, Sl.d, Sl.own, xsc, fEq, fNe, fIn, fNotIn, fFind, fCount, fStarts, ex_bl, fI_ii, fI0_ii, fAdd_ii, fSub_ii, fAnd_ii, fOr_ii, fXor_ii, fLt_ii, fLe_ii, fGt_ii, fGe_ii, fMul_ii, fMod_ii, fDiv_ii, fPow_ii, fShl_ii, fShr_ii, fAddS_ss, fEqN_ii, fEqN_ss, fEqN_bb, fEqN_nn, fEqN_ni, fEqN_in, fIsN_n, fNotN_n, isN_n, isN_i, isN_s, isN_l, isN_t, scal_n, scal_i, scal_b, scal_s, scal_r, scal_l, scal_t, fLen_l, fLen_t, fLen_s, fAbs_i, fMin2_i, fMax2_i, fList_l, fList_t, fTuple_l, fTuple_t, fStrI_i, fCat_ll, fIx_l, fIx_t, fIx_s, fInN_l, fInN_t, fSplit_s, fPartition_s, fS2_s, isi_i1, isi_i2, isi_i3, isi_i4, isi_i5, isi_n1, isi_n2, isi_n3, isi_n4, isi_n5, isi_s1, isi_s5, isi_l1, isi_l3, isi_l4, isi_t1, isi_t3, isi_t4, List.getElem?_cons_zero, List.getElem?_cons_succ, List.getElem?_nil, List.set_cons_zero, List.set_cons_succ, List.length_cons, List.length_nil, List.map_cons, List.map_nil, List.cons_append, List.nil_append, List.replicate_succ, List.replicate_zero, Option.some.injEq, exists_eq_left', exists_eq_left, decide_eq_true_eq, Bool.not_eq_true', Bool.not_eq_true, decide_eq_false_iff_not, Bool.false_eq_true, if_false, if_true, if_false, ite_true, ite_false, Bool.not_true, Bool.not_false, Nat.reduceAdd, Nat.reduceSub, Nat.reduceMul, ite_self, true_and, and_true, reduceCtorEq, D.int.injEq, D.bl.injEq, D.str.injEq, D.lst.injEq, D.tup.injEq, D.ty.injEq, List.cons.injEq, and_self, List.all_cons, List.all_nil, Bool.and_true, Bool.and_self, Bool.true_and, Bool.and_false, Bool.false_and, List.not_mem_nil, not_false_eq_true, List.isEmpty_nil, List.mapIdx_cons, List.mapIdx_nil, List.mem_cons, or_false]
  refine ⟨Nat.zero_le _, ?_⟩
  refine fEqN_ints (ys := []) ?_
  refine ⟨_, rfl, ?_⟩
  unfold shown at h
  by_cases hs0 : s = []
  · subst hs0
    exact h
  · rw [if_neg hs0] at h
    rw [if_neg (by simpa using hs0)]
    refine lc_mapT (f := fun n => D.str (PySem.Str.ofString (toString n))) (fun n hin k hk => ?_) ?_
    · simp only [wSeq, wIf, wEvT, wEv, wEvL, wAsg, wAsgL, wRet, wRetN, wDrop, wNext, wBreak, wCont, wB, wAnd, wOr, wNot, wAndV, wOrV, wNotV, wIfE, wOp, wUn, wCa, wCaL, wM1, wM1L, wL, wLst, wTup, wNil, wCons, wC, wVar, wCall, wLen, wLc, wIt, wItT, wItS, wRng1, wRng2, wFor, wPart, wNo, wSlL, wSlS, wOpL, wAsgG, gN, gT, gCons', gNil', wApp, wSet, wYes, bodyD, startD, mask, aft, frz, Sl.d, Sl.own, xsc, fEq, fNe, fIn, fNotIn, fFind, fCount, fStarts, ex_bl, fI_ii, fI0_ii, fAdd_ii, fSub_ii, fAnd_ii, fOr_ii, fXor_ii, fLt_ii, fLe_ii, fGt_ii, fGe_ii, fMul_ii, fMod_ii, fDiv_ii, fPow_ii, fShl_ii, fShr_ii, fAddS_ss, fEqN_ii, fEqN_ss, fEqN_bb, fEqN_nn, fEqN_ni, fEqN_in, fIsN_n, fNotN_n, isN_n, isN_i, isN_s, isN_l, isN_t, scal_n, scal_i, scal_b, scal_s, scal_r, scal_l, scal_t, fLen_l, fLen_t, fLen_s, fAbs_i, fMin2_i, fMax2_i, fList_l, fList_t, fTuple_l, fTuple_t, fStrI_i, fCat_ll, fIx_l, fIx_t, fIx_s, fInN_l, fInN_t, fSplit_s, fPartition_s, fS2_s, isi_i1, isi_i2, isi_i3, isi_i4, isi_i5, isi_n1, isi_n2, isi_n3, isi_n4, isi_n5, isi_s1, isi_s5, isi_l1, isi_l3, isi_l4, isi_t1, isi_t3, isi_t4, List.getElem?_cons_zero, List.getElem?_cons_succ, List.getElem?_nil, List.set_cons_zero, List.set_cons_succ, List.length_cons, List.length_nil, List.map_cons, List.map_nil, List.cons_append, List.nil_append, List.replicate_succ, List.replicate_zero, Option.some.injEq, exists_eq_left', exists_eq_left, decide_eq_true_eq, Bool.not_eq_true', Bool.not_eq_true, decide_eq_false_iff_not, Bool.false_eq_true, if_false, if_true, if_false, ite_true, ite_false, Bool.not_true, Bool.not_false, Nat.reduceAdd, Nat.reduceSub, Nat.reduceMul, ite_self, true_and, and_true, reduceCtorEq, D.int.injEq, D.bl.injEq, D.str.injEq, D.lst.injEq, D.tup.injEq, D.ty.injEq, List.cons.injEq, and_self, List.all_cons, List.all_nil, Bool.and_true, Bool.and_self, Bool.true_and, Bool.and_false, Bool.false_and, List.not_mem_nil, not_false_eq_true, List.isEmpty_nil, List.mapIdx_cons, List.mapIdx_nil, List.mem_cons, or_false]
      refine ⟨?_, hk⟩
      have := hn n hin
      have h2 : n.natAbs < 2 ^ 14 := by omega
      have : n.natAbs.log2 < 14 := by
        by_cases h0 : n.natAbs = 0
        · rw [h0]; decide
        · exact (Nat.log2_lt h0).mpr h2
      omega
    · refine ⟨s.map fun n => PySem.Str.ofString (toString n), .inl ?_, ?_, h⟩
      · rw [List.nil_append, List.map_map]
        rfl
      · have : ∀ l : List Int, (∀ n ∈ l, 0 ≤ n ∧ n < 10000) → ((l.map fun n => PySem.Str.ofString (toString n)).map (·.length)).sum ≤ 4 * l.length := by
          intro l
          induction l with
          | nil => intro _; exact Nat.le_refl _
          | cons n l ih =>
            intro hl
            have h1 := ih fun m hm => hl m (List.mem_cons_of_mem _ hm)
            have h2 := hl n (by simp)
            have h3 : (PySem.Str.ofString (toString n)).length ≤ 4 := toString_length_le h2.1 (by decide) (by omega)
            simp only [List.map_cons, List.sum_cons, List.length_cons] at h1 ⊢
            omega
        have h1 := this s hn
        have h2 : (PySem.Str.ofString ",").length = 1 := by decide +kernel
        rw [List.length_map, h2]
        omega
theorem isNone_flat (l : List (Option Int)) : (l.map oD).all D.flat = true ∧ inD .non (l.map oD) = l.any Option.isNone := by
  induction l with
  | nil => exact ⟨rfl, rfl⟩
  | cons o l ih =>
    obtain ⟨a, b⟩ := ih
    constructor
    · rw [List.map_cons, List.all_cons, a]
      cases o <;> rfl
    · unfold inD at b ⊢
      rw [List.map_cons, List.any_cons, List.any_cons, b]
      cases o <;> rfl
theorem some_of_all : ∀ {l : List (Option Int)}, l.any Option.isNone = false → l.map oD = (l.filterMap id).map D.int
  | [], _ => rfl
  | none :: l, h => by simp at h
  | some i :: l, h => by
    have h2 : l.any Option.isNone = false := by simpa using h
    rw [List.map_cons, some_of_all h2]
    rfl
theorem split_map (s : Str) : List.map D.str (Txt.split s (Str.ofString ",")) = (Txt.split s (Str.ofString ",")).map D.str := rfl
theorem h_numbers_of : ∀ ds Q Z, sp_numbers_of ds Q Z → ds.length = 1 ∧ wb_numbers_of sp_number_of (bodyD Q Z) (startD scN_numbers_of ds) := by
  rintro ds Q Z ⟨s, rfl, hs, h⟩
  refine ⟨rfl, ?_⟩
  simp only [wb_numbers_of, wSeq, wIf, wEvT, wEv, wEvL, wAsg, wAsgL, wRet, wRetN, wDrop, wNext, wBreak, wCont, wB, wAnd, wOr, wNot, wAndV, wOrV, wNotV, wIfE, wOp, wUn, wCa, wCaL, wM1, wM1L, wL, wLst, wTup, wNil, wCons, wC, wVar, wCall, wLen, wLc, wIt, wItT, wItS, wRng1, wRng2, wFor, wPart, wNo, wSlL, wSlS, wOpL, wAsgG, gN, gT, gCons', gNil', wApp, wSet, wYes, bodyD, startD, mask, aft, frz, Sl.d, Sl.own, xsc, fEq, fNe, fIn, fNotIn, fFind, fCount, fStarts, ex_bl, fI_ii, fI0_ii, fAdd_ii, fSub_ii, fAnd_ii, fOr_ii, fXor_ii, fLt_ii, fLe_ii, fGt_ii, fGe_ii, fMul_ii, fMod_ii, fDiv_ii, fPow_ii, fShl_ii, fShr_ii, fAddS_ss, fEqN_ii, fEqN_ss, fEqN_bb, fEqN_nn, fEqN_ni, fEqN_in, fIsN_n, fNotN_n, isN_n, isN_i, isN_s, isN_l, isN_t, scal_n, scal_i, scal_b, scal_s, scal_r, scal_l, scal_t, fLen_l, fLen_t, fLen_s, fAbs_i, fMin2_i, fMax2_i, fList_l, fList_t, fTuple_l, fTuple_t, fStrI_i, fCat_ll, fIx_l, fIx_t, fIx_s, fInN_l, fInN_t, fSplit_s, fPartition_s, fS2_s, isi_i1, isi_i2, isi_i3, isi_i4, isi_i5, isi_n1, isi_n2, isi_n3, isi_n4, isi_n5, isi_s1, isi_s5, isi_l1, isi_l3, isi_l4, isi_t1, isi_t3, isi_t4, List.getElem?_cons_zero, List.getElem?_cons_succ, List.getElem?_nil, List.set_cons_zero, List.set_cons_succ, List.length_cons, List.length_nil, List.map_cons, List.map_nil, List.cons_append, List.nil_append, List.replicate_succ, List.replicate_zero, Option.some.injEq, exists_eq_left', exists_eq_left, decide_eq_true_eq, Bool.not_eq_true', Bool.not_eq_true, decide_eq_false_iff_not, Bool.false_eq_true, if_false, if_true, if_false, ite_true, ite_false, Bool.not_true, Bool.not_false, Nat.reduceAdd, Nat.reduceSub, Nat.reduceMul, ite_self, true_and, and_true, reduceCtorEq, D.int.injEq, D.bl.injEq, D.str.injEq, D.lst.injEq, D.tup.injEq, D.ty.injEq, List.cons.injEq, and_self, List.all_cons, List.all_nil, Bool.and_true, Bool.and_self, Bool.true_and, Bool.and_false, Bool.false_and, List.not_mem_nil, not_false_eq_true, List.isEmpty_nil, List.mapIdx_cons, List.mapIdx_nil, List.mem_cons, or_false]
  refine ⟨by decide +kernel, sz_m (by omega), ?_⟩
  refine lc_mapT (f := fun p => oD (numO p)) (fun p hp k hk => ?_) ?_
  · simp only [wSeq, wIf, wEvT, wEv, wEvL, wAsg, wAsgL, wRet, wRetN, wDrop, wNext, wBreak, wCont, wB, wAnd, wOr, wNot, wAndV, wOrV, wNotV, wIfE, wOp, wUn, wCa, wCaL, wM1, wM1L, wL, wLst, wTup, wNil, wCons, wC, wVar, wCall, wLen, wLc, wIt, wItT, wItS, wRng1, wRng2, wFor, wPart, wNo, wSlL, wSlS, wOpL, wAsgG, gN, gT, gCons', gNil', wApp, wSet, wYes, bodyD, startD, mask, aft, frz, Sl.d, Sl.own, xsc, fEq, fNe, fIn, fNotIn, fFind, fCount, fStarts, ex_bl, fI_ii, fI0_ii, fAdd_ii, fSub_ii, fAnd_ii, fOr_ii, fXor_ii, fLt_ii, fLe_ii, fGt_ii, fGe_ii, fMul_ii, fMod_ii, fDiv_ii, fPow_ii, fShl_ii, fShr_ii, fAddS_ss, fEqN_ii, fEqN_ss, fEqN_bb, fEqN_nn, fEqN_ni, fEqN_in, fIsN_n, fNotN_n, isN_n, isN_i, isN_s, isN_l, isN_t, scal_n, scal_i, scal_b, scal_s, scal_r, scal_l, scal_t, fLen_l, fLen_t, fLen_s, fAbs_i, fMin2_i, fMax2_i, fList_l, fList_t, fTuple_l, fTuple_t, fStrI_i, fCat_ll, fIx_l, fIx_t, fIx_s, fInN_l, fInN_t, fSplit_s, fPartition_s, fS2_s, isi_i1, isi_i2, isi_i3, isi_i4, isi_i5, isi_n1, isi_n2, isi_n3, isi_n4, isi_n5, isi_s1, isi_s5, isi_l1, isi_l3, isi_l4, isi_t1, isi_t3, isi_t4, List.getElem?_cons_zero, List.getElem?_cons_succ, List.getElem?_nil, List.set_cons_zero, List.set_cons_succ, List.length_cons, List.length_nil, List.map_cons, List.map_nil, List.cons_append, List.nil_append, List.replicate_succ, List.replicate_zero, Option.some.injEq, exists_eq_left', exists_eq_left, decide_eq_true_eq, Bool.not_eq_true', Bool.not_eq_true, decide_eq_false_iff_not, Bool.false_eq_true, if_false, if_true, if_false, ite_true, ite_false, Bool.not_true, Bool.not_false, Nat.reduceAdd, Nat.reduceSub, Nat.reduceMul, ite_self, true_and, and_true, reduceCtorEq, D.int.injEq, D.bl.injEq, D.str.injEq, D.lst.injEq, D.tup.injEq, D.ty.injEq, List.cons.injEq, and_self, List.all_cons, List.all_nil, Bool.and_true, Bool.and_self, Bool.true_and, Bool.and_false, Bool.false_and, List.not_mem_nil, not_false_eq_true, List.isEmpty_nil, List.mapIdx_cons, List.mapIdx_nil, List.mem_cons, or_false]
    exact ⟨p, rfl, Nat.le_trans (split_len comma_ne (by decide +kernel) hp) hs, hk⟩
  · have em : (Txt.split s (Str.ofString ",")).map (fun p => oD (numO p)) = ((Txt.split s (Str.ofString ",")).map numO).map oD := by rw [List.map_map]; rfl
    rw [List.nil_append, em]
    unfold numsO at h
    generalize (Txt.split s (Str.ofString ",")).map numO = l at h ⊢
    obtain ⟨a, b⟩ := isNone_flat l
    refine ⟨rfl, a, ?_⟩
    rw [b]
    refine ite2 (fun c1 => ?_) fun c1 => ite2 (fun c2 => ?_) fun c2 => ?_
    · rw [if_pos (.inl c1)] at h
      exact h
    · rw [if_pos (.inr (by rw [List.length_map] at c2; omega))] at h
      exact h
    · rw [if_neg (by rw [List.length_map] at c2; rintro (q | q); exact c1 q; omega)] at h
      rw [some_of_all ((Bool.not_eq_true _).mp c1)]
      exact h
theorem h__law_numbers : ∀ ds Q Z, sp__law_numbers ds Q Z → ds.length = 1 ∧ wb__law_numbers sp__law_figures (bodyD Q Z) (startD scN__law_numbers ds) := by
  rintro ds Q Z ⟨s, rfl, hs, h⟩
  refine ⟨rfl, ?_⟩
  simp only [wb__law_numbers, wSeq, wIf, wEvT, wEv, wEvL, wAsg, wAsgL, wRet, wRetN, wDrop, wNext, wBreak, wCont, wB, wAnd, wOr, wNot, wAndV, wOrV, wNotV, wIfE, wOp, wUn, wCa, wCaL, wM1, wM1L, wL, wLst, wTup, wNil, wCons, wC, wVar, wCall, wLen, wLc, wIt, wItT, wItS, wRng1, wRng2, wFor, wPart, wNo, wSlL, wSlS, wOpL, wAsgG, gN, gT, gCons', gNil', wApp, wSet, wYes, bodyD, startD, mask, aft, frz, Sl.d, Sl.own, xsc, fEq, fNe, fIn, fNotIn, fFind, fCount, fStarts, ex_bl, fI_ii, fI0_ii, fAdd_ii, fSub_ii, fAnd_ii, fOr_ii, fXor_ii, fLt_ii, fLe_ii, fGt_ii, fGe_ii, fMul_ii, fMod_ii, fDiv_ii, fPow_ii, fShl_ii, fShr_ii, fAddS_ss, fEqN_ii, fEqN_ss, fEqN_bb, fEqN_nn, fEqN_ni, fEqN_in, fIsN_n, fNotN_n, isN_n, isN_i, isN_s, isN_l, isN_t, scal_n, scal_i, scal_b, scal_s, scal_r, scal_l, scal_t, fLen_l, fLen_t, fLen_s, fAbs_i, fMin2_i, fMax2_i, fList_l, fList_t, fTuple_l, fTuple_t, fStrI_i, fCat_ll, fIx_l, fIx_t, fIx_s, fInN_l, fInN_t, fSplit_s, fPartition_s, fS2_s, isi_i1, isi_i2, isi_i3, isi_i4, isi_i5, isi_n1, isi_n2, isi_n3, isi_n4, isi_n5, isi_s1, isi_s5, isi_l1, isi_l3, isi_l4, isi_t1, isi_t3, isi_t4, List.getElem?_cons_zero, List.getElem?_cons_succ, List.getElem?_nil, List.set_cons_zero, List.set_cons_succ, List.length_cons, List.length_nil, List.map_cons, List.map_nil, List.cons_append, List.nil_append, List.replicate_succ, List.replicate_zero, Option.some.injEq, exists_eq_left', exists_eq_left, decide_eq_true_eq, Bool.not_eq_true', Bool.not_eq_true, decide_eq_false_iff_not, Bool.false_eq_true, if_false, if_true, if_false, ite_true, ite_false, Bool.not_true, Bool.not_false, Nat.reduceAdd, Nat.reduceSub, Nat.reduceMul, ite_self, true_and, and_true, reduceCtorEq, D.int.injEq, D.bl.injEq, D.str.injEq, D.lst.injEq, D.tup.injEq, D.ty.injEq, List.cons.injEq, and_self, List.all_cons, List.all_nil, Bool.and_true, Bool.and_self, Bool.true_and, Bool.and_false, Bool.false_and, List.not_mem_nil, not_false_eq_true, List.isEmpty_nil, List.mapIdx_cons, List.mapIdx_nil, List.mem_cons, or_false]
  refine ⟨by decide +kernel, sz_m (by omega), ?_⟩
  refine lc_mapT (f := fun p => oD (numO p)) (fun p hp k hk => ?_) ?_
  · simp only [wSeq, wIf, wEvT, wEv, wEvL, wAsg, wAsgL, wRet, wRetN, wDrop, wNext, wBreak, wCont, wB, wAnd, wOr, wNot, wAndV, wOrV, wNotV, wIfE, wOp, wUn, wCa, wCaL, wM1, wM1L, wL, wLst, wTup, wNil, wCons, wC, wVar, wCall, wLen, wLc, wIt, wItT, wItS, wRng1, wRng2, wFor, wPart, wNo, wSlL, wSlS, wOpL, wAsgG, gN, gT, gCons', gNil', wApp, wSet, wYes, bodyD, startD, mask, aft, frz, Sl.d, Sl.own, xsc, fEq, fNe, fIn, fNotIn, fFind, fCount, fStarts, ex_bl, fI_ii, fI0_ii, fAdd_ii, fSub_ii, fAnd_ii, fOr_ii, fXor_ii, fLt_ii, fLe_ii, fGt_ii, fGe_ii, fMul_ii, fMod_ii, fDiv_ii, fPow_ii, fShl_ii, fShr_ii, fAddS_ss, fEqN_ii, fEqN_ss, fEqN_bb, fEqN_nn, fEqN_ni, fEqN_in, fIsN_n, fNotN_n, isN_n, isN_i, isN_s, isN_l, isN_t, scal_n, scal_i, scal_b, scal_s, scal_r, scal_l, scal_t, fLen_l, fLen_t, fLen_s, fAbs_i, fMin2_i, fMax2_i, fList_l, fList_t, fTuple_l, fTuple_t, fStrI_i, fCat_ll, fIx_l, fIx_t, fIx_s, fInN_l, fInN_t, fSplit_s, fPartition_s, fS2_s, isi_i1, isi_i2, isi_i3, isi_i4, isi_i5, isi_n1, isi_n2, isi_n3, isi_n4, isi_n5, isi_s1, isi_s5, isi_l1, isi_l3, isi_l4, isi_t1, isi_t3, isi_t4, List.getElem?_cons_zero, List.getElem?_cons_succ, List.getElem?_nil, List.set_cons_zero, List.set_cons_succ, List.length_cons, List.length_nil, List.map_cons, List.map_nil, List.cons_append, List.nil_append, List.replicate_succ, List.replicate_zero, Option.some.injEq, exists_eq_left', exists_eq_left, decide_eq_true_eq, Bool.not_eq_true', Bool.not_eq_true, decide_eq_false_iff_not, Bool.false_eq_true, if_false, if_true, if_false, ite_true, ite_false, Bool.not_true, Bool.not_false, Nat.reduceAdd, Nat.reduceSub, Nat.reduceMul, ite_self, true_and, and_true, reduceCtorEq, D.int.injEq, D.bl.injEq, D.str.injEq, D.lst.injEq, D.tup.injEq, D.ty.injEq, List.cons.injEq, and_self, List.all_cons, List.all_nil, Bool.and_true, Bool.and_self, Bool.true_and, Bool.and_false, Bool.false_and, List.not_mem_nil, not_false_eq_true, List.isEmpty_nil, List.mapIdx_cons, List.mapIdx_nil, List.mem_cons, or_false]
    exact ⟨p, rfl, Nat.le_trans (split_len comma_ne (by decide +kernel) hp) hs, hk⟩
  · have em : (Txt.split s (Str.ofString ",")).map (fun p => oD (numO p)) = ((Txt.split s (Str.ofString ",")).map numO).map oD := by rw [List.map_map]; rfl
    rw [List.nil_append, em]
    unfold numsO at h
    generalize (Txt.split s (Str.ofString ",")).map numO = l at h ⊢
    refine ite2 (fun c2 => ?_) fun c2 => ?_
    · rw [if_pos (.inr (by rw [List.length_map] at c2; omega))] at h
      exact h
    · refine lc_nameT (p := Option.isNone) (f := oD) (fun o _ k hk => ?_) (fun o _ _ k hk => ?_) ?_
      · simp only [wSeq, wIf, wEvT, wEv, wEvL, wAsg, wAsgL, wRet, wRetN, wDrop, wNext, wBreak, wCont, wB, wAnd, wOr, wNot, wAndV, wOrV, wNotV, wIfE, wOp, wUn, wCa, wCaL, wM1, wM1L, wL, wLst, wTup, wNil, wCons, wC, wVar, wCall, wLen, wLc, wIt, wItT, wItS, wRng1, wRng2, wFor, wPart, wNo, wSlL, wSlS, wOpL, wAsgG, gN, gT, gCons', gNil', wApp, wSet, wYes, bodyD, startD, mask, aft, frz, Sl.d, Sl.own, xsc, fEq, fNe, fIn, fNotIn, fFind, fCount, fStarts, ex_bl, fI_ii, fI0_ii, fAdd_ii, fSub_ii, fAnd_ii, fOr_ii, fXor_ii, fLt_ii, fLe_ii, fGt_ii, fGe_ii, fMul_ii, fMod_ii, fDiv_ii, fPow_ii, fShl_ii, fShr_ii, fAddS_ss, fEqN_ii, fEqN_ss, fEqN_bb, fEqN_nn, fEqN_ni, fEqN_in, fIsN_n, fNotN_n, isN_n, isN_i, isN_s, isN_l, isN_t, scal_n, scal_i, scal_b, scal_s, scal_r, scal_l, scal_t, fLen_l, fLen_t, fLen_s, fAbs_i, fMin2_i, fMax2_i, fList_l, fList_t, fTuple_l, fTuple_t, fStrI_i, fCat_ll, fIx_l, fIx_t, fIx_s, fInN_l, fInN_t, fSplit_s, fPartition_s, fS2_s, isi_i1, isi_i2, isi_i3, isi_i4, isi_i5, isi_n1, isi_n2, isi_n3, isi_n4, isi_n5, isi_s1, isi_s5, isi_l1, isi_l3, isi_l4, isi_t1, isi_t3, isi_t4, List.getElem?_cons_zero, List.getElem?_cons_succ, List.getElem?_nil, List.set_cons_zero, List.set_cons_succ, List.length_cons, List.length_nil, List.map_cons, List.map_nil, List.cons_append, List.nil_append, List.replicate_succ, List.replicate_zero, Option.some.injEq, exists_eq_left', exists_eq_left, decide_eq_true_eq, Bool.not_eq_true', Bool.not_eq_true, decide_eq_false_iff_not, Bool.false_eq_true, if_false, if_true, if_false, ite_true, ite_false, Bool.not_true, Bool.not_false, Nat.reduceAdd, Nat.reduceSub, Nat.reduceMul, ite_self, true_and, and_true, reduceCtorEq, D.int.injEq, D.bl.injEq, D.str.injEq, D.lst.injEq, D.tup.injEq, D.ty.injEq, List.cons.injEq, and_self, List.all_cons, List.all_nil, Bool.and_true, Bool.and_self, Bool.true_and, Bool.and_false, Bool.false_and, List.not_mem_nil, not_false_eq_true, List.isEmpty_nil, List.mapIdx_cons, List.mapIdx_nil, List.mem_cons, or_false]
        cases o <;> exact hk
      · simp only [wSeq, wIf, wEvT, wEv, wEvL, wAsg, wAsgL, wRet, wRetN, wDrop, wNext, wBreak, wCont, wB, wAnd, wOr, wNot, wAndV, wOrV, wNotV, wIfE, wOp, wUn, wCa, wCaL, wM1, wM1L, wL, wLst, wTup, wNil, wCons, wC, wVar, wCall, wLen, wLc, wIt, wItT, wItS, wRng1, wRng2, wFor, wPart, wNo, wSlL, wSlS, wOpL, wAsgG, gN, gT, gCons', gNil', wApp, wSet, wYes, bodyD, startD, mask, aft, frz, Sl.d, Sl.own, xsc, fEq, fNe, fIn, fNotIn, fFind, fCount, fStarts, ex_bl, fI_ii, fI0_ii, fAdd_ii, fSub_ii, fAnd_ii, fOr_ii, fXor_ii, fLt_ii, fLe_ii, fGt_ii, fGe_ii, fMul_ii, fMod_ii, fDiv_ii, fPow_ii, fShl_ii, fShr_ii, fAddS_ss, fEqN_ii, fEqN_ss, fEqN_bb, fEqN_nn, fEqN_ni, fEqN_in, fIsN_n, fNotN_n, isN_n, isN_i, isN_s, isN_l, isN_t, scal_n, scal_i, scal_b, scal_s, scal_r, scal_l, scal_t, fLen_l, fLen_t, fLen_s, fAbs_i, fMin2_i, fMax2_i, fList_l, fList_t, fTuple_l, fTuple_t, fStrI_i, fCat_ll, fIx_l, fIx_t, fIx_s, fInN_l, fInN_t, fSplit_s, fPartition_s, fS2_s, isi_i1, isi_i2, isi_i3, isi_i4, isi_i5, isi_n1, isi_n2, isi_n3, isi_n4, isi_n5, isi_s1, isi_s5, isi_l1, isi_l3, isi_l4, isi_t1, isi_t3, isi_t4, List.getElem?_cons_zero, List.getElem?_cons_succ, List.getElem?_nil, List.set_cons_zero, List.set_cons_succ, List.length_cons, List.length_nil, List.map_cons, List.map_nil, List.cons_append, List.nil_append, List.replicate_succ, List.replicate_zero, Option.some.injEq, exists_eq_left', exists_eq_left, decide_eq_true_eq, Bool.not_eq_true', Bool.not_eq_true, decide_eq_false_iff_not, Bool.false_eq_true, if_false, if_true, if_false, ite_true, ite_false, Bool.not_true, Bool.not_false, Nat.reduceAdd, Nat.reduceSub, Nat.reduceMul, ite_self, true_and, and_true, reduceCtorEq, D.int.injEq, D.bl.injEq, D.str.injEq, D.lst.injEq, D.tup.injEq, D.ty.injEq, List.cons.injEq, and_self, List.all_cons, List.all_nil, Bool.and_true, Bool.and_self, Bool.true_and, Bool.and_false, Bool.false_and, List.not_mem_nil, not_false_eq_true, List.isEmpty_nil, List.mapIdx_cons, List.mapIdx_nil, List.mem_cons, or_false]
        exact hk
      · refine ⟨Nat.zero_le _, fEqN_nil ?_ ⟨_, rfl, ?_⟩⟩
        · rw [List.nil_append, List.all_map, List.all_eq_true]
          intro o _
          cases o <;> rfl
        · rw [List.nil_append]
          cases hn : l.any Option.isNone with
          | true =>
            rw [if_pos (.inl hn)] at h
            obtain ⟨o, ho, hb⟩ := List.any_eq_true.mp hn
            have : (List.map oD (List.filter Option.isNone l)).isEmpty = false := by
              have hm : o ∈ List.filter Option.isNone l := List.mem_filter.mpr ⟨ho, hb⟩
              cases e : List.filter Option.isNone l with
              | nil => rw [e] at hm; cases hm
              | cons _ _ => rfl
            rw [this]
            exact h
          | false =>
            rw [if_neg (by rw [List.length_map] at c2; rintro (q | q); (rw [hn] at q; cases q); omega)] at h
            have : List.filter Option.isNone l = [] := by
              rw [List.filter_eq_nil_iff]
              intro o ho hb
              have := List.any_eq_true.mpr ⟨o, ho, hb⟩
              rw [hn] at this
              cases this
            rw [this, some_of_all hn]
            exact h
theorem h_ask_of : ∀ ds Q Z, sp_ask_of ds Q Z → ds.length = 1 ∧ wb_ask_of sp_number_of sp_numbers_of (bodyD Q Z) (startD scN_ask_of ds) := by
  rintro ds Q Z ⟨s, rfl, hs, h⟩
  refine ⟨rfl, ?_⟩
  have hp := PySem.StrLaws.partition_sum s (Str.ofString ">")
  unfold askO at h
  unfold wb_ask_of
  generalize ep : Txt.partition s (Str.ofString ">") = p at h hp
  obtain ⟨p1, p2, p3⟩ := p
  have hl : p1.length ≤ 1000000 ∧ p3.length ≤ 1000000 := by
    have : (p1 ++ p2 ++ p3).length = s.length := congrArg Str.length hp
    have e : (p1 ++ p2 ++ p3).length = p1.length + p2.length + p3.length := by simp [Str.length, Str.cps_append, Nat.add_assoc]
    omega
  refine seq_abs (env1 := [some (.fz (.str s)), some (.fz (.str p1)), some (.fz (.str p2)), some (.fz (.str p3)), none, none]) (fun nx hnx => ?_) ?_
  · simp only [wSeq, wIf, wEvT, wEv, wEvL, wAsg, wAsgL, wRet, wRetN, wDrop, wNext, wBreak, wCont, wB, wAnd, wOr, wNot, wAndV, wOrV, wNotV, wIfE, wOp, wUn, wCa, wCaL, wM1, wM1L, wL, wLst, wTup, wNil, wCons, wC, wVar, wCall, wLen, wLc, wIt, wItT, wItS, wRng1, wRng2, wFor, wPart, wNo, wSlL, wSlS, wOpL, wAsgG, gN, gT, gCons', gNil', wApp, wSet, wYes, bodyD, startD, mask, aft, frz, Sl.d, Sl.own, xsc, fEq, fNe, fIn, fNotIn, fFind, fCount, fStarts, ex_bl, fI_ii, fI0_ii, fAdd_ii, fSub_ii, fAnd_ii, fOr_ii, fXor_ii, fLt_ii, fLe_ii, fGt_ii, fGe_ii, fMul_ii, fMod_ii, fDiv_ii, fPow_ii, fShl_ii, fShr_ii, fAddS_ss, fEqN_ii, fEqN_ss, fEqN_bb, fEqN_nn, fEqN_ni, fEqN_in, fIsN_n, fNotN_n, isN_n, isN_i, isN_s, isN_l, isN_t, scal_n, scal_i, scal_b, scal_s, scal_r, scal_l, scal_t, fLen_l, fLen_t, fLen_s, fAbs_i, fMin2_i, fMax2_i, fList_l, fList_t, fTuple_l, fTuple_t, fStrI_i, fCat_ll, fIx_l, fIx_t, fIx_s, fInN_l, fInN_t, fSplit_s, fPartition_s, fS2_s, isi_i1, isi_i2, isi_i3, isi_i4, isi_i5, isi_n1, isi_n2, isi_n3, isi_n4, isi_n5, isi_s1, isi_s5, isi_l1, isi_l3, isi_l4, isi_t1, isi_t3, isi_t4, List.getElem?_cons_zero, List.getElem?_cons_succ, List.getElem?_nil, List.set_cons_zero, List.set_cons_succ, List.length_cons, List.length_nil, List.map_cons, List.map_nil, List.cons_append, List.nil_append, List.replicate_succ, List.replicate_zero, Option.some.injEq, exists_eq_left', exists_eq_left, decide_eq_true_eq, Bool.not_eq_true', Bool.not_eq_true, decide_eq_false_iff_not, Bool.false_eq_true, if_false, if_true, if_false, ite_true, ite_false, Bool.not_true, Bool.not_false, Nat.reduceAdd, Nat.reduceSub, Nat.reduceMul, ite_self, true_and, and_true, reduceCtorEq, D.int.injEq, D.bl.injEq, D.str.injEq, D.lst.injEq, D.tup.injEq, D.ty.injEq, List.cons.injEq, and_self, List.all_cons, List.all_nil, Bool.and_true, Bool.and_self, Bool.true_and, Bool.and_false, Bool.false_and, List.not_mem_nil, not_false_eq_true, List.isEmpty_nil, List.mapIdx_cons, List.mapIdx_nil, List.mem_cons, or_false]
    refine ⟨by decide +kernel, sz1 hs, ?_⟩
    rw [ep]
    exact ⟨_, _, ⟨rfl, rfl⟩, _, _, rfl, _, _, rfl, rfl, hnx⟩
  · simp only [wSeq, wIf, wEvT, wEv, wEvL, wAsg, wAsgL, wRet, wRetN, wDrop, wNext, wBreak, wCont, wB, wAnd, wOr, wNot, wAndV, wOrV, wNotV, wIfE, wOp, wUn, wCa, wCaL, wM1, wM1L, wL, wLst, wTup, wNil, wCons, wC, wVar, wCall, wLen, wLc, wIt, wItT, wItS, wRng1, wRng2, wFor, wPart, wNo, wSlL, wSlS, wOpL, wAsgG, gN, gT, gCons', gNil', wApp, wSet, wYes, bodyD, startD, mask, aft, frz, Sl.d, Sl.own, xsc, fEq, fNe, fIn, fNotIn, fFind, fCount, fStarts, ex_bl, fI_ii, fI0_ii, fAdd_ii, fSub_ii, fAnd_ii, fOr_ii, fXor_ii, fLt_ii, fLe_ii, fGt_ii, fGe_ii, fMul_ii, fMod_ii, fDiv_ii, fPow_ii, fShl_ii, fShr_ii, fAddS_ss, fEqN_ii, fEqN_ss, fEqN_bb, fEqN_nn, fEqN_ni, fEqN_in, fIsN_n, fNotN_n, isN_n, isN_i, isN_s, isN_l, isN_t, scal_n, scal_i, scal_b, scal_s, scal_r, scal_l, scal_t, fLen_l, fLen_t, fLen_s, fAbs_i, fMin2_i, fMax2_i, fList_l, fList_t, fTuple_l, fTuple_t, fStrI_i, fCat_ll, fIx_l, fIx_t, fIx_s, fInN_l, fInN_t, fSplit_s, fPartition_s, fS2_s, isi_i1, isi_i2, isi_i3, isi_i4, isi_i5, isi_n1, isi_n2, isi_n3, isi_n4, isi_n5, isi_s1, isi_s5, isi_l1, isi_l3, isi_l4, isi_t1, isi_t3, isi_t4, List.getElem?_cons_zero, List.getElem?_cons_succ, List.getElem?_nil, List.set_cons_zero, List.set_cons_succ, List.length_cons, List.length_nil, List.map_cons, List.map_nil, List.cons_append, List.nil_append, List.replicate_succ, List.replicate_zero, Option.some.injEq, exists_eq_left', exists_eq_left, decide_eq_true_eq, Bool.not_eq_true', Bool.not_eq_true, decide_eq_false_iff_not, Bool.false_eq_true, if_false, if_true, if_false, ite_true, ite_false, Bool.not_true, Bool.not_false, Nat.reduceAdd, Nat.reduceSub, Nat.reduceMul, ite_self, true_and, and_true, reduceCtorEq, D.int.injEq, D.bl.injEq, D.str.injEq, D.lst.injEq, D.tup.injEq, D.ty.injEq, List.cons.injEq, and_self, List.all_cons, List.all_nil, Bool.and_true, Bool.and_self, Bool.true_and, Bool.and_false, Bool.false_and, List.not_mem_nil, not_false_eq_true, List.isEmpty_nil, List.mapIdx_cons, List.mapIdx_nil, List.mem_cons, or_false]
    refine ⟨p1, rfl, hl.1, p3, rfl, hl.2, ?_⟩
    revert h
    show Q (aD ((numO p1).bind fun c => (numsO p3).map fun l => (c, l))) → _
    cases numO p1 <;> cases numsO p3 <;> intro h <;> first
      | exact h
      | exact ⟨(by decide : 2 ≤ sizeLine), h⟩
theorem h__law_told_list : ∀ ds Q Z, sp__law_told_list ds Q Z → ds.length = 2 ∧ wb__law_told_list sp__law_whole (bodyD Q Z) (startD scN__law_told_list ds) := by
  rintro ds Q Z ⟨a, b, rfl, h⟩
  refine ⟨rfl, ?_⟩
  cases a with
  | none =>
    cases b with
    | none => simp only [wb__law_told_list, lD, wSeq, wIf, wEvT, wEv, wEvL, wAsg, wAsgL, wRet, wRetN, wDrop, wNext, wBreak, wCont, wB, wAnd, wOr, wNot, wAndV, wOrV, wNotV, wIfE, wOp, wUn, wCa, wCaL, wM1, wM1L, wL, wLst, wTup, wNil, wCons, wC, wVar, wCall, wLen, wLc, wIt, wItT, wItS, wRng1, wRng2, wFor, wPart, wNo, wSlL, wSlS, wOpL, wAsgG, gN, gT, gCons', gNil', wApp, wSet, wYes, bodyD, startD, mask, aft, frz, Sl.d, Sl.own, xsc, fEq, fNe, fIn, fNotIn, fFind, fCount, fStarts, ex_bl, fI_ii, fI0_ii, fAdd_ii, fSub_ii, fAnd_ii, fOr_ii, fXor_ii, fLt_ii, fLe_ii, fGt_ii, fGe_ii, fMul_ii, fMod_ii, fDiv_ii, fPow_ii, fShl_ii, fShr_ii, fAddS_ss, fEqN_ii, fEqN_ss, fEqN_bb, fEqN_nn, fEqN_ni, fEqN_in, fIsN_n, fNotN_n, isN_n, isN_i, isN_s, isN_l, isN_t, scal_n, scal_i, scal_b, scal_s, scal_r, scal_l, scal_t, fLen_l, fLen_t, fLen_s, fAbs_i, fMin2_i, fMax2_i, fList_l, fList_t, fTuple_l, fTuple_t, fStrI_i, fCat_ll, fIx_l, fIx_t, fIx_s, fInN_l, fInN_t, fSplit_s, fPartition_s, fS2_s, isi_i1, isi_i2, isi_i3, isi_i4, isi_i5, isi_n1, isi_n2, isi_n3, isi_n4, isi_n5, isi_s1, isi_s5, isi_l1, isi_l3, isi_l4, isi_t1, isi_t3, isi_t4, List.getElem?_cons_zero, List.getElem?_cons_succ, List.getElem?_nil, List.set_cons_zero, List.set_cons_succ, List.length_cons, List.length_nil, List.map_cons, List.map_nil, List.cons_append, List.nil_append, List.replicate_succ, List.replicate_zero, Option.some.injEq, exists_eq_left', exists_eq_left, decide_eq_true_eq, Bool.not_eq_true', Bool.not_eq_true, decide_eq_false_iff_not, Bool.false_eq_true, if_false, if_true, if_false, ite_true, ite_false, Bool.not_true, Bool.not_false, Nat.reduceAdd, Nat.reduceSub, Nat.reduceMul, ite_self, true_and, and_true, reduceCtorEq, D.int.injEq, D.bl.injEq, D.str.injEq, D.lst.injEq, D.tup.injEq, D.ty.injEq, List.cons.injEq, and_self, List.all_cons, List.all_nil, Bool.and_true, Bool.and_self, Bool.true_and, Bool.and_false, Bool.false_and, List.not_mem_nil, not_false_eq_true, List.isEmpty_nil, List.mapIdx_cons, List.mapIdx_nil, List.mem_cons, or_false]; exact h
    | some b => simp only [wb__law_told_list, lD, wSeq, wIf, wEvT, wEv, wEvL, wAsg, wAsgL, wRet, wRetN, wDrop, wNext, wBreak, wCont, wB, wAnd, wOr, wNot, wAndV, wOrV, wNotV, wIfE, wOp, wUn, wCa, wCaL, wM1, wM1L, wL, wLst, wTup, wNil, wCons, wC, wVar, wCall, wLen, wLc, wIt, wItT, wItS, wRng1, wRng2, wFor, wPart, wNo, wSlL, wSlS, wOpL, wAsgG, gN, gT, gCons', gNil', wApp, wSet, wYes, bodyD, startD, mask, aft, frz, Sl.d, Sl.own, xsc, fEq, fNe, fIn, fNotIn, fFind, fCount, fStarts, ex_bl, fI_ii, fI0_ii, fAdd_ii, fSub_ii, fAnd_ii, fOr_ii, fXor_ii, fLt_ii, fLe_ii, fGt_ii, fGe_ii, fMul_ii, fMod_ii, fDiv_ii, fPow_ii, fShl_ii, fShr_ii, fAddS_ss, fEqN_ii, fEqN_ss, fEqN_bb, fEqN_nn, fEqN_ni, fEqN_in, fIsN_n, fNotN_n, isN_n, isN_i, isN_s, isN_l, isN_t, scal_n, scal_i, scal_b, scal_s, scal_r, scal_l, scal_t, fLen_l, fLen_t, fLen_s, fAbs_i, fMin2_i, fMax2_i, fList_l, fList_t, fTuple_l, fTuple_t, fStrI_i, fCat_ll, fIx_l, fIx_t, fIx_s, fInN_l, fInN_t, fSplit_s, fPartition_s, fS2_s, isi_i1, isi_i2, isi_i3, isi_i4, isi_i5, isi_n1, isi_n2, isi_n3, isi_n4, isi_n5, isi_s1, isi_s5, isi_l1, isi_l3, isi_l4, isi_t1, isi_t3, isi_t4, List.getElem?_cons_zero, List.getElem?_cons_succ, List.getElem?_nil, List.set_cons_zero, List.set_cons_succ, List.length_cons, List.length_nil, List.map_cons, List.map_nil, List.cons_append, List.nil_append, List.replicate_succ, List.replicate_zero, Option.some.injEq, exists_eq_left', exists_eq_left, decide_eq_true_eq, Bool.not_eq_true', Bool.not_eq_true, decide_eq_false_iff_not, Bool.false_eq_true, if_false, if_true, if_false, ite_true, ite_false, Bool.not_true, Bool.not_false, Nat.reduceAdd, Nat.reduceSub, Nat.reduceMul, ite_self, true_and, and_true, reduceCtorEq, D.int.injEq, D.bl.injEq, D.str.injEq, D.lst.injEq, D.tup.injEq, D.ty.injEq, List.cons.injEq, and_self, List.all_cons, List.all_nil, Bool.and_true, Bool.and_self, Bool.true_and, Bool.and_false, Bool.false_and, List.not_mem_nil, not_false_eq_true, List.isEmpty_nil, List.mapIdx_cons, List.mapIdx_nil, List.mem_cons, or_false]; exact h
  | some a =>
    cases b with
    | none => simp only [wb__law_told_list, lD, wSeq, wIf, wEvT, wEv, wEvL, wAsg, wAsgL, wRet, wRetN, wDrop, wNext, wBreak, wCont, wB, wAnd, wOr, wNot, wAndV, wOrV, wNotV, wIfE, wOp, wUn, wCa, wCaL, wM1, wM1L, wL, wLst, wTup, wNil, wCons, wC, wVar, wCall, wLen, wLc, wIt, wItT, wItS, wRng1, wRng2, wFor, wPart, wNo, wSlL, wSlS, wOpL, wAsgG, gN, gT, gCons', gNil', wApp, wSet, wYes, bodyD, startD, mask, aft, frz, Sl.d, Sl.own, xsc, fEq, fNe, fIn, fNotIn, fFind, fCount, fStarts, ex_bl, fI_ii, fI0_ii, fAdd_ii, fSub_ii, fAnd_ii, fOr_ii, fXor_ii, fLt_ii, fLe_ii, fGt_ii, fGe_ii, fMul_ii, fMod_ii, fDiv_ii, fPow_ii, fShl_ii, fShr_ii, fAddS_ss, fEqN_ii, fEqN_ss, fEqN_bb, fEqN_nn, fEqN_ni, fEqN_in, fIsN_n, fNotN_n, isN_n, isN_i, isN_s, isN_l, isN_t, scal_n, scal_i, scal_b, scal_s, scal_r, scal_l, scal_t, fLen_l, fLen_t, fLen_s, fAbs_i, fMin2_i, fMax2_i, fList_l, fList_t, fTuple_l, fTuple_t, fStrI_i, fCat_ll, fIx_l, fIx_t, fIx_s, fInN_l, fInN_t, fSplit_s, fPartition_s, fS2_s, isi_i1, isi_i2, isi_i3, isi_i4, isi_i5, isi_n1, isi_n2, isi_n3, isi_n4, isi_n5, isi_s1, isi_s5, isi_l1, isi_l3, isi_l4, isi_t1, isi_t3, isi_t4, List.getElem?_cons_zero, List.getElem?_cons_succ, List.getElem?_nil, List.set_cons_zero, List.set_cons_succ, List.length_cons, List.length_nil, List.map_cons, List.map_nil, List.cons_append, List.nil_append, List.replicate_succ, List.replicate_zero, Option.some.injEq, exists_eq_left', exists_eq_left, decide_eq_true_eq, Bool.not_eq_true', Bool.not_eq_true, decide_eq_false_iff_not, Bool.false_eq_true, if_false, if_true, if_false, ite_true, ite_false, Bool.not_true, Bool.not_false, Nat.reduceAdd, Nat.reduceSub, Nat.reduceMul, ite_self, true_and, and_true, reduceCtorEq, D.int.injEq, D.bl.injEq, D.str.injEq, D.lst.injEq, D.tup.injEq, D.ty.injEq, List.cons.injEq, and_self, List.all_cons, List.all_nil, Bool.and_true, Bool.and_self, Bool.true_and, Bool.and_false, Bool.false_and, List.not_mem_nil, not_false_eq_true, List.isEmpty_nil, List.mapIdx_cons, List.mapIdx_nil, List.mem_cons, or_false]; exact h
    | some b =>
      simp only [wb__law_told_list, lD, wSeq, wIf, wEvT, wEv, wEvL, wAsg, wAsgL, wRet, wRetN, wDrop, wNext, wBreak, wCont, wB, wAnd, wOr, wNot, wAndV, wOrV, wNotV, wIfE, wOp, wUn, wCa, wCaL, wM1, wM1L, wL, wLst, wTup, wNil, wCons, wC, wVar, wCall, wLen, wLc, wIt, wItT, wItS, wRng1, wRng2, wFor, wPart, wNo, wSlL, wSlS, wOpL, wAsgG, gN, gT, gCons', gNil', wApp, wSet, wYes, bodyD, startD, mask, aft, frz, Sl.d, Sl.own, xsc, fEq, fNe, fIn, fNotIn, fFind, fCount, fStarts, ex_bl, fI_ii, fI0_ii, fAdd_ii, fSub_ii, fAnd_ii, fOr_ii, fXor_ii, fLt_ii, fLe_ii, fGt_ii, fGe_ii, fMul_ii, fMod_ii, fDiv_ii, fPow_ii, fShl_ii, fShr_ii, fAddS_ss, fEqN_ii, fEqN_ss, fEqN_bb, fEqN_nn, fEqN_ni, fEqN_in, fIsN_n, fNotN_n, isN_n, isN_i, isN_s, isN_l, isN_t, scal_n, scal_i, scal_b, scal_s, scal_r, scal_l, scal_t, fLen_l, fLen_t, fLen_s, fAbs_i, fMin2_i, fMax2_i, fList_l, fList_t, fTuple_l, fTuple_t, fStrI_i, fCat_ll, fIx_l, fIx_t, fIx_s, fInN_l, fInN_t, fSplit_s, fPartition_s, fS2_s, isi_i1, isi_i2, isi_i3, isi_i4, isi_i5, isi_n1, isi_n2, isi_n3, isi_n4, isi_n5, isi_s1, isi_s5, isi_l1, isi_l3, isi_l4, isi_t1, isi_t3, isi_t4, List.getElem?_cons_zero, List.getElem?_cons_succ, List.getElem?_nil, List.set_cons_zero, List.set_cons_succ, List.length_cons, List.length_nil, List.map_cons, List.map_nil, List.cons_append, List.nil_append, List.replicate_succ, List.replicate_zero, Option.some.injEq, exists_eq_left', exists_eq_left, decide_eq_true_eq, Bool.not_eq_true', Bool.not_eq_true, decide_eq_false_iff_not, Bool.false_eq_true, if_false, if_true, if_false, ite_true, ite_false, Bool.not_true, Bool.not_false, Nat.reduceAdd, Nat.reduceSub, Nat.reduceMul, ite_self, true_and, and_true, reduceCtorEq, D.int.injEq, D.bl.injEq, D.str.injEq, D.lst.injEq, D.tup.injEq, D.ty.injEq, List.cons.injEq, and_self, List.all_cons, List.all_nil, Bool.and_true, Bool.and_self, Bool.true_and, Bool.and_false, Bool.false_and, List.not_mem_nil, not_false_eq_true, List.isEmpty_nil, List.mapIdx_cons, List.mapIdx_nil, List.mem_cons, or_false]
      refine fEqN_ints ?_
      refine ⟨_, rfl, ?_⟩
      have e : (some a == some b) = (a == b) := rfl
      rw [e] at h
      cases hab : a == b with
      | false => rw [hab] at h; exact h
      | true =>
        rw [hab] at h
        refine lc_nameT (p := fun _ => false) (f := fun x => D.int x) (fun x _ k hk => ?_) (fun x _ hx => nomatch hx) ?_
        · simp only [wSeq, wIf, wEvT, wEv, wEvL, wAsg, wAsgL, wRet, wRetN, wDrop, wNext, wBreak, wCont, wB, wAnd, wOr, wNot, wAndV, wOrV, wNotV, wIfE, wOp, wUn, wCa, wCaL, wM1, wM1L, wL, wLst, wTup, wNil, wCons, wC, wVar, wCall, wLen, wLc, wIt, wItT, wItS, wRng1, wRng2, wFor, wPart, wNo, wSlL, wSlS, wOpL, wAsgG, gN, gT, gCons', gNil', wApp, wSet, wYes, bodyD, startD, mask, aft, frz, Sl.d, Sl.own, xsc, fEq, fNe, fIn, fNotIn, fFind, fCount, fStarts, ex_bl, fI_ii, fI0_ii, fAdd_ii, fSub_ii, fAnd_ii, fOr_ii, fXor_ii, fLt_ii, fLe_ii, fGt_ii, fGe_ii, fMul_ii, fMod_ii, fDiv_ii, fPow_ii, fShl_ii, fShr_ii, fAddS_ss, fEqN_ii, fEqN_ss, fEqN_bb, fEqN_nn, fEqN_ni, fEqN_in, fIsN_n, fNotN_n, isN_n, isN_i, isN_s, isN_l, isN_t, scal_n, scal_i, scal_b, scal_s, scal_r, scal_l, scal_t, fLen_l, fLen_t, fLen_s, fAbs_i, fMin2_i, fMax2_i, fList_l, fList_t, fTuple_l, fTuple_t, fStrI_i, fCat_ll, fIx_l, fIx_t, fIx_s, fInN_l, fInN_t, fSplit_s, fPartition_s, fS2_s, isi_i1, isi_i2, isi_i3, isi_i4, isi_i5, isi_n1, isi_n2, isi_n3, isi_n4, isi_n5, isi_s1, isi_s5, isi_l1, isi_l3, isi_l4, isi_t1, isi_t3, isi_t4, List.getElem?_cons_zero, List.getElem?_cons_succ, List.getElem?_nil, List.set_cons_zero, List.set_cons_succ, List.length_cons, List.length_nil, List.map_cons, List.map_nil, List.cons_append, List.nil_append, List.replicate_succ, List.replicate_zero, Option.some.injEq, exists_eq_left', exists_eq_left, decide_eq_true_eq, Bool.not_eq_true', Bool.not_eq_true, decide_eq_false_iff_not, Bool.false_eq_true, if_false, if_true, if_false, ite_true, ite_false, Bool.not_true, Bool.not_false, Nat.reduceAdd, Nat.reduceSub, Nat.reduceMul, ite_self, true_and, and_true, reduceCtorEq, D.int.injEq, D.bl.injEq, D.str.injEq, D.lst.injEq, D.tup.injEq, D.ty.injEq, List.cons.injEq, and_self, List.all_cons, List.all_nil, Bool.and_true, Bool.and_self, Bool.true_and, Bool.and_false, Bool.false_and, List.not_mem_nil, not_false_eq_true, List.isEmpty_nil, List.mapIdx_cons, List.mapIdx_nil, List.mem_cons, or_false]
          exact ⟨some x, rfl, _, rfl, hk⟩
        · refine ⟨Nat.zero_le _, fEqN_nil ?_ ?_⟩
          · simp
          · rw [List.filter_eq_nil_iff.mpr (by simp)]
            exact h

theorem h__law_told : ∀ ds Q Z, sp__law_told ds Q Z → ds.length = 1 ∧ wb__law_told sp__law_figures sp_number_of sp__law_whole sp__law_told_list sp__law_numbers sp_numbers_of sp_ask_of (bodyD Q Z) (startD scN__law_told ds) := by
  rintro ds Q Z ⟨s, rfl, hs, h⟩
  refine ⟨rfl, ?_⟩
  unfold wb__law_told
  refine seq_abs (env1 := [some (.fz (.str s)), some (.fz (oD (numO s))), none, none, none, none]) (fun nx hnx => ?_) ?_
  · simp only [wSeq, wIf, wEvT, wEv, wEvL, wAsg, wAsgL, wRet, wRetN, wDrop, wNext, wBreak, wCont, wB, wAnd, wOr, wNot, wAndV, wOrV, wNotV, wIfE, wOp, wUn, wCa, wCaL, wM1, wM1L, wL, wLst, wTup, wNil, wCons, wC, wVar, wCall, wLen, wLc, wIt, wItT, wItS, wRng1, wRng2, wFor, wPart, wNo, wSlL, wSlS, wOpL, wAsgG, gN, gT, gCons', gNil', wApp, wSet, wYes, bodyD, startD, mask, aft, frz, Sl.d, Sl.own, xsc, fEq, fNe, fIn, fNotIn, fFind, fCount, fStarts, ex_bl, fI_ii, fI0_ii, fAdd_ii, fSub_ii, fAnd_ii, fOr_ii, fXor_ii, fLt_ii, fLe_ii, fGt_ii, fGe_ii, fMul_ii, fMod_ii, fDiv_ii, fPow_ii, fShl_ii, fShr_ii, fAddS_ss, fEqN_ii, fEqN_ss, fEqN_bb, fEqN_nn, fEqN_ni, fEqN_in, fIsN_n, fNotN_n, isN_n, isN_i, isN_s, isN_l, isN_t, scal_n, scal_i, scal_b, scal_s, scal_r, scal_l, scal_t, fLen_l, fLen_t, fLen_s, fAbs_i, fMin2_i, fMax2_i, fList_l, fList_t, fTuple_l, fTuple_t, fStrI_i, fCat_ll, fIx_l, fIx_t, fIx_s, fInN_l, fInN_t, fSplit_s, fPartition_s, fS2_s, isi_i1, isi_i2, isi_i3, isi_i4, isi_i5, isi_n1, isi_n2, isi_n3, isi_n4, isi_n5, isi_s1, isi_s5, isi_l1, isi_l3, isi_l4, isi_t1, isi_t3, isi_t4, List.getElem?_cons_zero, List.getElem?_cons_succ, List.getElem?_nil, List.set_cons_zero, List.set_cons_succ, List.length_cons, List.length_nil, List.map_cons, List.map_nil, List.cons_append, List.nil_append, List.replicate_succ, List.replicate_zero, Option.some.injEq, exists_eq_left', exists_eq_left, decide_eq_true_eq, Bool.not_eq_true', Bool.not_eq_true, decide_eq_false_iff_not, Bool.false_eq_true, if_false, if_true, if_false, ite_true, ite_false, Bool.not_true, Bool.not_false, Nat.reduceAdd, Nat.reduceSub, Nat.reduceMul, ite_self, true_and, and_true, reduceCtorEq, D.int.injEq, D.bl.injEq, D.str.injEq, D.lst.injEq, D.tup.injEq, D.ty.injEq, List.cons.injEq, and_self, List.all_cons, List.all_nil, Bool.and_true, Bool.and_self, Bool.true_and, Bool.and_false, Bool.false_and, List.not_mem_nil, not_false_eq_true, List.isEmpty_nil, List.mapIdx_cons, List.mapIdx_nil, List.mem_cons, or_false]
    refine ⟨s, rfl, hs, ?_⟩
    cases e : numO s <;> (rw [e] at hnx; exact hnx)
  refine seq_abs (env1 := [some (.fz (.str s)), some (.fz (oD (numO s))), some (.fz (oD (numO s))), none, none, none]) (fun nx hnx => ?_) ?_
  · simp only [wSeq, wIf, wEvT, wEv, wEvL, wAsg, wAsgL, wRet, wRetN, wDrop, wNext, wBreak, wCont, wB, wAnd, wOr, wNot, wAndV, wOrV, wNotV, wIfE, wOp, wUn, wCa, wCaL, wM1, wM1L, wL, wLst, wTup, wNil, wCons, wC, wVar, wCall, wLen, wLc, wIt, wItT, wItS, wRng1, wRng2, wFor, wPart, wNo, wSlL, wSlS, wOpL, wAsgG, gN, gT, gCons', gNil', wApp, wSet, wYes, bodyD, startD, mask, aft, frz, Sl.d, Sl.own, xsc, fEq, fNe, fIn, fNotIn, fFind, fCount, fStarts, ex_bl, fI_ii, fI0_ii, fAdd_ii, fSub_ii, fAnd_ii, fOr_ii, fXor_ii, fLt_ii, fLe_ii, fGt_ii, fGe_ii, fMul_ii, fMod_ii, fDiv_ii, fPow_ii, fShl_ii, fShr_ii, fAddS_ss, fEqN_ii, fEqN_ss, fEqN_bb, fEqN_nn, fEqN_ni, fEqN_in, fIsN_n, fNotN_n, isN_n, isN_i, isN_s, isN_l, isN_t, scal_n, scal_i, scal_b, scal_s, scal_r, scal_l, scal_t, fLen_l, fLen_t, fLen_s, fAbs_i, fMin2_i, fMax2_i, fList_l, fList_t, fTuple_l, fTuple_t, fStrI_i, fCat_ll, fIx_l, fIx_t, fIx_s, fInN_l, fInN_t, fSplit_s, fPartition_s, fS2_s, isi_i1, isi_i2, isi_i3, isi_i4, isi_i5, isi_n1, isi_n2, isi_n3, isi_n4, isi_n5, isi_s1, isi_s5, isi_l1, isi_l3, isi_l4, isi_t1, isi_t3, isi_t4, List.getElem?_cons_zero, List.getElem?_cons_succ, List.getElem?_nil, List.set_cons_zero, List.set_cons_succ, List.length_cons, List.length_nil, List.map_cons, List.map_nil, List.cons_append, List.nil_append, List.replicate_succ, List.replicate_zero, Option.some.injEq, exists_eq_left', exists_eq_left, decide_eq_true_eq, Bool.not_eq_true', Bool.not_eq_true, decide_eq_false_iff_not, Bool.false_eq_true, if_false, if_true, if_false, ite_true, ite_false, Bool.not_true, Bool.not_false, Nat.reduceAdd, Nat.reduceSub, Nat.reduceMul, ite_self, true_and, and_true, reduceCtorEq, D.int.injEq, D.bl.injEq, D.str.injEq, D.lst.injEq, D.tup.injEq, D.ty.injEq, List.cons.injEq, and_self, List.all_cons, List.all_nil, Bool.and_true, Bool.and_self, Bool.true_and, Bool.and_false, Bool.false_and, List.not_mem_nil, not_false_eq_true, List.isEmpty_nil, List.mapIdx_cons, List.mapIdx_nil, List.mem_cons, or_false]
    refine ⟨s, rfl, hs, ?_⟩
    cases e : numO s <;> (rw [e] at hnx; exact hnx)
  refine seq_abs (env1 := [some (.fz (.str s)), some (.fz (oD (numO s))), some (.fz (oD (numO s))), none, none, none]) (fun nx hnx => ?_) ?_
  · cases e : numO s with
    | none =>
      rw [e] at hnx
      simp only [oD, wSeq, wIf, wEvT, wEv, wEvL, wAsg, wAsgL, wRet, wRetN, wDrop, wNext, wBreak, wCont, wB, wAnd, wOr, wNot, wAndV, wOrV, wNotV, wIfE, wOp, wUn, wCa, wCaL, wM1, wM1L, wL, wLst, wTup, wNil, wCons, wC, wVar, wCall, wLen, wLc, wIt, wItT, wItS, wRng1, wRng2, wFor, wPart, wNo, wSlL, wSlS, wOpL, wAsgG, gN, gT, gCons', gNil', wApp, wSet, wYes, bodyD, startD, mask, aft, frz, Sl.d, Sl.own, xsc, fEq, fNe, fIn, fNotIn, fFind, fCount, fStarts, ex_bl, fI_ii, fI0_ii, fAdd_ii, fSub_ii, fAnd_ii, fOr_ii, fXor_ii, fLt_ii, fLe_ii, fGt_ii, fGe_ii, fMul_ii, fMod_ii, fDiv_ii, fPow_ii, fShl_ii, fShr_ii, fAddS_ss, fEqN_ii, fEqN_ss, fEqN_bb, fEqN_nn, fEqN_ni, fEqN_in, fIsN_n, fNotN_n, isN_n, isN_i, isN_s, isN_l, isN_t, scal_n, scal_i, scal_b, scal_s, scal_r, scal_l, scal_t, fLen_l, fLen_t, fLen_s, fAbs_i, fMin2_i, fMax2_i, fList_l, fList_t, fTuple_l, fTuple_t, fStrI_i, fCat_ll, fIx_l, fIx_t, fIx_s, fInN_l, fInN_t, fSplit_s, fPartition_s, fS2_s, isi_i1, isi_i2, isi_i3, isi_i4, isi_i5, isi_n1, isi_n2, isi_n3, isi_n4, isi_n5, isi_s1, isi_s5, isi_l1, isi_l3, isi_l4, isi_t1, isi_t3, isi_t4, List.getElem?_cons_zero, List.getElem?_cons_succ, List.getElem?_nil, List.set_cons_zero, List.set_cons_succ, List.length_cons, List.length_nil, List.map_cons, List.map_nil, List.cons_append, List.nil_append, List.replicate_succ, List.replicate_zero, Option.some.injEq, exists_eq_left', exists_eq_left, decide_eq_true_eq, Bool.not_eq_true', Bool.not_eq_true, decide_eq_false_iff_not, Bool.false_eq_true, if_false, if_true, if_false, ite_true, ite_false, Bool.not_true, Bool.not_false, Nat.reduceAdd, Nat.reduceSub, Nat.reduceMul, ite_self, true_and, and_true, reduceCtorEq, D.int.injEq, D.bl.injEq, D.str.injEq, D.lst.injEq, D.tup.injEq, D.ty.injEq, List.cons.injEq, and_self, List.all_cons, List.all_nil, Bool.and_true, Bool.and_self, Bool.true_and, Bool.and_false, Bool.false_and, List.not_mem_nil, not_false_eq_true, List.isEmpty_nil, List.mapIdx_cons, List.mapIdx_nil, List.mem_cons, or_false]
      exact hnx
    | some i =>
      rw [e] at hnx
      simp only [oD, wSeq, wIf, wEvT, wEv, wEvL, wAsg, wAsgL, wRet, wRetN, wDrop, wNext, wBreak, wCont, wB, wAnd, wOr, wNot, wAndV, wOrV, wNotV, wIfE, wOp, wUn, wCa, wCaL, wM1, wM1L, wL, wLst, wTup, wNil, wCons, wC, wVar, wCall, wLen, wLc, wIt, wItT, wItS, wRng1, wRng2, wFor, wPart, wNo, wSlL, wSlS, wOpL, wAsgG, gN, gT, gCons', gNil', wApp, wSet, wYes, bodyD, startD, mask, aft, frz, Sl.d, Sl.own, xsc, fEq, fNe, fIn, fNotIn, fFind, fCount, fStarts, ex_bl, fI_ii, fI0_ii, fAdd_ii, fSub_ii, fAnd_ii, fOr_ii, fXor_ii, fLt_ii, fLe_ii, fGt_ii, fGe_ii, fMul_ii, fMod_ii, fDiv_ii, fPow_ii, fShl_ii, fShr_ii, fAddS_ss, fEqN_ii, fEqN_ss, fEqN_bb, fEqN_nn, fEqN_ni, fEqN_in, fIsN_n, fNotN_n, isN_n, isN_i, isN_s, isN_l, isN_t, scal_n, scal_i, scal_b, scal_s, scal_r, scal_l, scal_t, fLen_l, fLen_t, fLen_s, fAbs_i, fMin2_i, fMax2_i, fList_l, fList_t, fTuple_l, fTuple_t, fStrI_i, fCat_ll, fIx_l, fIx_t, fIx_s, fInN_l, fInN_t, fSplit_s, fPartition_s, fS2_s, isi_i1, isi_i2, isi_i3, isi_i4, isi_i5, isi_n1, isi_n2, isi_n3, isi_n4, isi_n5, isi_s1, isi_s5, isi_l1, isi_l3, isi_l4, isi_t1, isi_t3, isi_t4, List.getElem?_cons_zero, List.getElem?_cons_succ, List.getElem?_nil, List.set_cons_zero, List.set_cons_succ, List.length_cons, List.length_nil, List.map_cons, List.map_nil, List.cons_append, List.nil_append, List.replicate_succ, List.replicate_zero, Option.some.injEq, exists_eq_left', exists_eq_left, decide_eq_true_eq, Bool.not_eq_true', Bool.not_eq_true, decide_eq_false_iff_not, Bool.false_eq_true, if_false, if_true, if_false, ite_true, ite_false, Bool.not_true, Bool.not_false, Nat.reduceAdd, Nat.reduceSub, Nat.reduceMul, ite_self, true_and, and_true, reduceCtorEq, D.int.injEq, D.bl.injEq, D.str.injEq, D.lst.injEq, D.tup.injEq, D.ty.injEq, List.cons.injEq, and_self, List.all_cons, List.all_nil, Bool.and_true, Bool.and_self, Bool.true_and, Bool.and_false, Bool.false_and, List.not_mem_nil, not_false_eq_true, List.isEmpty_nil, List.mapIdx_cons, List.mapIdx_nil, List.mem_cons, or_false]
      refine ⟨some i, rfl, _, rfl, ?_⟩
      rw [if_neg (by simp), if_neg (by simp)]
      exact hnx
  refine seq_abs (env1 := [some (.fz (.str s)), some (.fz (oD (numO s))), some (.fz (oD (numO s))), none, none, none]) (fun nx hnx => ?_) ?_
  · simp only [wSeq, wIf, wEvT, wEv, wEvL, wAsg, wAsgL, wRet, wRetN, wDrop, wNext, wBreak, wCont, wB, wAnd, wOr, wNot, wAndV, wOrV, wNotV, wIfE, wOp, wUn, wCa, wCaL, wM1, wM1L, wL, wLst, wTup, wNil, wCons, wC, wVar, wCall, wLen, wLc, wIt, wItT, wItS, wRng1, wRng2, wFor, wPart, wNo, wSlL, wSlS, wOpL, wAsgG, gN, gT, gCons', gNil', wApp, wSet, wYes, bodyD, startD, mask, aft, frz, Sl.d, Sl.own, xsc, fEq, fNe, fIn, fNotIn, fFind, fCount, fStarts, ex_bl, fI_ii, fI0_ii, fAdd_ii, fSub_ii, fAnd_ii, fOr_ii, fXor_ii, fLt_ii, fLe_ii, fGt_ii, fGe_ii, fMul_ii, fMod_ii, fDiv_ii, fPow_ii, fShl_ii, fShr_ii, fAddS_ss, fEqN_ii, fEqN_ss, fEqN_bb, fEqN_nn, fEqN_ni, fEqN_in, fIsN_n, fNotN_n, isN_n, isN_i, isN_s, isN_l, isN_t, scal_n, scal_i, scal_b, scal_s, scal_r, scal_l, scal_t, fLen_l, fLen_t, fLen_s, fAbs_i, fMin2_i, fMax2_i, fList_l, fList_t, fTuple_l, fTuple_t, fStrI_i, fCat_ll, fIx_l, fIx_t, fIx_s, fInN_l, fInN_t, fSplit_s, fPartition_s, fS2_s, isi_i1, isi_i2, isi_i3, isi_i4, isi_i5, isi_n1, isi_n2, isi_n3, isi_n4, isi_n5, isi_s1, isi_s5, isi_l1, isi_l3, isi_l4, isi_t1, isi_t3, isi_t4, List.getElem?_cons_zero, List.getElem?_cons_succ, List.getElem?_nil, List.set_cons_zero, List.set_cons_succ, List.length_cons, List.length_nil, List.map_cons, List.map_nil, List.cons_append, List.nil_append, List.replicate_succ, List.replicate_zero, Option.some.injEq, exists_eq_left', exists_eq_left, decide_eq_true_eq, Bool.not_eq_true', Bool.not_eq_true, decide_eq_false_iff_not, Bool.false_eq_true, if_false, if_true, if_false, ite_true, ite_false, Bool.not_true, Bool.not_false, Nat.reduceAdd, Nat.reduceSub, Nat.reduceMul, ite_self, true_and, and_true, reduceCtorEq, D.int.injEq, D.bl.injEq, D.str.injEq, D.lst.injEq, D.tup.injEq, D.ty.injEq, List.cons.injEq, and_self, List.all_cons, List.all_nil, Bool.and_true, Bool.and_self, Bool.true_and, Bool.and_false, Bool.false_and, List.not_mem_nil, not_false_eq_true, List.isEmpty_nil, List.mapIdx_cons, List.mapIdx_nil, List.mem_cons, or_false]
    refine ⟨s, rfl, hs, s, rfl, hs, _, _, rfl, _, rfl, ?_⟩
    rw [if_neg (by simp)]
    exact hnx
  refine seq_abs (env1 := [some (.fz (.str s)), some (.fz (oD (numO s))), some (.fz (oD (numO s))), some (.fz (aD (askO s))), none, none]) (fun nx hnx => ?_) ?_
  · simp only [wSeq, wIf, wEvT, wEv, wEvL, wAsg, wAsgL, wRet, wRetN, wDrop, wNext, wBreak, wCont, wB, wAnd, wOr, wNot, wAndV, wOrV, wNotV, wIfE, wOp, wUn, wCa, wCaL, wM1, wM1L, wL, wLst, wTup, wNil, wCons, wC, wVar, wCall, wLen, wLc, wIt, wItT, wItS, wRng1, wRng2, wFor, wPart, wNo, wSlL, wSlS, wOpL, wAsgG, gN, gT, gCons', gNil', wApp, wSet, wYes, bodyD, startD, mask, aft, frz, Sl.d, Sl.own, xsc, fEq, fNe, fIn, fNotIn, fFind, fCount, fStarts, ex_bl, fI_ii, fI0_ii, fAdd_ii, fSub_ii, fAnd_ii, fOr_ii, fXor_ii, fLt_ii, fLe_ii, fGt_ii, fGe_ii, fMul_ii, fMod_ii, fDiv_ii, fPow_ii, fShl_ii, fShr_ii, fAddS_ss, fEqN_ii, fEqN_ss, fEqN_bb, fEqN_nn, fEqN_ni, fEqN_in, fIsN_n, fNotN_n, isN_n, isN_i, isN_s, isN_l, isN_t, scal_n, scal_i, scal_b, scal_s, scal_r, scal_l, scal_t, fLen_l, fLen_t, fLen_s, fAbs_i, fMin2_i, fMax2_i, fList_l, fList_t, fTuple_l, fTuple_t, fStrI_i, fCat_ll, fIx_l, fIx_t, fIx_s, fInN_l, fInN_t, fSplit_s, fPartition_s, fS2_s, isi_i1, isi_i2, isi_i3, isi_i4, isi_i5, isi_n1, isi_n2, isi_n3, isi_n4, isi_n5, isi_s1, isi_s5, isi_l1, isi_l3, isi_l4, isi_t1, isi_t3, isi_t4, List.getElem?_cons_zero, List.getElem?_cons_succ, List.getElem?_nil, List.set_cons_zero, List.set_cons_succ, List.length_cons, List.length_nil, List.map_cons, List.map_nil, List.cons_append, List.nil_append, List.replicate_succ, List.replicate_zero, Option.some.injEq, exists_eq_left', exists_eq_left, decide_eq_true_eq, Bool.not_eq_true', Bool.not_eq_true, decide_eq_false_iff_not, Bool.false_eq_true, if_false, if_true, if_false, ite_true, ite_false, Bool.not_true, Bool.not_false, Nat.reduceAdd, Nat.reduceSub, Nat.reduceMul, ite_self, true_and, and_true, reduceCtorEq, D.int.injEq, D.bl.injEq, D.str.injEq, D.lst.injEq, D.tup.injEq, D.ty.injEq, List.cons.injEq, and_self, List.all_cons, List.all_nil, Bool.and_true, Bool.and_self, Bool.true_and, Bool.and_false, Bool.false_and, List.not_mem_nil, not_false_eq_true, List.isEmpty_nil, List.mapIdx_cons, List.mapIdx_nil, List.mem_cons, or_false]
    refine ⟨s, rfl, hs, ?_⟩
    cases e : askO s <;> (rw [e] at hnx; exact hnx)
  refine seq_abs (env1 := [some (.fz (.str s)), some (.fz (oD (numO s))), some (.fz (oD (numO s))), some (.fz (aD (askO s))), some (.fz .non), none]) (fun nx hnx => ?_) ?_
  · simp only [wSeq, wIf, wEvT, wEv, wEvL, wAsg, wAsgL, wRet, wRetN, wDrop, wNext, wBreak, wCont, wB, wAnd, wOr, wNot, wAndV, wOrV, wNotV, wIfE, wOp, wUn, wCa, wCaL, wM1, wM1L, wL, wLst, wTup, wNil, wCons, wC, wVar, wCall, wLen, wLc, wIt, wItT, wItS, wRng1, wRng2, wFor, wPart, wNo, wSlL, wSlS, wOpL, wAsgG, gN, gT, gCons', gNil', wApp, wSet, wYes, bodyD, startD, mask, aft, frz, Sl.d, Sl.own, xsc, fEq, fNe, fIn, fNotIn, fFind, fCount, fStarts, ex_bl, fI_ii, fI0_ii, fAdd_ii, fSub_ii, fAnd_ii, fOr_ii, fXor_ii, fLt_ii, fLe_ii, fGt_ii, fGe_ii, fMul_ii, fMod_ii, fDiv_ii, fPow_ii, fShl_ii, fShr_ii, fAddS_ss, fEqN_ii, fEqN_ss, fEqN_bb, fEqN_nn, fEqN_ni, fEqN_in, fIsN_n, fNotN_n, isN_n, isN_i, isN_s, isN_l, isN_t, scal_n, scal_i, scal_b, scal_s, scal_r, scal_l, scal_t, fLen_l, fLen_t, fLen_s, fAbs_i, fMin2_i, fMax2_i, fList_l, fList_t, fTuple_l, fTuple_t, fStrI_i, fCat_ll, fIx_l, fIx_t, fIx_s, fInN_l, fInN_t, fSplit_s, fPartition_s, fS2_s, isi_i1, isi_i2, isi_i3, isi_i4, isi_i5, isi_n1, isi_n2, isi_n3, isi_n4, isi_n5, isi_s1, isi_s5, isi_l1, isi_l3, isi_l4, isi_t1, isi_t3, isi_t4, List.getElem?_cons_zero, List.getElem?_cons_succ, List.getElem?_nil, List.set_cons_zero, List.set_cons_succ, List.length_cons, List.length_nil, List.map_cons, List.map_nil, List.cons_append, List.nil_append, List.replicate_succ, List.replicate_zero, Option.some.injEq, exists_eq_left', exists_eq_left, decide_eq_true_eq, Bool.not_eq_true', Bool.not_eq_true, decide_eq_false_iff_not, Bool.false_eq_true, if_false, if_true, if_false, ite_true, ite_false, Bool.not_true, Bool.not_false, Nat.reduceAdd, Nat.reduceSub, Nat.reduceMul, ite_self, true_and, and_true, reduceCtorEq, D.int.injEq, D.bl.injEq, D.str.injEq, D.lst.injEq, D.tup.injEq, D.ty.injEq, List.cons.injEq, and_self, List.all_cons, List.all_nil, Bool.and_true, Bool.and_self, Bool.true_and, Bool.and_false, Bool.false_and, List.not_mem_nil, not_false_eq_true, List.isEmpty_nil, List.mapIdx_cons, List.mapIdx_nil, List.mem_cons, or_false]
    exact hnx
  refine seq_abs (env1 := [some (.fz (.str s)), some (.fz (oD (numO s))), some (.fz (oD (numO s))), some (.fz (aD (askO s))), some (.fz .non), some (.fz .non)]) (fun nx hnx => ?_) ?_
  · simp only [wSeq, wIf, wEvT, wEv, wEvL, wAsg, wAsgL, wRet, wRetN, wDrop, wNext, wBreak, wCont, wB, wAnd, wOr, wNot, wAndV, wOrV, wNotV, wIfE, wOp, wUn, wCa, wCaL, wM1, wM1L, wL, wLst, wTup, wNil, wCons, wC, wVar, wCall, wLen, wLc, wIt, wItT, wItS, wRng1, wRng2, wFor, wPart, wNo, wSlL, wSlS, wOpL, wAsgG, gN, gT, gCons', gNil', wApp, wSet, wYes, bodyD, startD, mask, aft, frz, Sl.d, Sl.own, xsc, fEq, fNe, fIn, fNotIn, fFind, fCount, fStarts, ex_bl, fI_ii, fI0_ii, fAdd_ii, fSub_ii, fAnd_ii, fOr_ii, fXor_ii, fLt_ii, fLe_ii, fGt_ii, fGe_ii, fMul_ii, fMod_ii, fDiv_ii, fPow_ii, fShl_ii, fShr_ii, fAddS_ss, fEqN_ii, fEqN_ss, fEqN_bb, fEqN_nn, fEqN_ni, fEqN_in, fIsN_n, fNotN_n, isN_n, isN_i, isN_s, isN_l, isN_t, scal_n, scal_i, scal_b, scal_s, scal_r, scal_l, scal_t, fLen_l, fLen_t, fLen_s, fAbs_i, fMin2_i, fMax2_i, fList_l, fList_t, fTuple_l, fTuple_t, fStrI_i, fCat_ll, fIx_l, fIx_t, fIx_s, fInN_l, fInN_t, fSplit_s, fPartition_s, fS2_s, isi_i1, isi_i2, isi_i3, isi_i4, isi_i5, isi_n1, isi_n2, isi_n3, isi_n4, isi_n5, isi_s1, isi_s5, isi_l1, isi_l3, isi_l4, isi_t1, isi_t3, isi_t4, List.getElem?_cons_zero, List.getElem?_cons_succ, List.getElem?_nil, List.set_cons_zero, List.set_cons_succ, List.length_cons, List.length_nil, List.map_cons, List.map_nil, List.cons_append, List.nil_append, List.replicate_succ, List.replicate_zero, Option.some.injEq, exists_eq_left', exists_eq_left, decide_eq_true_eq, Bool.not_eq_true', Bool.not_eq_true, decide_eq_false_iff_not, Bool.false_eq_true, if_false, if_true, if_false, ite_true, ite_false, Bool.not_true, Bool.not_false, Nat.reduceAdd, Nat.reduceSub, Nat.reduceMul, ite_self, true_and, and_true, reduceCtorEq, D.int.injEq, D.bl.injEq, D.str.injEq, D.lst.injEq, D.tup.injEq, D.ty.injEq, List.cons.injEq, and_self, List.all_cons, List.all_nil, Bool.and_true, Bool.and_self, Bool.true_and, Bool.and_false, Bool.false_and, List.not_mem_nil, not_false_eq_true, List.isEmpty_nil, List.mapIdx_cons, List.mapIdx_nil, List.mem_cons, or_false]
    exact hnx
  obtain ⟨hc1, hc2⟩ := ask_count (s := s)
  by_cases hc : Txt.count s (Str.ofString ">") = 1
  · obtain ⟨e1, e2⟩ := hc1 hc
    have ea : askO s = (numO (cutS s none (some (Txt.find s (Str.ofString ">"))))).bind fun c => (numsO (cutS s (some (Txt.find s (Str.ofString ">") + 1)) none)).map fun l => (c, l) := by
      unfold askO
      rw [e1, e2]
    have l1 := Nat.le_trans (cutS_length s none (some (Txt.find s (Str.ofString ">")))) hs
    have l2 := Nat.le_trans (cutS_length s (some (Txt.find s (Str.ofString ">") + 1)) none) hs
    refine seq_abs (env1 := [some (.fz (.str s)), some (.fz (oD (numO s))), some (.fz (oD (numO s))), some (.fz (aD (askO s))), some (.fz (oD (numO (cutS s none (some (Txt.find s (Str.ofString ">"))))))), some (.fz (lD (numsO (cutS s (some (Txt.find s (Str.ofString ">") + 1)) none))))]) (fun nx hnx => ?_) ?_
    · simp only [wSeq, wIf, wEvT, wEv, wEvL, wAsg, wAsgL, wRet, wRetN, wDrop, wNext, wBreak, wCont, wB, wAnd, wOr, wNot, wAndV, wOrV, wNotV, wIfE, wOp, wUn, wCa, wCaL, wM1, wM1L, wL, wLst, wTup, wNil, wCons, wC, wVar, wCall, wLen, wLc, wIt, wItT, wItS, wRng1, wRng2, wFor, wPart, wNo, wSlL, wSlS, wOpL, wAsgG, gN, gT, gCons', gNil', wApp, wSet, wYes, bodyD, startD, mask, aft, frz, Sl.d, Sl.own, xsc, fEq, fNe, fIn, fNotIn, fFind, fCount, fStarts, ex_bl, fI_ii, fI0_ii, fAdd_ii, fSub_ii, fAnd_ii, fOr_ii, fXor_ii, fLt_ii, fLe_ii, fGt_ii, fGe_ii, fMul_ii, fMod_ii, fDiv_ii, fPow_ii, fShl_ii, fShr_ii, fAddS_ss, fEqN_ii, fEqN_ss, fEqN_bb, fEqN_nn, fEqN_ni, fEqN_in, fIsN_n, fNotN_n, isN_n, isN_i, isN_s, isN_l, isN_t, scal_n, scal_i, scal_b, scal_s, scal_r, scal_l, scal_t, fLen_l, fLen_t, fLen_s, fAbs_i, fMin2_i, fMax2_i, fList_l, fList_t, fTuple_l, fTuple_t, fStrI_i, fCat_ll, fIx_l, fIx_t, fIx_s, fInN_l, fInN_t, fSplit_s, fPartition_s, fS2_s, isi_i1, isi_i2, isi_i3, isi_i4, isi_i5, isi_n1, isi_n2, isi_n3, isi_n4, isi_n5, isi_s1, isi_s5, isi_l1, isi_l3, isi_l4, isi_t1, isi_t3, isi_t4, List.getElem?_cons_zero, List.getElem?_cons_succ, List.getElem?_nil, List.set_cons_zero, List.set_cons_succ, List.length_cons, List.length_nil, List.map_cons, List.map_nil, List.cons_append, List.nil_append, List.replicate_succ, List.replicate_zero, Option.some.injEq, exists_eq_left', exists_eq_left, decide_eq_true_eq, Bool.not_eq_true', Bool.not_eq_true, decide_eq_false_iff_not, Bool.false_eq_true, if_false, if_true, if_false, ite_true, ite_false, Bool.not_true, Bool.not_false, Nat.reduceAdd, Nat.reduceSub, Nat.reduceMul, ite_self, true_and, and_true, reduceCtorEq, D.int.injEq, D.bl.injEq, D.str.injEq, D.lst.injEq, D.tup.injEq, D.ty.injEq, List.cons.injEq, and_self, List.all_cons, List.all_nil, Bool.and_true, Bool.and_self, Bool.true_and, Bool.and_false, Bool.false_and, List.not_mem_nil, not_false_eq_true, List.isEmpty_nil, List.mapIdx_cons, List.mapIdx_nil, List.mem_cons, or_false]
      rw [if_pos (by rw [hc]; rfl)]
      refine ⟨sz1 hs, _, rfl, l1, sz1 hs, _, rfl, l2, ?_⟩
      revert hnx
      cases numO (cutS s none (some (Txt.find s (Str.ofString ">")))) <;> cases numsO (cutS s (some (Txt.find s (Str.ofString ">") + 1)) none) <;> exact fun hnx => hnx
    · rw [ea]
      generalize numO (cutS s none (some (Txt.find s (Str.ofString ">")))) = u
      generalize numsO (cutS s (some (Txt.find s (Str.ofString ">") + 1)) none) = v
      cases u with
      | none => simp only [Option.bind_none, aD, oD, lD, wSeq, wIf, wEvT, wEv, wEvL, wAsg, wAsgL, wRet, wRetN, wDrop, wNext, wBreak, wCont, wB, wAnd, wOr, wNot, wAndV, wOrV, wNotV, wIfE, wOp, wUn, wCa, wCaL, wM1, wM1L, wL, wLst, wTup, wNil, wCons, wC, wVar, wCall, wLen, wLc, wIt, wItT, wItS, wRng1, wRng2, wFor, wPart, wNo, wSlL, wSlS, wOpL, wAsgG, gN, gT, gCons', gNil', wApp, wSet, wYes, bodyD, startD, mask, aft, frz, Sl.d, Sl.own, xsc, fEq, fNe, fIn, fNotIn, fFind, fCount, fStarts, ex_bl, fI_ii, fI0_ii, fAdd_ii, fSub_ii, fAnd_ii, fOr_ii, fXor_ii, fLt_ii, fLe_ii, fGt_ii, fGe_ii, fMul_ii, fMod_ii, fDiv_ii, fPow_ii, fShl_ii, fShr_ii, fAddS_ss, fEqN_ii, fEqN_ss, fEqN_bb, fEqN_nn, fEqN_ni, fEqN_in, fIsN_n, fNotN_n, isN_n, isN_i, isN_s, isN_l, isN_t, scal_n, scal_i, scal_b, scal_s, scal_r, scal_l, scal_t, fLen_l, fLen_t, fLen_s, fAbs_i, fMin2_i, fMax2_i, fList_l, fList_t, fTuple_l, fTuple_t, fStrI_i, fCat_ll, fIx_l, fIx_t, fIx_s, fInN_l, fInN_t, fSplit_s, fPartition_s, fS2_s, isi_i1, isi_i2, isi_i3, isi_i4, isi_i5, isi_n1, isi_n2, isi_n3, isi_n4, isi_n5, isi_s1, isi_s5, isi_l1, isi_l3, isi_l4, isi_t1, isi_t3, isi_t4, List.getElem?_cons_zero, List.getElem?_cons_succ, List.getElem?_nil, List.set_cons_zero, List.set_cons_succ, List.length_cons, List.length_nil, List.map_cons, List.map_nil, List.cons_append, List.nil_append, List.replicate_succ, List.replicate_zero, Option.some.injEq, exists_eq_left', exists_eq_left, decide_eq_true_eq, Bool.not_eq_true', Bool.not_eq_true, decide_eq_false_iff_not, Bool.false_eq_true, if_false, if_true, if_false, ite_true, ite_false, Bool.not_true, Bool.not_false, Nat.reduceAdd, Nat.reduceSub, Nat.reduceMul, ite_self, true_and, and_true, reduceCtorEq, D.int.injEq, D.bl.injEq, D.str.injEq, D.lst.injEq, D.tup.injEq, D.ty.injEq, List.cons.injEq, and_self, List.all_cons, List.all_nil, Bool.and_true, Bool.and_self, Bool.true_and, Bool.and_false, Bool.false_and, List.not_mem_nil, not_false_eq_true, List.isEmpty_nil, List.mapIdx_cons, List.mapIdx_nil, List.mem_cons, or_false]; exact h
      | some u =>
        cases v with
        | none => simp only [Option.bind_some, Option.map_none, aD, oD, lD, wSeq, wIf, wEvT, wEv, wEvL, wAsg, wAsgL, wRet, wRetN, wDrop, wNext, wBreak, wCont, wB, wAnd, wOr, wNot, wAndV, wOrV, wNotV, wIfE, wOp, wUn, wCa, wCaL, wM1, wM1L, wL, wLst, wTup, wNil, wCons, wC, wVar, wCall, wLen, wLc, wIt, wItT, wItS, wRng1, wRng2, wFor, wPart, wNo, wSlL, wSlS, wOpL, wAsgG, gN, gT, gCons', gNil', wApp, wSet, wYes, bodyD, startD, mask, aft, frz, Sl.d, Sl.own, xsc, fEq, fNe, fIn, fNotIn, fFind, fCount, fStarts, ex_bl, fI_ii, fI0_ii, fAdd_ii, fSub_ii, fAnd_ii, fOr_ii, fXor_ii, fLt_ii, fLe_ii, fGt_ii, fGe_ii, fMul_ii, fMod_ii, fDiv_ii, fPow_ii, fShl_ii, fShr_ii, fAddS_ss, fEqN_ii, fEqN_ss, fEqN_bb, fEqN_nn, fEqN_ni, fEqN_in, fIsN_n, fNotN_n, isN_n, isN_i, isN_s, isN_l, isN_t, scal_n, scal_i, scal_b, scal_s, scal_r, scal_l, scal_t, fLen_l, fLen_t, fLen_s, fAbs_i, fMin2_i, fMax2_i, fList_l, fList_t, fTuple_l, fTuple_t, fStrI_i, fCat_ll, fIx_l, fIx_t, fIx_s, fInN_l, fInN_t, fSplit_s, fPartition_s, fS2_s, isi_i1, isi_i2, isi_i3, isi_i4, isi_i5, isi_n1, isi_n2, isi_n3, isi_n4, isi_n5, isi_s1, isi_s5, isi_l1, isi_l3, isi_l4, isi_t1, isi_t3, isi_t4, List.getElem?_cons_zero, List.getElem?_cons_succ, List.getElem?_nil, List.set_cons_zero, List.set_cons_succ, List.length_cons, List.length_nil, List.map_cons, List.map_nil, List.cons_append, List.nil_append, List.replicate_succ, List.replicate_zero, Option.some.injEq, exists_eq_left', exists_eq_left, decide_eq_true_eq, Bool.not_eq_true', Bool.not_eq_true, decide_eq_false_iff_not, Bool.false_eq_true, if_false, if_true, if_false, ite_true, ite_false, Bool.not_true, Bool.not_false, Nat.reduceAdd, Nat.reduceSub, Nat.reduceMul, ite_self, true_and, and_true, reduceCtorEq, D.int.injEq, D.bl.injEq, D.str.injEq, D.lst.injEq, D.tup.injEq, D.ty.injEq, List.cons.injEq, and_self, List.all_cons, List.all_nil, Bool.and_true, Bool.and_self, Bool.true_and, Bool.and_false, Bool.false_and, List.not_mem_nil, not_false_eq_true, List.isEmpty_nil, List.mapIdx_cons, List.mapIdx_nil, List.mem_cons, or_false]; exact h
        | some v =>
          simp only [Option.bind_some, Option.map_some, aD, oD, lD, wSeq, wIf, wEvT, wEv, wEvL, wAsg, wAsgL, wRet, wRetN, wDrop, wNext, wBreak, wCont, wB, wAnd, wOr, wNot, wAndV, wOrV, wNotV, wIfE, wOp, wUn, wCa, wCaL, wM1, wM1L, wL, wLst, wTup, wNil, wCons, wC, wVar, wCall, wLen, wLc, wIt, wItT, wItS, wRng1, wRng2, wFor, wPart, wNo, wSlL, wSlS, wOpL, wAsgG, gN, gT, gCons', gNil', wApp, wSet, wYes, bodyD, startD, mask, aft, frz, Sl.d, Sl.own, xsc, fEq, fNe, fIn, fNotIn, fFind, fCount, fStarts, ex_bl, fI_ii, fI0_ii, fAdd_ii, fSub_ii, fAnd_ii, fOr_ii, fXor_ii, fLt_ii, fLe_ii, fGt_ii, fGe_ii, fMul_ii, fMod_ii, fDiv_ii, fPow_ii, fShl_ii, fShr_ii, fAddS_ss, fEqN_ii, fEqN_ss, fEqN_bb, fEqN_nn, fEqN_ni, fEqN_in, fIsN_n, fNotN_n, isN_n, isN_i, isN_s, isN_l, isN_t, scal_n, scal_i, scal_b, scal_s, scal_r, scal_l, scal_t, fLen_l, fLen_t, fLen_s, fAbs_i, fMin2_i, fMax2_i, fList_l, fList_t, fTuple_l, fTuple_t, fStrI_i, fCat_ll, fIx_l, fIx_t, fIx_s, fInN_l, fInN_t, fSplit_s, fPartition_s, fS2_s, isi_i1, isi_i2, isi_i3, isi_i4, isi_i5, isi_n1, isi_n2, isi_n3, isi_n4, isi_n5, isi_s1, isi_s5, isi_l1, isi_l3, isi_l4, isi_t1, isi_t3, isi_t4, List.getElem?_cons_zero, List.getElem?_cons_succ, List.getElem?_nil, List.set_cons_zero, List.set_cons_succ, List.length_cons, List.length_nil, List.map_cons, List.map_nil, List.cons_append, List.nil_append, List.replicate_succ, List.replicate_zero, Option.some.injEq, exists_eq_left', exists_eq_left, decide_eq_true_eq, Bool.not_eq_true', Bool.not_eq_true, decide_eq_false_iff_not, Bool.false_eq_true, if_false, if_true, if_false, ite_true, ite_false, Bool.not_true, Bool.not_false, Nat.reduceAdd, Nat.reduceSub, Nat.reduceMul, ite_self, true_and, and_true, reduceCtorEq, D.int.injEq, D.bl.injEq, D.str.injEq, D.lst.injEq, D.tup.injEq, D.ty.injEq, List.cons.injEq, and_self, List.all_cons, List.all_nil, Bool.and_true, Bool.and_self, Bool.true_and, Bool.and_false, Bool.false_and, List.not_mem_nil, not_false_eq_true, List.isEmpty_nil, List.mapIdx_cons, List.mapIdx_nil, List.mem_cons, or_false]
          rw [if_neg (by decide)]
          refine ⟨_, atI_nat (j := 0) rfl, some u, rfl, _, rfl, ?_⟩
          rw [if_neg (by simp)]
          refine ⟨_, atI_nat (j := 0) rfl, ?_⟩
          simp only [wSeq, wIf, wEvT, wEv, wEvL, wAsg, wAsgL, wRet, wRetN, wDrop, wNext, wBreak, wCont, wB, wAnd, wOr, wNot, wAndV, wOrV, wNotV, wIfE, wOp, wUn, wCa, wCaL, wM1, wM1L, wL, wLst, wTup, wNil, wCons, wC, wVar, wCall, wLen, wLc, wIt, wItT, wItS, wRng1, wRng2, wFor, wPart, wNo, wSlL, wSlS, wOpL, wAsgG, gN, gT, gCons', gNil', wApp, wSet, wYes, bodyD, startD, mask, aft, frz, Sl.d, Sl.own, xsc, fEq, fNe, fIn, fNotIn, fFind, fCount, fStarts, ex_bl, fI_ii, fI0_ii, fAdd_ii, fSub_ii, fAnd_ii, fOr_ii, fXor_ii, fLt_ii, fLe_ii, fGt_ii, fGe_ii, fMul_ii, fMod_ii, fDiv_ii, fPow_ii, fShl_ii, fShr_ii, fAddS_ss, fEqN_ii, fEqN_ss, fEqN_bb, fEqN_nn, fEqN_ni, fEqN_in, fIsN_n, fNotN_n, isN_n, isN_i, isN_s, isN_l, isN_t, scal_n, scal_i, scal_b, scal_s, scal_r, scal_l, scal_t, fLen_l, fLen_t, fLen_s, fAbs_i, fMin2_i, fMax2_i, fList_l, fList_t, fTuple_l, fTuple_t, fStrI_i, fCat_ll, fIx_l, fIx_t, fIx_s, fInN_l, fInN_t, fSplit_s, fPartition_s, fS2_s, isi_i1, isi_i2, isi_i3, isi_i4, isi_i5, isi_n1, isi_n2, isi_n3, isi_n4, isi_n5, isi_s1, isi_s5, isi_l1, isi_l3, isi_l4, isi_t1, isi_t3, isi_t4, List.getElem?_cons_zero, List.getElem?_cons_succ, List.getElem?_nil, List.set_cons_zero, List.set_cons_succ, List.length_cons, List.length_nil, List.map_cons, List.map_nil, List.cons_append, List.nil_append, List.replicate_succ, List.replicate_zero, Option.some.injEq, exists_eq_left', exists_eq_left, decide_eq_true_eq, Bool.not_eq_true', Bool.not_eq_true, decide_eq_false_iff_not, Bool.false_eq_true, if_false, if_true, if_false, ite_true, ite_false, Bool.not_true, Bool.not_false, Nat.reduceAdd, Nat.reduceSub, Nat.reduceMul, ite_self, true_and, and_true, reduceCtorEq, D.int.injEq, D.bl.injEq, D.str.injEq, D.lst.injEq, D.tup.injEq, D.ty.injEq, List.cons.injEq, and_self, List.all_cons, List.all_nil, Bool.and_true, Bool.and_self, Bool.true_and, Bool.and_false, Bool.false_and, List.not_mem_nil, not_false_eq_true, List.isEmpty_nil, List.mapIdx_cons, List.mapIdx_nil, List.mem_cons, or_false]
          rw [if_pos (by simp)]
          exact ⟨_, atI_nat (j := 1) rfl, some v, some v, rfl, by simpa using h⟩
  · have e := hc2 hc
    rw [e]
    simp only [aD, wSeq, wIf, wEvT, wEv, wEvL, wAsg, wAsgL, wRet, wRetN, wDrop, wNext, wBreak, wCont, wB, wAnd, wOr, wNot, wAndV, wOrV, wNotV, wIfE, wOp, wUn, wCa, wCaL, wM1, wM1L, wL, wLst, wTup, wNil, wCons, wC, wVar, wCall, wLen, wLc, wIt, wItT, wItS, wRng1, wRng2, wFor, wPart, wNo, wSlL, wSlS, wOpL, wAsgG, gN, gT, gCons', gNil', wApp, wSet, wYes, bodyD, startD, mask, aft, frz, Sl.d, Sl.own, xsc, fEq, fNe, fIn, fNotIn, fFind, fCount, fStarts, ex_bl, fI_ii, fI0_ii, fAdd_ii, fSub_ii, fAnd_ii, fOr_ii, fXor_ii, fLt_ii, fLe_ii, fGt_ii, fGe_ii, fMul_ii, fMod_ii, fDiv_ii, fPow_ii, fShl_ii, fShr_ii, fAddS_ss, fEqN_ii, fEqN_ss, fEqN_bb, fEqN_nn, fEqN_ni, fEqN_in, fIsN_n, fNotN_n, isN_n, isN_i, isN_s, isN_l, isN_t, scal_n, scal_i, scal_b, scal_s, scal_r, scal_l, scal_t, fLen_l, fLen_t, fLen_s, fAbs_i, fMin2_i, fMax2_i, fList_l, fList_t, fTuple_l, fTuple_t, fStrI_i, fCat_ll, fIx_l, fIx_t, fIx_s, fInN_l, fInN_t, fSplit_s, fPartition_s, fS2_s, isi_i1, isi_i2, isi_i3, isi_i4, isi_i5, isi_n1, isi_n2, isi_n3, isi_n4, isi_n5, isi_s1, isi_s5, isi_l1, isi_l3, isi_l4, isi_t1, isi_t3, isi_t4, List.getElem?_cons_zero, List.getElem?_cons_succ, List.getElem?_nil, List.set_cons_zero, List.set_cons_succ, List.length_cons, List.length_nil, List.map_cons, List.map_nil, List.cons_append, List.nil_append, List.replicate_succ, List.replicate_zero, Option.some.injEq, exists_eq_left', exists_eq_left, decide_eq_true_eq, Bool.not_eq_true', Bool.not_eq_true, decide_eq_false_iff_not, Bool.false_eq_true, if_false, if_true, if_false, ite_true, ite_false, Bool.not_true, Bool.not_false, Nat.reduceAdd, Nat.reduceSub, Nat.reduceMul, ite_self, true_and, and_true, reduceCtorEq, D.int.injEq, D.bl.injEq, D.str.injEq, D.lst.injEq, D.tup.injEq, D.ty.injEq, List.cons.injEq, and_self, List.all_cons, List.all_nil, Bool.and_true, Bool.and_self, Bool.true_and, Bool.and_false, Bool.false_and, List.not_mem_nil, not_false_eq_true, List.isEmpty_nil, List.mapIdx_cons, List.mapIdx_nil, List.mem_cons, or_false]
    rw [if_neg (by simpa using hc)]
    exact h

theorem spl_count {S : List Nat} : ∀ {k : Nat} {acc l : List Nat}, (TL.spl S k acc l).length ≤ l.length + 1
  | k, acc, [] => by rw [TL.spl_nil]; simp
  | 0, acc, c :: r => by
    unfold TL.spl
    split
    · have := spl_count (S := S) (k := S.length - 1) (acc := []) (l := r)
      simp
      omega
    · have := spl_count (S := S) (k := 0) (acc := acc ++ [c]) (l := r)
      simp
      omega
  | k + 1, acc, c :: r => by
    unfold TL.spl
    have := spl_count (S := S) (k := k) (acc := acc) (l := r)
    simp
    omega
theorem split_count (t : Str) : (Txt.split t (Str.ofString "|")).length ≤ t.length + 1 := by
  have e := TL.split_spl t (Str.ofString "|") bar_ne (TL.kind_ok (by decide +kernel))
  have := congrArg List.length e
  rw [List.length_map] at this
  rw [this]
  have h2 := spl_count (S := TL.tl (Str.ofString "|")) (k := 0) (acc := []) (l := TL.tl t)
  have : (TL.tl t).length = t.length := Array.length_toList
  omega
theorem signs_22 : (Str.ofString "0123456789012,,>>>-x||").cps.toList.length = 22 := by decide +kernel
theorem join_len (row : List Int) (hl : row.length ≤ 100) (hrow : ∀ n ∈ row, 0 ≤ n ∧ n < 10000) : ((row.map fun n => PySem.Str.ofString (toString n)).map (·.length)).sum + (row.map fun n => PySem.Str.ofString (toString n)).length * (Str.ofString ",").length ≤ 1000 := by
  have key : ∀ l : List Int, (∀ n ∈ l, 0 ≤ n ∧ n < 10000) → ((l.map fun n => PySem.Str.ofString (toString n)).map (·.length)).sum ≤ 4 * l.length := by
    intro l
    induction l with
    | nil => intro _; exact Nat.le_refl _
    | cons n l ih =>
      intro hl
      have h1 := ih fun m hm => hl m (List.mem_cons_of_mem _ hm)
      have h2 := hl n (by simp)
      have h3 : (PySem.Str.ofString (toString n)).length ≤ 4 := toString_length_le h2.1 (by decide) (by omega)
      simp only [List.map_cons, List.sum_cons, List.length_cons] at h1 ⊢
      omega
  have h1 := key row hrow
  have h2 : (PySem.Str.ofString ",").length = 1 := by decide +kernel
  rw [List.length_map, h2]
  omega
theorem shown_len (row : List Int) (hl : row.length ≤ 100) (hrow : ∀ n ∈ row, 0 ≤ n ∧ n < 10000) : (shown row).length ≤ 1000 := by
  unfold shown
  split
  · decide +kernel
  · rw [TL.join_eq]
    exact Nat.le_trans (PySem.StrLaws.join_length_le _ _) (join_len row hl hrow)
theorem log_small {n : Int} (h : 0 ≤ n ∧ n < 10000) : n.natAbs.log2 < 1920 := by
  have h2 : n.natAbs < 2 ^ 14 := by omega
  have : n.natAbs.log2 < 14 := by
    by_cases h0 : n.natAbs = 0
    · rw [h0]; decide
    · exact (Nat.log2_lt h0).mpr h2
  omega
theorem cut_none (ds : List Int) (k : Int) : ∃ m, MP.cutD (ds.map D.int) none (some k) = (ds.take m).map D.int := by
  refine ⟨HT.sIx ds.length ds.length (some k), ?_⟩
  unfold MP.cutD
  rw [HT.sIx_none, List.length_map, List.drop_zero, Nat.sub_zero, List.map_take]
theorem h_law : ∀ ds Q Z, sp_law ds Q Z → ds.length = 1 ∧ wb_law sp__law_number sp__law_cell_at sp_listed sp__law_told (bodyD Q Z) (startD scN_law ds) := by
  rintro ds Q Z ⟨ns, rfl, hs, h⟩
  refine ⟨rfl, ?_⟩
  unfold wb_law
  refine seq_abs (env1 := [some (.fz (.lst (ns.map .int))), some (.fz (.str (Str.ofString ""))), none, none, none, none, none, none]) (fun nx hnx => ?_) ?_
  · simp only [wSeq, wIf, wEvT, wEv, wEvL, wAsg, wAsgL, wRet, wRetN, wDrop, wNext, wBreak, wCont, wB, wAnd, wOr, wNot, wAndV, wOrV, wNotV, wIfE, wOp, wUn, wCa, wCaL, wM1, wM1L, wL, wLst, wTup, wNil, wCons, wC, wVar, wCall, wLen, wLc, wIt, wItT, wItS, wRng1, wRng2, wFor, wPart, wNo, wSlL, wSlS, wOpL, wAsgG, gN, gT, gCons', gNil', wApp, wSet, wYes, bodyD, startD, mask, aft, frz, Sl.d, Sl.own, xsc, fEq, fNe, fIn, fNotIn, fFind, fCount, fStarts, ex_bl, fI_ii, fI0_ii, fAdd_ii, fSub_ii, fAnd_ii, fOr_ii, fXor_ii, fLt_ii, fLe_ii, fGt_ii, fGe_ii, fMul_ii, fMod_ii, fDiv_ii, fPow_ii, fShl_ii, fShr_ii, fAddS_ss, fEqN_ii, fEqN_ss, fEqN_bb, fEqN_nn, fEqN_ni, fEqN_in, fIsN_n, fNotN_n, isN_n, isN_i, isN_s, isN_l, isN_t, scal_n, scal_i, scal_b, scal_s, scal_r, scal_l, scal_t, fLen_l, fLen_t, fLen_s, fAbs_i, fMin2_i, fMax2_i, fList_l, fList_t, fTuple_l, fTuple_t, fStrI_i, fCat_ll, fIx_l, fIx_t, fIx_s, fInN_l, fInN_t, fSplit_s, fPartition_s, fS2_s, isi_i1, isi_i2, isi_i3, isi_i4, isi_i5, isi_n1, isi_n2, isi_n3, isi_n4, isi_n5, isi_s1, isi_s5, isi_l1, isi_l3, isi_l4, isi_t1, isi_t3, isi_t4, List.getElem?_cons_zero, List.getElem?_cons_succ, List.getElem?_nil, List.set_cons_zero, List.set_cons_succ, List.length_cons, List.length_nil, List.map_cons, List.map_nil, List.cons_append, List.nil_append, List.replicate_succ, List.replicate_zero, Option.some.injEq, exists_eq_left', exists_eq_left, decide_eq_true_eq, Bool.not_eq_true', Bool.not_eq_true, decide_eq_false_iff_not, Bool.false_eq_true, if_false, if_true, if_false, ite_true, ite_false, Bool.not_true, Bool.not_false, Nat.reduceAdd, Nat.reduceSub, Nat.reduceMul, ite_self, true_and, and_true, reduceCtorEq, D.int.injEq, D.bl.injEq, D.str.injEq, D.lst.injEq, D.tup.injEq, D.ty.injEq, List.cons.injEq, and_self, List.all_cons, List.all_nil, Bool.and_true, Bool.and_self, Bool.true_and, Bool.and_false, Bool.false_and, List.not_mem_nil, not_false_eq_true, List.isEmpty_nil, List.mapIdx_cons, List.mapIdx_nil, List.mem_cons, or_false]
    exact hnx
  refine seq_abs (env1 := [some (.fz (.lst (ns.map .int))), some (.fz (.str (Str.ofString ""))), some (.ol []), none, none, none, none, none]) (fun nx hnx => ?_) ?_
  · simp only [wSeq, wIf, wEvT, wEv, wEvL, wAsg, wAsgL, wRet, wRetN, wDrop, wNext, wBreak, wCont, wB, wAnd, wOr, wNot, wAndV, wOrV, wNotV, wIfE, wOp, wUn, wCa, wCaL, wM1, wM1L, wL, wLst, wTup, wNil, wCons, wC, wVar, wCall, wLen, wLc, wIt, wItT, wItS, wRng1, wRng2, wFor, wPart, wNo, wSlL, wSlS, wOpL, wAsgG, gN, gT, gCons', gNil', wApp, wSet, wYes, bodyD, startD, mask, aft, frz, Sl.d, Sl.own, xsc, fEq, fNe, fIn, fNotIn, fFind, fCount, fStarts, ex_bl, fI_ii, fI0_ii, fAdd_ii, fSub_ii, fAnd_ii, fOr_ii, fXor_ii, fLt_ii, fLe_ii, fGt_ii, fGe_ii, fMul_ii, fMod_ii, fDiv_ii, fPow_ii, fShl_ii, fShr_ii, fAddS_ss, fEqN_ii, fEqN_ss, fEqN_bb, fEqN_nn, fEqN_ni, fEqN_in, fIsN_n, fNotN_n, isN_n, isN_i, isN_s, isN_l, isN_t, scal_n, scal_i, scal_b, scal_s, scal_r, scal_l, scal_t, fLen_l, fLen_t, fLen_s, fAbs_i, fMin2_i, fMax2_i, fList_l, fList_t, fTuple_l, fTuple_t, fStrI_i, fCat_ll, fIx_l, fIx_t, fIx_s, fInN_l, fInN_t, fSplit_s, fPartition_s, fS2_s, isi_i1, isi_i2, isi_i3, isi_i4, isi_i5, isi_n1, isi_n2, isi_n3, isi_n4, isi_n5, isi_s1, isi_s5, isi_l1, isi_l3, isi_l4, isi_t1, isi_t3, isi_t4, List.getElem?_cons_zero, List.getElem?_cons_succ, List.getElem?_nil, List.set_cons_zero, List.set_cons_succ, List.length_cons, List.length_nil, List.map_cons, List.map_nil, List.cons_append, List.nil_append, List.replicate_succ, List.replicate_zero, Option.some.injEq, exists_eq_left', exists_eq_left, decide_eq_true_eq, Bool.not_eq_true', Bool.not_eq_true, decide_eq_false_iff_not, Bool.false_eq_true, if_false, if_true, if_false, ite_true, ite_false, Bool.not_true, Bool.not_false, Nat.reduceAdd, Nat.reduceSub, Nat.reduceMul, ite_self, true_and, and_true, reduceCtorEq, D.int.injEq, D.bl.injEq, D.str.injEq, D.lst.injEq, D.tup.injEq, D.ty.injEq, List.cons.injEq, and_self, List.all_cons, List.all_nil, Bool.and_true, Bool.and_self, Bool.true_and, Bool.and_false, Bool.false_and, List.not_mem_nil, not_false_eq_true, List.isEmpty_nil, List.mapIdx_cons, List.mapIdx_nil, List.mem_cons, or_false]
    exact ⟨Nat.zero_le _, hnx⟩
  refine seq_word (fun env => ∃ (t : Str) (row : List Int) (o : Option Sl), env = [some (.fz (.lst (ns.map .int))), some (.fz (.str t)), some (.ol (row.map .int)), o, none, none, none, none] ∧ t.length ≤ 84 ∧ row.length ≤ 84 ∧ ∀ n ∈ row, 0 ≤ n ∧ n < 10000) (fun nx hnx => ?_) ?_
  · simp only [wSeq, wIf, wEvT, wEv, wEvL, wAsg, wAsgL, wRet, wRetN, wDrop, wNext, wBreak, wCont, wB, wAnd, wOr, wNot, wAndV, wOrV, wNotV, wIfE, wOp, wUn, wCa, wCaL, wM1, wM1L, wL, wLst, wTup, wNil, wCons, wC, wVar, wCall, wLen, wLc, wIt, wItT, wItS, wRng1, wRng2, wFor, wPart, wNo, wSlL, wSlS, wOpL, wAsgG, gN, gT, gCons', gNil', wApp, wSet, wYes, bodyD, startD, mask, aft, frz, Sl.d, Sl.own, xsc, fEq, fNe, fIn, fNotIn, fFind, fCount, fStarts, ex_bl, fI_ii, fI0_ii, fAdd_ii, fSub_ii, fAnd_ii, fOr_ii, fXor_ii, fLt_ii, fLe_ii, fGt_ii, fGe_ii, fMul_ii, fMod_ii, fDiv_ii, fPow_ii, fShl_ii, fShr_ii, fAddS_ss, fEqN_ii, fEqN_ss, fEqN_bb, fEqN_nn, fEqN_ni, fEqN_in, fIsN_n, fNotN_n, isN_n, isN_i, isN_s, isN_l, isN_t, scal_n, scal_i, scal_b, scal_s, scal_r, scal_l, scal_t, fLen_l, fLen_t, fLen_s, fAbs_i, fMin2_i, fMax2_i, fList_l, fList_t, fTuple_l, fTuple_t, fStrI_i, fCat_ll, fIx_l, fIx_t, fIx_s, fInN_l, fInN_t, fSplit_s, fPartition_s, fS2_s, isi_i1, isi_i2, isi_i3, isi_i4, isi_i5, isi_n1, isi_n2, isi_n3, isi_n4, isi_n5, isi_s1, isi_s5, isi_l1, isi_l3, isi_l4, isi_t1, isi_t3, isi_t4, List.getElem?_cons_zero, List.getElem?_cons_succ, List.getElem?_nil, List.set_cons_zero, List.set_cons_succ, List.length_cons, List.length_nil, List.map_cons, List.map_nil, List.cons_append, List.nil_append, List.replicate_succ, List.replicate_zero, Option.some.injEq, exists_eq_left', exists_eq_left, decide_eq_true_eq, Bool.not_eq_true', Bool.not_eq_true, decide_eq_false_iff_not, Bool.false_eq_true, if_false, if_true, if_false, ite_true, ite_false, Bool.not_true, Bool.not_false, Nat.reduceAdd, Nat.reduceSub, Nat.reduceMul, ite_self, true_and, and_true, reduceCtorEq, D.int.injEq, D.bl.injEq, D.str.injEq, D.lst.injEq, D.tup.injEq, D.ty.injEq, List.cons.injEq, and_self, List.all_cons, List.all_nil, Bool.and_true, Bool.and_self, Bool.true_and, Bool.and_false, Bool.false_and, List.not_mem_nil, not_false_eq_true, List.isEmpty_nil, List.mapIdx_cons, List.mapIdx_nil, List.mem_cons, or_false]
    obtain ⟨m, em⟩ := cut_none ns 84
    rw [em]
    have hm : (ns.take m).length ≤ 63 := Nat.le_trans (List.length_take_le' _ _) hs
    refine loop_T (fun p env => ∃ (t : Str) (row : List Int) (o : Option Sl), env = [some (.fz (.lst (ns.map .int))), some (.fz (.str t)), some (.ol (row.map .int)), o, none, none, none, none] ∧ t.length ≤ p.length ∧ row.length ≤ p.length ∧ ∀ n ∈ row, 0 ≤ n ∧ n < 10000)
      ⟨_, [], _, rfl, by decide +kernel, Nat.zero_le _, by simp⟩ (fun p x q env nx e hI hn => ?_) fun env hI => ?_
    · obtain ⟨t, row, o, rfl, ht, hr, hrow⟩ := hI
      have hpl : p.length < 63 := by
        have : (ns.take m).length = (p ++ x :: q).length := by rw [e]
        rw [List.length_append, List.length_cons] at this
        omega
      show wSeq _ _ _ _
      have hx0 : 0 ≤ lawNum x := Int.emod_nonneg _ (by decide)
      obtain ⟨c, hc, _⟩ := atI_ok (xs := (Str.ofString "0123456789012,,>>>-x||").cps.toList) (i := lawNum x % 22) (by omega) (by rw [signs_22]; omega)
      refine seq_abs (env1 := [some (.fz (.lst (ns.map .int))), some (.fz (.str (t ++ ⟨#[c]⟩))), some (.ol (row.map .int)), some (.fz (.int x)), none, none, none, none]) (fun nx hnx => ?_) ?_
      · simp only [wSeq, wIf, wEvT, wEv, wEvL, wAsg, wAsgL, wRet, wRetN, wDrop, wNext, wBreak, wCont, wB, wAnd, wOr, wNot, wAndV, wOrV, wNotV, wIfE, wOp, wUn, wCa, wCaL, wM1, wM1L, wL, wLst, wTup, wNil, wCons, wC, wVar, wCall, wLen, wLc, wIt, wItT, wItS, wRng1, wRng2, wFor, wPart, wNo, wSlL, wSlS, wOpL, wAsgG, gN, gT, gCons', gNil', wApp, wSet, wYes, bodyD, startD, mask, aft, frz, Sl.d, Sl.own, xsc, fEq, fNe, fIn, fNotIn, fFind, fCount, fStarts, ex_bl, fI_ii, fI0_ii, fAdd_ii, fSub_ii, fAnd_ii, fOr_ii, fXor_ii, fLt_ii, fLe_ii, fGt_ii, fGe_ii, fMul_ii, fMod_ii, fDiv_ii, fPow_ii, fShl_ii, fShr_ii, fAddS_ss, fEqN_ii, fEqN_ss, fEqN_bb, fEqN_nn, fEqN_ni, fEqN_in, fIsN_n, fNotN_n, isN_n, isN_i, isN_s, isN_l, isN_t, scal_n, scal_i, scal_b, scal_s, scal_r, scal_l, scal_t, fLen_l, fLen_t, fLen_s, fAbs_i, fMin2_i, fMax2_i, fList_l, fList_t, fTuple_l, fTuple_t, fStrI_i, fCat_ll, fIx_l, fIx_t, fIx_s, fInN_l, fInN_t, fSplit_s, fPartition_s, fS2_s, isi_i1, isi_i2, isi_i3, isi_i4, isi_i5, isi_n1, isi_n2, isi_n3, isi_n4, isi_n5, isi_s1, isi_s5, isi_l1, isi_l3, isi_l4, isi_t1, isi_t3, isi_t4, List.getElem?_cons_zero, List.getElem?_cons_succ, List.getElem?_nil, List.set_cons_zero, List.set_cons_succ, List.length_cons, List.length_nil, List.map_cons, List.map_nil, List.cons_append, List.nil_append, List.replicate_succ, List.replicate_zero, Option.some.injEq, exists_eq_left', exists_eq_left, decide_eq_true_eq, Bool.not_eq_true', Bool.not_eq_true, decide_eq_false_iff_not, Bool.false_eq_true, if_false, if_true, if_false, ite_true, ite_false, Bool.not_true, Bool.not_false, Nat.reduceAdd, Nat.reduceSub, Nat.reduceMul, ite_self, true_and, and_true, reduceCtorEq, D.int.injEq, D.bl.injEq, D.str.injEq, D.lst.injEq, D.tup.injEq, D.ty.injEq, List.cons.injEq, and_self, List.all_cons, List.all_nil, Bool.and_true, Bool.and_self, Bool.true_and, Bool.and_false, Bool.false_and, List.not_mem_nil, not_false_eq_true, List.isEmpty_nil, List.mapIdx_cons, List.mapIdx_nil, List.mem_cons, or_false]
        refine ⟨x, rfl, ?_⟩
        simp only [wSeq, wIf, wEvT, wEv, wEvL, wAsg, wAsgL, wRet, wRetN, wDrop, wNext, wBreak, wCont, wB, wAnd, wOr, wNot, wAndV, wOrV, wNotV, wIfE, wOp, wUn, wCa, wCaL, wM1, wM1L, wL, wLst, wTup, wNil, wCons, wC, wVar, wCall, wLen, wLc, wIt, wItT, wItS, wRng1, wRng2, wFor, wPart, wNo, wSlL, wSlS, wOpL, wAsgG, gN, gT, gCons', gNil', wApp, wSet, wYes, bodyD, startD, mask, aft, frz, Sl.d, Sl.own, xsc, fEq, fNe, fIn, fNotIn, fFind, fCount, fStarts, ex_bl, fI_ii, fI0_ii, fAdd_ii, fSub_ii, fAnd_ii, fOr_ii, fXor_ii, fLt_ii, fLe_ii, fGt_ii, fGe_ii, fMul_ii, fMod_ii, fDiv_ii, fPow_ii, fShl_ii, fShr_ii, fAddS_ss, fEqN_ii, fEqN_ss, fEqN_bb, fEqN_nn, fEqN_ni, fEqN_in, fIsN_n, fNotN_n, isN_n, isN_i, isN_s, isN_l, isN_t, scal_n, scal_i, scal_b, scal_s, scal_r, scal_l, scal_t, fLen_l, fLen_t, fLen_s, fAbs_i, fMin2_i, fMax2_i, fList_l, fList_t, fTuple_l, fTuple_t, fStrI_i, fCat_ll, fIx_l, fIx_t, fIx_s, fInN_l, fInN_t, fSplit_s, fPartition_s, fS2_s, isi_i1, isi_i2, isi_i3, isi_i4, isi_i5, isi_n1, isi_n2, isi_n3, isi_n4, isi_n5, isi_s1, isi_s5, isi_l1, isi_l3, isi_l4, isi_t1, isi_t3, isi_t4, List.getElem?_cons_zero, List.getElem?_cons_succ, List.getElem?_nil, List.set_cons_zero, List.set_cons_succ, List.length_cons, List.length_nil, List.map_cons, List.map_nil, List.cons_append, List.nil_append, List.replicate_succ, List.replicate_zero, Option.some.injEq, exists_eq_left', exists_eq_left, decide_eq_true_eq, Bool.not_eq_true', Bool.not_eq_true, decide_eq_false_iff_not, Bool.false_eq_true, if_false, if_true, if_false, ite_true, ite_false, Bool.not_true, Bool.not_false, Nat.reduceAdd, Nat.reduceSub, Nat.reduceMul, ite_self, true_and, and_true, reduceCtorEq, D.int.injEq, D.bl.injEq, D.str.injEq, D.lst.injEq, D.tup.injEq, D.ty.injEq, List.cons.injEq, and_self, List.all_cons, List.all_nil, Bool.and_true, Bool.and_self, Bool.true_and, Bool.and_false, Bool.false_and, List.not_mem_nil, not_false_eq_true, List.isEmpty_nil, List.mapIdx_cons, List.mapIdx_nil, List.mem_cons, or_false]
        refine ⟨by decide, (by decide +kernel : (Str.ofString "0123456789012,,>>>-x||").length ≤ sizeLine), c, hc, sz_m (by show t.length + 1 ≤ _; omega), hnx⟩
      · simp only [wSeq, wIf, wEvT, wEv, wEvL, wAsg, wAsgL, wRet, wRetN, wDrop, wNext, wBreak, wCont, wB, wAnd, wOr, wNot, wAndV, wOrV, wNotV, wIfE, wOp, wUn, wCa, wCaL, wM1, wM1L, wL, wLst, wTup, wNil, wCons, wC, wVar, wCall, wLen, wLc, wIt, wItT, wItS, wRng1, wRng2, wFor, wPart, wNo, wSlL, wSlS, wOpL, wAsgG, gN, gT, gCons', gNil', wApp, wSet, wYes, bodyD, startD, mask, aft, frz, Sl.d, Sl.own, xsc, fEq, fNe, fIn, fNotIn, fFind, fCount, fStarts, ex_bl, fI_ii, fI0_ii, fAdd_ii, fSub_ii, fAnd_ii, fOr_ii, fXor_ii, fLt_ii, fLe_ii, fGt_ii, fGe_ii, fMul_ii, fMod_ii, fDiv_ii, fPow_ii, fShl_ii, fShr_ii, fAddS_ss, fEqN_ii, fEqN_ss, fEqN_bb, fEqN_nn, fEqN_ni, fEqN_in, fIsN_n, fNotN_n, isN_n, isN_i, isN_s, isN_l, isN_t, scal_n, scal_i, scal_b, scal_s, scal_r, scal_l, scal_t, fLen_l, fLen_t, fLen_s, fAbs_i, fMin2_i, fMax2_i, fList_l, fList_t, fTuple_l, fTuple_t, fStrI_i, fCat_ll, fIx_l, fIx_t, fIx_s, fInN_l, fInN_t, fSplit_s, fPartition_s, fS2_s, isi_i1, isi_i2, isi_i3, isi_i4, isi_i5, isi_n1, isi_n2, isi_n3, isi_n4, isi_n5, isi_s1, isi_s5, isi_l1, isi_l3, isi_l4, isi_t1, isi_t3, isi_t4, List.getElem?_cons_zero, List.getElem?_cons_succ, List.getElem?_nil, List.set_cons_zero, List.set_cons_succ, List.length_cons, List.length_nil, List.map_cons, List.map_nil, List.cons_append, List.nil_append, List.replicate_succ, List.replicate_zero, Option.some.injEq, exists_eq_left', exists_eq_left, decide_eq_true_eq, Bool.not_eq_true', Bool.not_eq_true, decide_eq_false_iff_not, Bool.false_eq_true, if_false, if_true, if_false, ite_true, ite_false, Bool.not_true, Bool.not_false, Nat.reduceAdd, Nat.reduceSub, Nat.reduceMul, ite_self, true_and, and_true, reduceCtorEq, D.int.injEq, D.bl.injEq, D.str.injEq, D.lst.injEq, D.tup.injEq, D.ty.injEq, List.cons.injEq, and_self, List.all_cons, List.all_nil, Bool.and_true, Bool.and_self, Bool.true_and, Bool.and_false, Bool.false_and, List.not_mem_nil, not_false_eq_true, List.isEmpty_nil, List.mapIdx_cons, List.mapIdx_nil, List.mem_cons, or_false]
        refine ⟨ns, 0, rfl, by decide, _, rfl, ?_⟩
        simp only [wSeq, wIf, wEvT, wEv, wEvL, wAsg, wAsgL, wRet, wRetN, wDrop, wNext, wBreak, wCont, wB, wAnd, wOr, wNot, wAndV, wOrV, wNotV, wIfE, wOp, wUn, wCa, wCaL, wM1, wM1L, wL, wLst, wTup, wNil, wCons, wC, wVar, wCall, wLen, wLc, wIt, wItT, wItS, wRng1, wRng2, wFor, wPart, wNo, wSlL, wSlS, wOpL, wAsgG, gN, gT, gCons', gNil', wApp, wSet, wYes, bodyD, startD, mask, aft, frz, Sl.d, Sl.own, xsc, fEq, fNe, fIn, fNotIn, fFind, fCount, fStarts, ex_bl, fI_ii, fI0_ii, fAdd_ii, fSub_ii, fAnd_ii, fOr_ii, fXor_ii, fLt_ii, fLe_ii, fGt_ii, fGe_ii, fMul_ii, fMod_ii, fDiv_ii, fPow_ii, fShl_ii, fShr_ii, fAddS_ss, fEqN_ii, fEqN_ss, fEqN_bb, fEqN_nn, fEqN_ni, fEqN_in, fIsN_n, fNotN_n, isN_n, isN_i, isN_s, isN_l, isN_t, scal_n, scal_i, scal_b, scal_s, scal_r, scal_l, scal_t, fLen_l, fLen_t, fLen_s, fAbs_i, fMin2_i, fMax2_i, fList_l, fList_t, fTuple_l, fTuple_t, fStrI_i, fCat_ll, fIx_l, fIx_t, fIx_s, fInN_l, fInN_t, fSplit_s, fPartition_s, fS2_s, isi_i1, isi_i2, isi_i3, isi_i4, isi_i5, isi_n1, isi_n2, isi_n3, isi_n4, isi_n5, isi_s1, isi_s5, isi_l1, isi_l3, isi_l4, isi_t1, isi_t3, isi_t4, List.getElem?_cons_zero, List.getElem?_cons_succ, List.getElem?_nil, List.set_cons_zero, List.set_cons_succ, List.length_cons, List.length_nil, List.map_cons, List.map_nil, List.cons_append, List.nil_append, List.replicate_succ, List.replicate_zero, Option.some.injEq, exists_eq_left', exists_eq_left, decide_eq_true_eq, Bool.not_eq_true', Bool.not_eq_true, decide_eq_false_iff_not, Bool.false_eq_true, if_false, if_true, if_false, ite_true, ite_false, Bool.not_true, Bool.not_false, Nat.reduceAdd, Nat.reduceSub, Nat.reduceMul, ite_self, true_and, and_true, reduceCtorEq, D.int.injEq, D.bl.injEq, D.str.injEq, D.lst.injEq, D.tup.injEq, D.ty.injEq, List.cons.injEq, and_self, List.all_cons, List.all_nil, Bool.and_true, Bool.and_self, Bool.true_and, Bool.and_false, Bool.false_and, List.not_mem_nil, not_false_eq_true, List.isEmpty_nil, List.mapIdx_cons, List.mapIdx_nil, List.mem_cons, or_false]
        have hl1 : (t ++ (⟨#[c]⟩ : Str)).length ≤ (p ++ [x]).length := by
          have : (t ++ (⟨#[c]⟩ : Str)).length = t.length + 1 := by simp [Str.length, Str.cps_append]
          rw [this, List.length_append]
          simp
          omega
        refine ⟨⟨by decide, by decide⟩, by decide, ite2 (fun c1 => ?_) fun c1 => ?_⟩
        · refine ⟨row.map D.int, rfl, Nat.lt_of_le_of_lt (by rw [List.length_map]; exact hr) (Nat.lt_of_lt_of_le hpl (by decide)), x, rfl, ?_⟩
          simp only [wSeq, wIf, wEvT, wEv, wEvL, wAsg, wAsgL, wRet, wRetN, wDrop, wNext, wBreak, wCont, wB, wAnd, wOr, wNot, wAndV, wOrV, wNotV, wIfE, wOp, wUn, wCa, wCaL, wM1, wM1L, wL, wLst, wTup, wNil, wCons, wC, wVar, wCall, wLen, wLc, wIt, wItT, wItS, wRng1, wRng2, wFor, wPart, wNo, wSlL, wSlS, wOpL, wAsgG, gN, gT, gCons', gNil', wApp, wSet, wYes, bodyD, startD, mask, aft, frz, Sl.d, Sl.own, xsc, fEq, fNe, fIn, fNotIn, fFind, fCount, fStarts, ex_bl, fI_ii, fI0_ii, fAdd_ii, fSub_ii, fAnd_ii, fOr_ii, fXor_ii, fLt_ii, fLe_ii, fGt_ii, fGe_ii, fMul_ii, fMod_ii, fDiv_ii, fPow_ii, fShl_ii, fShr_ii, fAddS_ss, fEqN_ii, fEqN_ss, fEqN_bb, fEqN_nn, fEqN_ni, fEqN_in, fIsN_n, fNotN_n, isN_n, isN_i, isN_s, isN_l, isN_t, scal_n, scal_i, scal_b, scal_s, scal_r, scal_l, scal_t, fLen_l, fLen_t, fLen_s, fAbs_i, fMin2_i, fMax2_i, fList_l, fList_t, fTuple_l, fTuple_t, fStrI_i, fCat_ll, fIx_l, fIx_t, fIx_s, fInN_l, fInN_t, fSplit_s, fPartition_s, fS2_s, isi_i1, isi_i2, isi_i3, isi_i4, isi_i5, isi_n1, isi_n2, isi_n3, isi_n4, isi_n5, isi_s1, isi_s5, isi_l1, isi_l3, isi_l4, isi_t1, isi_t3, isi_t4, List.getElem?_cons_zero, List.getElem?_cons_succ, List.getElem?_nil, List.set_cons_zero, List.set_cons_succ, List.length_cons, List.length_nil, List.map_cons, List.map_nil, List.cons_append, List.nil_append, List.replicate_succ, List.replicate_zero, Option.some.injEq, exists_eq_left', exists_eq_left, decide_eq_true_eq, Bool.not_eq_true', Bool.not_eq_true, decide_eq_false_iff_not, Bool.false_eq_true, if_false, if_true, if_false, ite_true, ite_false, Bool.not_true, Bool.not_false, Nat.reduceAdd, Nat.reduceSub, Nat.reduceMul, ite_self, true_and, and_true, reduceCtorEq, D.int.injEq, D.bl.injEq, D.str.injEq, D.lst.injEq, D.tup.injEq, D.ty.injEq, List.cons.injEq, and_self, List.all_cons, List.all_nil, Bool.and_true, Bool.and_self, Bool.true_and, Bool.and_false, Bool.false_and, List.not_mem_nil, not_false_eq_true, List.isEmpty_nil, List.mapIdx_cons, List.mapIdx_nil, List.mem_cons, or_false]
          refine ⟨⟨by decide, by decide⟩, by decide, hn _ ⟨_, row ++ [lawNum x / 22 % 1201], _, by rw [List.map_append]; rfl, hl1, by rw [List.length_append, List.length_append]; simp; omega, fun n hin => ?_⟩⟩
          rcases List.mem_append.mp hin with hin | hin
          · exact hrow n hin
          · rw [List.mem_singleton.mp hin]
            omega
        · exact hn _ ⟨_, row, _, rfl, hl1, by rw [List.length_append]; omega, hrow⟩
    · obtain ⟨t, row, o, rfl, ht, hr, hrow⟩ := hI
      exact hnx _ ⟨t, row, o, rfl, by omega, by omega, hrow⟩
  · rintro _ ⟨t, row, o, rfl, ht, hr, hrow⟩
    refine seq_abs (env1 := [some (.fz (.lst (ns.map .int))), some (.fz (.str t)), some (.ol (row.map .int)), o, some (.fz (.str (Str.ofString "-"))), none, none, none]) (fun nx hnx => ?_) ?_
    · simp only [wSeq, wIf, wEvT, wEv, wEvL, wAsg, wAsgL, wRet, wRetN, wDrop, wNext, wBreak, wCont, wB, wAnd, wOr, wNot, wAndV, wOrV, wNotV, wIfE, wOp, wUn, wCa, wCaL, wM1, wM1L, wL, wLst, wTup, wNil, wCons, wC, wVar, wCall, wLen, wLc, wIt, wItT, wItS, wRng1, wRng2, wFor, wPart, wNo, wSlL, wSlS, wOpL, wAsgG, gN, gT, gCons', gNil', wApp, wSet, wYes, bodyD, startD, mask, aft, frz, Sl.d, Sl.own, xsc, fEq, fNe, fIn, fNotIn, fFind, fCount, fStarts, ex_bl, fI_ii, fI0_ii, fAdd_ii, fSub_ii, fAnd_ii, fOr_ii, fXor_ii, fLt_ii, fLe_ii, fGt_ii, fGe_ii, fMul_ii, fMod_ii, fDiv_ii, fPow_ii, fShl_ii, fShr_ii, fAddS_ss, fEqN_ii, fEqN_ss, fEqN_bb, fEqN_nn, fEqN_ni, fEqN_in, fIsN_n, fNotN_n, isN_n, isN_i, isN_s, isN_l, isN_t, scal_n, scal_i, scal_b, scal_s, scal_r, scal_l, scal_t, fLen_l, fLen_t, fLen_s, fAbs_i, fMin2_i, fMax2_i, fList_l, fList_t, fTuple_l, fTuple_t, fStrI_i, fCat_ll, fIx_l, fIx_t, fIx_s, fInN_l, fInN_t, fSplit_s, fPartition_s, fS2_s, isi_i1, isi_i2, isi_i3, isi_i4, isi_i5, isi_n1, isi_n2, isi_n3, isi_n4, isi_n5, isi_s1, isi_s5, isi_l1, isi_l3, isi_l4, isi_t1, isi_t3, isi_t4, List.getElem?_cons_zero, List.getElem?_cons_succ, List.getElem?_nil, List.set_cons_zero, List.set_cons_succ, List.length_cons, List.length_nil, List.map_cons, List.map_nil, List.cons_append, List.nil_append, List.replicate_succ, List.replicate_zero, Option.some.injEq, exists_eq_left', exists_eq_left, decide_eq_true_eq, Bool.not_eq_true', Bool.not_eq_true, decide_eq_false_iff_not, Bool.false_eq_true, if_false, if_true, if_false, ite_true, ite_false, Bool.not_true, Bool.not_false, Nat.reduceAdd, Nat.reduceSub, Nat.reduceMul, ite_self, true_and, and_true, reduceCtorEq, D.int.injEq, D.bl.injEq, D.str.injEq, D.lst.injEq, D.tup.injEq, D.ty.injEq, List.cons.injEq, and_self, List.all_cons, List.all_nil, Bool.and_true, Bool.and_self, Bool.true_and, Bool.and_false, Bool.false_and, List.not_mem_nil, not_false_eq_true, List.isEmpty_nil, List.mapIdx_cons, List.mapIdx_nil, List.mem_cons, or_false]
      exact hnx
    refine seq_abs (env1 := [some (.fz (.lst (ns.map .int))), some (.fz (.str t)), some (.ol (row.map .int)), o, some (.fz (.str (shown row))), none, none, none]) (fun nx hnx => ?_) ?_
    · simp only [wSeq, wIf, wEvT, wEv, wEvL, wAsg, wAsgL, wRet, wRetN, wDrop, wNext, wBreak, wCont, wB, wAnd, wOr, wNot, wAndV, wOrV, wNotV, wIfE, wOp, wUn, wCa, wCaL, wM1, wM1L, wL, wLst, wTup, wNil, wCons, wC, wVar, wCall, wLen, wLc, wIt, wItT, wItS, wRng1, wRng2, wFor, wPart, wNo, wSlL, wSlS, wOpL, wAsgG, gN, gT, gCons', gNil', wApp, wSet, wYes, bodyD, startD, mask, aft, frz, Sl.d, Sl.own, xsc, fEq, fNe, fIn, fNotIn, fFind, fCount, fStarts, ex_bl, fI_ii, fI0_ii, fAdd_ii, fSub_ii, fAnd_ii, fOr_ii, fXor_ii, fLt_ii, fLe_ii, fGt_ii, fGe_ii, fMul_ii, fMod_ii, fDiv_ii, fPow_ii, fShl_ii, fShr_ii, fAddS_ss, fEqN_ii, fEqN_ss, fEqN_bb, fEqN_nn, fEqN_ni, fEqN_in, fIsN_n, fNotN_n, isN_n, isN_i, isN_s, isN_l, isN_t, scal_n, scal_i, scal_b, scal_s, scal_r, scal_l, scal_t, fLen_l, fLen_t, fLen_s, fAbs_i, fMin2_i, fMax2_i, fList_l, fList_t, fTuple_l, fTuple_t, fStrI_i, fCat_ll, fIx_l, fIx_t, fIx_s, fInN_l, fInN_t, fSplit_s, fPartition_s, fS2_s, isi_i1, isi_i2, isi_i3, isi_i4, isi_i5, isi_n1, isi_n2, isi_n3, isi_n4, isi_n5, isi_s1, isi_s5, isi_l1, isi_l3, isi_l4, isi_t1, isi_t3, isi_t4, List.getElem?_cons_zero, List.getElem?_cons_succ, List.getElem?_nil, List.set_cons_zero, List.set_cons_succ, List.length_cons, List.length_nil, List.map_cons, List.map_nil, List.cons_append, List.nil_append, List.replicate_succ, List.replicate_zero, Option.some.injEq, exists_eq_left', exists_eq_left, decide_eq_true_eq, Bool.not_eq_true', Bool.not_eq_true, decide_eq_false_iff_not, Bool.false_eq_true, if_false, if_true, if_false, ite_true, ite_false, Bool.not_true, Bool.not_false, Nat.reduceAdd, Nat.reduceSub, Nat.reduceMul, ite_self, true_and, and_true, reduceCtorEq, D.int.injEq, D.bl.injEq, D.str.injEq, D.lst.injEq, D.tup.injEq, D.ty.injEq, List.cons.injEq, and_self, List.all_cons, List.all_nil, Bool.and_true, Bool.and_self, Bool.true_and, Bool.and_false, Bool.false_and, List.not_mem_nil, not_false_eq_true, List.isEmpty_nil, List.mapIdx_cons, List.mapIdx_nil, List.mem_cons, or_false]
      refine ⟨Nat.zero_le _, fEqN_ints (ys := []) ?_⟩
      refine ⟨_, rfl, ?_⟩
      unfold shown at hnx
      by_cases hr0 : row = []
      · subst hr0
        exact hnx
      · rw [if_neg hr0] at hnx
        rw [if_pos (by simpa using hr0)]
        refine lc_mapT (f := fun n => D.str (PySem.Str.ofString (toString n))) (fun n hin k hk => ?_) ?_
        · simp only [wSeq, wIf, wEvT, wEv, wEvL, wAsg, wAsgL, wRet, wRetN, wDrop, wNext, wBreak, wCont, wB, wAnd, wOr, wNot, wAndV, wOrV, wNotV, wIfE, wOp, wUn, wCa, wCaL, wM1, wM1L, wL, wLst, wTup, wNil, wCons, wC, wVar, wCall, wLen, wLc, wIt, wItT, wItS, wRng1, wRng2, wFor, wPart, wNo, wSlL, wSlS, wOpL, wAsgG, gN, gT, gCons', gNil', wApp, wSet, wYes, bodyD, startD, mask, aft, frz, Sl.d, Sl.own, xsc, fEq, fNe, fIn, fNotIn, fFind, fCount, fStarts, ex_bl, fI_ii, fI0_ii, fAdd_ii, fSub_ii, fAnd_ii, fOr_ii, fXor_ii, fLt_ii, fLe_ii, fGt_ii, fGe_ii, fMul_ii, fMod_ii, fDiv_ii, fPow_ii, fShl_ii, fShr_ii, fAddS_ss, fEqN_ii, fEqN_ss, fEqN_bb, fEqN_nn, fEqN_ni, fEqN_in, fIsN_n, fNotN_n, isN_n, isN_i, isN_s, isN_l, isN_t, scal_n, scal_i, scal_b, scal_s, scal_r, scal_l, scal_t, fLen_l, fLen_t, fLen_s, fAbs_i, fMin2_i, fMax2_i, fList_l, fList_t, fTuple_l, fTuple_t, fStrI_i, fCat_ll, fIx_l, fIx_t, fIx_s, fInN_l, fInN_t, fSplit_s, fPartition_s, fS2_s, isi_i1, isi_i2, isi_i3, isi_i4, isi_i5, isi_n1, isi_n2, isi_n3, isi_n4, isi_n5, isi_s1, isi_s5, isi_l1, isi_l3, isi_l4, isi_t1, isi_t3, isi_t4, List.getElem?_cons_zero, List.getElem?_cons_succ, List.getElem?_nil, List.set_cons_zero, List.set_cons_succ, List.length_cons, List.length_nil, List.map_cons, List.map_nil, List.cons_append, List.nil_append, List.replicate_succ, List.replicate_zero, Option.some.injEq, exists_eq_left', exists_eq_left, decide_eq_true_eq, Bool.not_eq_true', Bool.not_eq_true, decide_eq_false_iff_not, Bool.false_eq_true, if_false, if_true, if_false, ite_true, ite_false, Bool.not_true, Bool.not_false, Nat.reduceAdd, Nat.reduceSub, Nat.reduceMul, ite_self, true_and, and_true, reduceCtorEq, D.int.injEq, D.bl.injEq, D.str.injEq, D.lst.injEq, D.tup.injEq, D.ty.injEq, List.cons.injEq, and_self, List.all_cons, List.all_nil, Bool.and_true, Bool.and_self, Bool.true_and, Bool.and_false, Bool.false_and, List.not_mem_nil, not_false_eq_true, List.isEmpty_nil, List.mapIdx_cons, List.mapIdx_nil, List.mem_cons, or_false]
          exact ⟨log_small (hrow n hin), hk⟩
        · refine ⟨row.map fun n => PySem.Str.ofString (toString n), .inl ?_, Nat.le_trans (join_len row (by omega) hrow) (by decide), ?_⟩
          · rw [List.nil_append, List.map_map]
            rfl
          · simp only [wSeq, wIf, wEvT, wEv, wEvL, wAsg, wAsgL, wRet, wRetN, wDrop, wNext, wBreak, wCont, wB, wAnd, wOr, wNot, wAndV, wOrV, wNotV, wIfE, wOp, wUn, wCa, wCaL, wM1, wM1L, wL, wLst, wTup, wNil, wCons, wC, wVar, wCall, wLen, wLc, wIt, wItT, wItS, wRng1, wRng2, wFor, wPart, wNo, wSlL, wSlS, wOpL, wAsgG, gN, gT, gCons', gNil', wApp, wSet, wYes, bodyD, startD, mask, aft, frz, Sl.d, Sl.own, xsc, fEq, fNe, fIn, fNotIn, fFind, fCount, fStarts, ex_bl, fI_ii, fI0_ii, fAdd_ii, fSub_ii, fAnd_ii, fOr_ii, fXor_ii, fLt_ii, fLe_ii, fGt_ii, fGe_ii, fMul_ii, fMod_ii, fDiv_ii, fPow_ii, fShl_ii, fShr_ii, fAddS_ss, fEqN_ii, fEqN_ss, fEqN_bb, fEqN_nn, fEqN_ni, fEqN_in, fIsN_n, fNotN_n, isN_n, isN_i, isN_s, isN_l, isN_t, scal_n, scal_i, scal_b, scal_s, scal_r, scal_l, scal_t, fLen_l, fLen_t, fLen_s, fAbs_i, fMin2_i, fMax2_i, fList_l, fList_t, fTuple_l, fTuple_t, fStrI_i, fCat_ll, fIx_l, fIx_t, fIx_s, fInN_l, fInN_t, fSplit_s, fPartition_s, fS2_s, isi_i1, isi_i2, isi_i3, isi_i4, isi_i5, isi_n1, isi_n2, isi_n3, isi_n4, isi_n5, isi_s1, isi_s5, isi_l1, isi_l3, isi_l4, isi_t1, isi_t3, isi_t4, List.getElem?_cons_zero, List.getElem?_cons_succ, List.getElem?_nil, List.set_cons_zero, List.set_cons_succ, List.length_cons, List.length_nil, List.map_cons, List.map_nil, List.cons_append, List.nil_append, List.replicate_succ, List.replicate_zero, Option.some.injEq, exists_eq_left', exists_eq_left, decide_eq_true_eq, Bool.not_eq_true', Bool.not_eq_true, decide_eq_false_iff_not, Bool.false_eq_true, if_false, if_true, if_false, ite_true, ite_false, Bool.not_true, Bool.not_false, Nat.reduceAdd, Nat.reduceSub, Nat.reduceMul, ite_self, true_and, and_true, reduceCtorEq, D.int.injEq, D.bl.injEq, D.str.injEq, D.lst.injEq, D.tup.injEq, D.ty.injEq, List.cons.injEq, and_self, List.all_cons, List.all_nil, Bool.and_true, Bool.and_self, Bool.true_and, Bool.and_false, Bool.false_and, List.not_mem_nil, not_false_eq_true, List.isEmpty_nil, List.mapIdx_cons, List.mapIdx_nil, List.mem_cons, or_false]
            exact hnx
    refine seq_abs (env1 := [some (.fz (.lst (ns.map .int))), some (.fz (.str t)), some (.ol (row.map .int)), o, some (.fz (.str (shown row))), some (.fz (.str (shown row))), none, none]) (fun nx hnx => ?_) ?_
    · simp only [wSeq, wIf, wEvT, wEv, wEvL, wAsg, wAsgL, wRet, wRetN, wDrop, wNext, wBreak, wCont, wB, wAnd, wOr, wNot, wAndV, wOrV, wNotV, wIfE, wOp, wUn, wCa, wCaL, wM1, wM1L, wL, wLst, wTup, wNil, wCons, wC, wVar, wCall, wLen, wLc, wIt, wItT, wItS, wRng1, wRng2, wFor, wPart, wNo, wSlL, wSlS, wOpL, wAsgG, gN, gT, gCons', gNil', wApp, wSet, wYes, bodyD, startD, mask, aft, frz, Sl.d, Sl.own, xsc, fEq, fNe, fIn, fNotIn, fFind, fCount, fStarts, ex_bl, fI_ii, fI0_ii, fAdd_ii, fSub_ii, fAnd_ii, fOr_ii, fXor_ii, fLt_ii, fLe_ii, fGt_ii, fGe_ii, fMul_ii, fMod_ii, fDiv_ii, fPow_ii, fShl_ii, fShr_ii, fAddS_ss, fEqN_ii, fEqN_ss, fEqN_bb, fEqN_nn, fEqN_ni, fEqN_in, fIsN_n, fNotN_n, isN_n, isN_i, isN_s, isN_l, isN_t, scal_n, scal_i, scal_b, scal_s, scal_r, scal_l, scal_t, fLen_l, fLen_t, fLen_s, fAbs_i, fMin2_i, fMax2_i, fList_l, fList_t, fTuple_l, fTuple_t, fStrI_i, fCat_ll, fIx_l, fIx_t, fIx_s, fInN_l, fInN_t, fSplit_s, fPartition_s, fS2_s, isi_i1, isi_i2, isi_i3, isi_i4, isi_i5, isi_n1, isi_n2, isi_n3, isi_n4, isi_n5, isi_s1, isi_s5, isi_l1, isi_l3, isi_l4, isi_t1, isi_t3, isi_t4, List.getElem?_cons_zero, List.getElem?_cons_succ, List.getElem?_nil, List.set_cons_zero, List.set_cons_succ, List.length_cons, List.length_nil, List.map_cons, List.map_nil, List.cons_append, List.nil_append, List.replicate_succ, List.replicate_zero, Option.some.injEq, exists_eq_left', exists_eq_left, decide_eq_true_eq, Bool.not_eq_true', Bool.not_eq_true, decide_eq_false_iff_not, Bool.false_eq_true, if_false, if_true, if_false, ite_true, ite_false, Bool.not_true, Bool.not_false, Nat.reduceAdd, Nat.reduceSub, Nat.reduceMul, ite_self, true_and, and_true, reduceCtorEq, D.int.injEq, D.bl.injEq, D.str.injEq, D.lst.injEq, D.tup.injEq, D.ty.injEq, List.cons.injEq, and_self, List.all_cons, List.all_nil, Bool.and_true, Bool.and_self, Bool.true_and, Bool.and_false, Bool.false_and, List.not_mem_nil, not_false_eq_true, List.isEmpty_nil, List.mapIdx_cons, List.mapIdx_nil, List.mem_cons, or_false]
      exact ⟨row, rfl, by omega, hrow, hnx⟩
    refine seq_abs (env1 := [some (.fz (.lst (ns.map .int))), some (.fz (.str t)), some (.ol (row.map .int)), o, some (.fz (.str (shown row))), some (.fz (.str (shown row))), none, none]) (fun nx hnx => ?_) ?_
    · simp only [wSeq, wIf, wEvT, wEv, wEvL, wAsg, wAsgL, wRet, wRetN, wDrop, wNext, wBreak, wCont, wB, wAnd, wOr, wNot, wAndV, wOrV, wNotV, wIfE, wOp, wUn, wCa, wCaL, wM1, wM1L, wL, wLst, wTup, wNil, wCons, wC, wVar, wCall, wLen, wLc, wIt, wItT, wItS, wRng1, wRng2, wFor, wPart, wNo, wSlL, wSlS, wOpL, wAsgG, gN, gT, gCons', gNil', wApp, wSet, wYes, bodyD, startD, mask, aft, frz, Sl.d, Sl.own, xsc, fEq, fNe, fIn, fNotIn, fFind, fCount, fStarts, ex_bl, fI_ii, fI0_ii, fAdd_ii, fSub_ii, fAnd_ii, fOr_ii, fXor_ii, fLt_ii, fLe_ii, fGt_ii, fGe_ii, fMul_ii, fMod_ii, fDiv_ii, fPow_ii, fShl_ii, fShr_ii, fAddS_ss, fEqN_ii, fEqN_ss, fEqN_bb, fEqN_nn, fEqN_ni, fEqN_in, fIsN_n, fNotN_n, isN_n, isN_i, isN_s, isN_l, isN_t, scal_n, scal_i, scal_b, scal_s, scal_r, scal_l, scal_t, fLen_l, fLen_t, fLen_s, fAbs_i, fMin2_i, fMax2_i, fList_l, fList_t, fTuple_l, fTuple_t, fStrI_i, fCat_ll, fIx_l, fIx_t, fIx_s, fInN_l, fInN_t, fSplit_s, fPartition_s, fS2_s, isi_i1, isi_i2, isi_i3, isi_i4, isi_i5, isi_n1, isi_n2, isi_n3, isi_n4, isi_n5, isi_s1, isi_s5, isi_l1, isi_l3, isi_l4, isi_t1, isi_t3, isi_t4, List.getElem?_cons_zero, List.getElem?_cons_succ, List.getElem?_nil, List.set_cons_zero, List.set_cons_succ, List.length_cons, List.length_nil, List.map_cons, List.map_nil, List.cons_append, List.nil_append, List.replicate_succ, List.replicate_zero, Option.some.injEq, exists_eq_left', exists_eq_left, decide_eq_true_eq, Bool.not_eq_true', Bool.not_eq_true, decide_eq_false_iff_not, Bool.false_eq_true, if_false, if_true, if_false, ite_true, ite_false, Bool.not_true, Bool.not_false, Nat.reduceAdd, Nat.reduceSub, Nat.reduceMul, ite_self, true_and, and_true, reduceCtorEq, D.int.injEq, D.bl.injEq, D.str.injEq, D.lst.injEq, D.tup.injEq, D.ty.injEq, List.cons.injEq, and_self, List.all_cons, List.all_nil, Bool.and_true, Bool.and_self, Bool.true_and, Bool.and_false, Bool.false_and, List.not_mem_nil, not_false_eq_true, List.isEmpty_nil, List.mapIdx_cons, List.mapIdx_nil, List.mem_cons, or_false]
      rw [if_neg (by simp)]
      exact hnx
    have hsl := shown_len row (by omega) hrow
    have l2 := cutS_length t none (some 2)
    have l1 := cutS_length t none (some 1)
    have lg : (Str.ofString ">").length = 1 := by decide +kernel
    have ap : ∀ a b : Str, (a ++ b).length = a.length + b.length := fun a b => by simp [Str.length, Str.cps_append]
    simp only [wSeq, wIf, wEvT, wEv, wEvL, wAsg, wAsgL, wRet, wRetN, wDrop, wNext, wBreak, wCont, wB, wAnd, wOr, wNot, wAndV, wOrV, wNotV, wIfE, wOp, wUn, wCa, wCaL, wM1, wM1L, wL, wLst, wTup, wNil, wCons, wC, wVar, wCall, wLen, wLc, wIt, wItT, wItS, wRng1, wRng2, wFor, wPart, wNo, wSlL, wSlS, wOpL, wAsgG, gN, gT, gCons', gNil', wApp, wSet, wYes, bodyD, startD, mask, aft, frz, Sl.d, Sl.own, xsc, fEq, fNe, fIn, fNotIn, fFind, fCount, fStarts, ex_bl, fI_ii, fI0_ii, fAdd_ii, fSub_ii, fAnd_ii, fOr_ii, fXor_ii, fLt_ii, fLe_ii, fGt_ii, fGe_ii, fMul_ii, fMod_ii, fDiv_ii, fPow_ii, fShl_ii, fShr_ii, fAddS_ss, fEqN_ii, fEqN_ss, fEqN_bb, fEqN_nn, fEqN_ni, fEqN_in, fIsN_n, fNotN_n, isN_n, isN_i, isN_s, isN_l, isN_t, scal_n, scal_i, scal_b, scal_s, scal_r, scal_l, scal_t, fLen_l, fLen_t, fLen_s, fAbs_i, fMin2_i, fMax2_i, fList_l, fList_t, fTuple_l, fTuple_t, fStrI_i, fCat_ll, fIx_l, fIx_t, fIx_s, fInN_l, fInN_t, fSplit_s, fPartition_s, fS2_s, isi_i1, isi_i2, isi_i3, isi_i4, isi_i5, isi_n1, isi_n2, isi_n3, isi_n4, isi_n5, isi_s1, isi_s5, isi_l1, isi_l3, isi_l4, isi_t1, isi_t3, isi_t4, List.getElem?_cons_zero, List.getElem?_cons_succ, List.getElem?_nil, List.set_cons_zero, List.set_cons_succ, List.length_cons, List.length_nil, List.map_cons, List.map_nil, List.cons_append, List.nil_append, List.replicate_succ, List.replicate_zero, Option.some.injEq, exists_eq_left', exists_eq_left, decide_eq_true_eq, Bool.not_eq_true', Bool.not_eq_true, decide_eq_false_iff_not, Bool.false_eq_true, if_false, if_true, if_false, ite_true, ite_false, Bool.not_true, Bool.not_false, Nat.reduceAdd, Nat.reduceSub, Nat.reduceMul, ite_self, true_and, and_true, reduceCtorEq, D.int.injEq, D.bl.injEq, D.str.injEq, D.lst.injEq, D.tup.injEq, D.ty.injEq, List.cons.injEq, and_self, List.all_cons, List.all_nil, Bool.and_true, Bool.and_self, Bool.true_and, Bool.and_false, Bool.false_and, List.not_mem_nil, not_false_eq_true, List.isEmpty_nil, List.mapIdx_cons, List.mapIdx_nil, List.mem_cons, or_false]
    refine ⟨by decide +kernel, sz_m (by omega), sz_m (by omega), sz_m (by omega), sz_m (by rw [ap]; omega), sz_m (by omega), sz_m (by omega), ?_⟩
    have hcount := split_count t
    refine ⟨sz_m (by rw [ap]; omega), by decide, sz_m (by rw [List.length_map]; omega), ?_⟩
    generalize (if (3 : Nat) = 2 then o else _) = X
    have em : (List.map D.str (Txt.split t (Str.ofString "|")) ++ [D.str (shown row), D.str (cutS t none (some 2) ++ Str.ofString ">" ++ shown row), D.str (shown row ++ Str.ofString ">" ++ cutS t none (some 1))]) =
        (Txt.split t (Str.ofString "|") ++ [shown row, cutS t none (some 2) ++ Str.ofString ">" ++ shown row, shown row ++ Str.ofString ">" ++ cutS t none (some 1)]).map D.str := by
      rw [List.map_append]
      rfl
    rw [em]
    refine loop_T (fun p env => ∃ Y, env = [some (.fz (.lst (ns.map .int))), some (.fz (.str t)), some (.ol (row.map .int)), X, some (.fz (.str (shown row))), some (.fz (.str (shown row))), Y, none]) ⟨_, rfl⟩ (fun p x q env nx e hI hn => ?_) fun env hI => ?_
    · obtain ⟨Y, rfl⟩ := hI
      have hx : x.length ≤ 1000000 := by
        have hm : x ∈ p ++ x :: q := by simp
        rw [← e] at hm
        rcases List.mem_append.mp hm with hm | hm
        · have := split_len bar_ne (by decide +kernel) hm
          omega
        · simp only [List.mem_cons, List.not_mem_nil, or_false] at hm
          rcases hm with rfl | rfl | rfl
          · omega
          · rw [ap, ap]; omega
          · rw [ap, ap]; omega
      simp only [wSeq, wIf, wEvT, wEv, wEvL, wAsg, wAsgL, wRet, wRetN, wDrop, wNext, wBreak, wCont, wB, wAnd, wOr, wNot, wAndV, wOrV, wNotV, wIfE, wOp, wUn, wCa, wCaL, wM1, wM1L, wL, wLst, wTup, wNil, wCons, wC, wVar, wCall, wLen, wLc, wIt, wItT, wItS, wRng1, wRng2, wFor, wPart, wNo, wSlL, wSlS, wOpL, wAsgG, gN, gT, gCons', gNil', wApp, wSet, wYes, bodyD, startD, mask, aft, frz, Sl.d, Sl.own, xsc, fEq, fNe, fIn, fNotIn, fFind, fCount, fStarts, ex_bl, fI_ii, fI0_ii, fAdd_ii, fSub_ii, fAnd_ii, fOr_ii, fXor_ii, fLt_ii, fLe_ii, fGt_ii, fGe_ii, fMul_ii, fMod_ii, fDiv_ii, fPow_ii, fShl_ii, fShr_ii, fAddS_ss, fEqN_ii, fEqN_ss, fEqN_bb, fEqN_nn, fEqN_ni, fEqN_in, fIsN_n, fNotN_n, isN_n, isN_i, isN_s, isN_l, isN_t, scal_n, scal_i, scal_b, scal_s, scal_r, scal_l, scal_t, fLen_l, fLen_t, fLen_s, fAbs_i, fMin2_i, fMax2_i, fList_l, fList_t, fTuple_l, fTuple_t, fStrI_i, fCat_ll, fIx_l, fIx_t, fIx_s, fInN_l, fInN_t, fSplit_s, fPartition_s, fS2_s, isi_i1, isi_i2, isi_i3, isi_i4, isi_i5, isi_n1, isi_n2, isi_n3, isi_n4, isi_n5, isi_s1, isi_s5, isi_l1, isi_l3, isi_l4, isi_t1, isi_t3, isi_t4, List.getElem?_cons_zero, List.getElem?_cons_succ, List.getElem?_nil, List.set_cons_zero, List.set_cons_succ, List.length_cons, List.length_nil, List.map_cons, List.map_nil, List.cons_append, List.nil_append, List.replicate_succ, List.replicate_zero, Option.some.injEq, exists_eq_left', exists_eq_left, decide_eq_true_eq, Bool.not_eq_true', Bool.not_eq_true, decide_eq_false_iff_not, Bool.false_eq_true, if_false, if_true, if_false, ite_true, ite_false, Bool.not_true, Bool.not_false, Nat.reduceAdd, Nat.reduceSub, Nat.reduceMul, ite_self, true_and, and_true, reduceCtorEq, D.int.injEq, D.bl.injEq, D.str.injEq, D.lst.injEq, D.tup.injEq, D.ty.injEq, List.cons.injEq, and_self, List.all_cons, List.all_nil, Bool.and_true, Bool.and_self, Bool.true_and, Bool.and_false, Bool.false_and, List.not_mem_nil, not_false_eq_true, List.isEmpty_nil, List.mapIdx_cons, List.mapIdx_nil, List.mem_cons, or_false]
      refine ⟨x, rfl, hx, _, rfl, ?_⟩
      rw [if_neg (by simp)]
      exact hn _ ⟨_, rfl⟩
    · obtain ⟨Y, rfl⟩ := hI
      simp only [wSeq, wIf, wEvT, wEv, wEvL, wAsg, wAsgL, wRet, wRetN, wDrop, wNext, wBreak, wCont, wB, wAnd, wOr, wNot, wAndV, wOrV, wNotV, wIfE, wOp, wUn, wCa, wCaL, wM1, wM1L, wL, wLst, wTup, wNil, wCons, wC, wVar, wCall, wLen, wLc, wIt, wItT, wItS, wRng1, wRng2, wFor, wPart, wNo, wSlL, wSlS, wOpL, wAsgG, gN, gT, gCons', gNil', wApp, wSet, wYes, bodyD, startD, mask, aft, frz, Sl.d, Sl.own, xsc, fEq, fNe, fIn, fNotIn, fFind, fCount, fStarts, ex_bl, fI_ii, fI0_ii, fAdd_ii, fSub_ii, fAnd_ii, fOr_ii, fXor_ii, fLt_ii, fLe_ii, fGt_ii, fGe_ii, fMul_ii, fMod_ii, fDiv_ii, fPow_ii, fShl_ii, fShr_ii, fAddS_ss, fEqN_ii, fEqN_ss, fEqN_bb, fEqN_nn, fEqN_ni, fEqN_in, fIsN_n, fNotN_n, isN_n, isN_i, isN_s, isN_l, isN_t, scal_n, scal_i, scal_b, scal_s, scal_r, scal_l, scal_t, fLen_l, fLen_t, fLen_s, fAbs_i, fMin2_i, fMax2_i, fList_l, fList_t, fTuple_l, fTuple_t, fStrI_i, fCat_ll, fIx_l, fIx_t, fIx_s, fInN_l, fInN_t, fSplit_s, fPartition_s, fS2_s, isi_i1, isi_i2, isi_i3, isi_i4, isi_i5, isi_n1, isi_n2, isi_n3, isi_n4, isi_n5, isi_s1, isi_s5, isi_l1, isi_l3, isi_l4, isi_t1, isi_t3, isi_t4, List.getElem?_cons_zero, List.getElem?_cons_succ, List.getElem?_nil, List.set_cons_zero, List.set_cons_succ, List.length_cons, List.length_nil, List.map_cons, List.map_nil, List.cons_append, List.nil_append, List.replicate_succ, List.replicate_zero, Option.some.injEq, exists_eq_left', exists_eq_left, decide_eq_true_eq, Bool.not_eq_true', Bool.not_eq_true, decide_eq_false_iff_not, Bool.false_eq_true, if_false, if_true, if_false, ite_true, ite_false, Bool.not_true, Bool.not_false, Nat.reduceAdd, Nat.reduceSub, Nat.reduceMul, ite_self, true_and, and_true, reduceCtorEq, D.int.injEq, D.bl.injEq, D.str.injEq, D.lst.injEq, D.tup.injEq, D.ty.injEq, List.cons.injEq, and_self, List.all_cons, List.all_nil, Bool.and_true, Bool.and_self, Bool.true_and, Bool.and_false, Bool.false_and, List.not_mem_nil, not_false_eq_true, List.isEmpty_nil, List.mapIdx_cons, List.mapIdx_nil, List.mem_cons, or_false]
      exact h
/-! ### what the walk asks of the text -/
structure Txt (K : PySem.W.Frag) (mg : Str → Option Value) : Prop where
  b_all : mg "all" = none
  b_bool : mg "bool" = none
  b_int : mg "int" = none
  b_isinstance : mg "isinstance" = none
  b_len : mg "len" = none
  b_list : mg "list" = none
  b_str : mg "str" = none
  b_tuple : mg "tuple" = none
  c_FIGURES : ∃ t, mg "FIGURES" = some (.str (PySem.Str.ofString "0123456789") t)
section
variable {P : Program} {w : World} {K : PySem.W.Frag} {mg : Str → Option Value} {base : Heap}
theorem ok_number_of (T : Txt K mg) {f : Addr} {fd : FuncData} (F : Fun K "number_of" "number_of" s_number_of f fd)  : FnOk P w K mg base (L2.CX P w) 1 f fd ["word"] (liftSp K sp_number_of) := by
  refine fn_D F sc_number_of (fun cdv A outer s H E hr => ?_) h_number_of
  have nd := (sc_number_of).nd
  have tk : Takes (cxOf (L2.CX P w) P w K mg base scN_number_of "number_of" (defScope s_number_of) f cdv A outer s H E) (fun cls d _ H => E cls d H) := takes_of rfl rfl rfl rfl
  exact (ds_cons (ds_if (dt_w (dw_or (dt_cmp op_lt od_lt (d_callB call_len cd_len (by rfl) T.b_len (by decide +kernel) (da_cons (d_var (pv 0)) da_nil)) d_int (nomark _)) (dw_or (dt_cmp op_gt od_gt (d_callB call_len cd_len (by rfl) T.b_len (by decide +kernel) (da_cons (d_var (pv 0)) da_nil)) d_int (nomark _)) (dw_or1 (dt_not (dt_val (d_callB (cr_all rfl) cd_all (by rfl) T.b_all (by decide +kernel) (da_cons (d_L (l_lc (own := [("sign", 1)]) (by rfl) rfl nd (di_str (d_var (pv 0))) (blkOk_by (own := [("sign", 1)]) (N := scN_number_of) (sc := defScope s_number_of) (by decide +kernel)) (fun _ _ _ _ _ => (pg_name (i := 1) nd rfl (by first | exact Or.inl rfl | exact Or.inr rfl))) gs_name (by decide) (fun _ _ _ _ _ => dts_nil) (fun _ _ _ _ _ => (d_cmp opr_in od_in (d_var (pv 1)) (d_gstr T.c_FIGURES (by rfl)) (by rfl))))) da_nil)))))))) (ds_one (ds_ret d_non)) ds_nil)
    (ds_cons (ds_if (dt_w (dw_and (dt_cmp op_gt od_gt (d_callB call_len cd_len (by rfl) T.b_len (by decide +kernel) (da_cons (d_var (pv 0)) da_nil)) d_int (nomark _)) (dw_and1 (dt_cmp (opr_eq hr.units) od_eq (d_ix ix_seq od_ix (d_var (pv 0)) d_int (fun _ _ => rfl)) d_str (nomark _))))) (ds_one (ds_ret d_non)) ds_nil)
    (ds_one (ds_ret (d_callT call_int_str cd_intS (by rfl) T.b_int (by decide +kernel) (da_cons (d_var (pv 0)) da_nil))))))
theorem ok_numbers_of (T : Txt K mg) {f : Addr} {fd : FuncData} (F : Fun K "numbers_of" "numbers_of" s_numbers_of f fd) (o_number_of : Def P w K mg base 1 "number_of" ["word"] sp_number_of) : FnOk P w K mg base (L2.CX P w) 2 f fd ["word"] (liftSp K sp_numbers_of) := by
  refine fn_D F sc_numbers_of (fun cdv A outer s H E hr => ?_) h_numbers_of
  have nd := (sc_numbers_of).nd
  have tk : Takes (cxOf (L2.CX P w) P w K mg base scN_numbers_of "numbers_of" (defScope s_numbers_of) f cdv A outer s H E) (fun cls d _ H => E cls d H) := takes_of rfl rfl rfl rfl
  exact (ds_cons (ds_setLc (own := [("part", 2)]) (i := 1) [] (by rfl) rfl nd rfl rfl (sw_true rfl rfl rfl (by decide +kernel)) (di_list (d_L (l_m1 (pe_split (d_var (pv 0)) d_str) sm_split))) (blkOk_by (own := [("part", 2)]) (N := scN_numbers_of) (sc := defScope s_numbers_of) (by decide +kernel)) (fun _ _ _ _ _ => (pg_name (i := 2) nd rfl (by first | exact Or.inl rfl | exact Or.inr rfl))) gs_name (by decide) (fun _ _ _ _ _ => dts_nil) (fun _ _ _ _ _ => (d_cal o_number_of (hr.mono (by decide)) (by rfl) takes0 (da_cons (d_var (pv 2)) da_nil))))
    (ds_cons (ds_if (dt_w (dw_or (dt_cmp opr_in od_in d_non (d_var (pv 1)) (by rfl)) (dw_or1 (dt_cmp op_gt od_gt (d_callB call_len cd_len (by rfl) T.b_len (by decide +kernel) (da_cons (d_var (pv 1)) da_nil)) d_int (nomark _))))) (ds_one (ds_ret d_non)) ds_nil)
    (ds_one (ds_ret (d_var (pv 1))))))
theorem ok_ask_of (T : Txt K mg) {f : Addr} {fd : FuncData} (F : Fun K "ask_of" "ask_of" s_ask_of f fd) (o_number_of : Def P w K mg base 1 "number_of" ["word"] sp_number_of) (o_numbers_of : Def P w K mg base 2 "numbers_of" ["word"] sp_numbers_of) : FnOk P w K mg base (L2.CX P w) 3 f fd ["word"] (liftSp K sp_ask_of) := by
  refine fn_D F sc_ask_of (fun cdv A outer s H E hr => ?_) h_ask_of
  have nd := (sc_ask_of).nd
  have tk : Takes (cxOf (L2.CX P w) P w K mg base scN_ask_of "ask_of" (defScope s_ask_of) f cdv A outer s H E) (fun cls d _ H => E cls d H) := takes_of rfl rfl rfl rfl
  exact (ds_cons (ds_asg [] (d_m1 (pe_partition (d_var (pv 0)) d_str) sm_partition) (pg_tup rfl (pgs_cons (pg_name (i := 1) nd rfl (by first | exact Or.inl rfl | exact Or.inr rfl)) (pgs_cons (pg_name (i := 2) nd rfl (by first | exact Or.inl rfl | exact Or.inr rfl)) (pgs_cons (pg_name (i := 3) nd rfl (by first | exact Or.inl rfl | exact Or.inr rfl)) pgs_nil)))) (gs_tup (gs_cons gs_name (gs_cons gs_name (gs_cons gs_name gs_nil)))))
    (ds_cons (ds_set (i := 4) [] nd rfl (by first | exact Or.inl rfl | exact Or.inr rfl) (d_cal o_number_of (hr.mono (by decide)) (by rfl) tk (da_cons (d_var (pv 1)) da_nil)))
    (ds_cons (ds_set (i := 5) [] nd rfl (by first | exact Or.inl rfl | exact Or.inr rfl) (d_cal o_numbers_of (hr.mono (by decide)) (by rfl) tk (da_cons (d_var (pv 3)) da_nil)))
    (ds_cons (ds_if (dt_w (dw_or (dt_cmp op_isN od_isN (d_var (pv 4)) d_non (nomark _)) (dw_or1 (dt_cmp op_isN od_isN (d_var (pv 5)) d_non (nomark _))))) (ds_one (ds_ret d_non)) ds_nil)
    (ds_one (ds_ret (d_tup (da_cons (d_var (pv 4)) (da_cons (d_var (pv 5)) da_nil)))))))))
theorem ok_listed (T : Txt K mg) {f : Addr} {fd : FuncData} (F : Fun K "listed" "listed" s_listed f fd)  : FnOk P w K mg base (L2.CX P w) 1 f fd ["some"] (liftSp K sp_listed) := by
  refine fn_D F sc_listed (fun cdv A outer s H E hr => ?_) h_listed
  have nd := (sc_listed).nd
  have tk : Takes (cxOf (L2.CX P w) P w K mg base scN_listed "listed" (defScope s_listed) f cdv A outer s H E) (fun cls d _ H => E cls d H) := takes_of rfl rfl rfl rfl
  exact (ds_cons (ds_if (dt_cmp (opr_eq hr.units) od_eq (d_var (pv 0)) (d_L (l_lst da_nil)) (nomark _)) (ds_one (ds_ret d_str)) ds_nil)
    (ds_one (ds_ret (d_m1 (pe_join d_str (d_L (l_lc (own := [("one", 1)]) (by rfl) rfl nd (di_list (d_var (pv 0))) (blkOk_by (own := [("one", 1)]) (N := scN_listed) (sc := defScope s_listed) (by decide +kernel)) (fun _ _ _ _ _ => (pg_name (i := 1) nd rfl (by first | exact Or.inl rfl | exact Or.inr rfl))) gs_name (by decide) (fun _ _ _ _ _ => dts_nil) (fun _ _ _ _ _ => (d_callT call_str_int cd_strI (by rfl) T.b_str (by decide +kernel) (da_cons (d_var (pv 1)) da_nil)))))) sm_join))))
theorem ok__law_cell_at (T : Txt K mg) {f : Addr} {fd : FuncData} (F : Fun K "_law_cell_at" "_law_cell_at" s__law_cell_at f fd)  : FnOk P w K mg base (L2.CX P w) 1 f fd ["_law_script", "_law_k"] (liftSp K sp__law_cell_at) := by
  refine fn_D F sc__law_cell_at (fun cdv A outer s H E hr => ?_) h__law_cell_at
  have nd := (sc__law_cell_at).nd
  have tk : Takes (cxOf (L2.CX P w) P w K mg base scN__law_cell_at "_law_cell_at" (defScope s__law_cell_at) f cdv A outer s H E) (fun cls d _ H => E cls d H) := takes_of rfl rfl rfl rfl
  exact (ds_cons (ds_if (dt_cmp op_lt od_lt (d_var (pv 1)) (d_callB call_len cd_len (by rfl) T.b_len (by decide +kernel) (da_cons (d_var (pv 0)) da_nil)) (nomark _)) (ds_one (ds_ret (d_ix ix_seq od_ix (d_var (pv 0)) (d_var (pv 1)) (fun _ _ => rfl)))) ds_nil)
    (ds_one (ds_ret d_int)))
theorem ok__law_number (T : Txt K mg) {f : Addr} {fd : FuncData} (F : Fun K "_law_number" "_law_number" s__law_number f fd)  : FnOk P w K mg base (L2.CX P w) 1 f fd ["_law_cell"] (liftSp K sp__law_number) := by
  refine fn_D F sc__law_number (fun cdv A outer s H E hr => ?_) h__law_number
  have nd := (sc__law_number).nd
  have tk : Takes (cxOf (L2.CX P w) P w K mg base scN__law_number "_law_number" (defScope s__law_number) f cdv A outer s H E) (fun cls d _ H => E cls d H) := takes_of rfl rfl rfl rfl
  exact (ds_one (ds_ret (d_mod (d_mul (d_add (d_mod (d_var (pv 0)) d_int) d_int) d_int) d_int)))
theorem ok__law_whole (T : Txt K mg) {f : Addr} {fd : FuncData} (F : Fun K "_law_whole" "_law_whole" s__law_whole f fd)  : FnOk P w K mg base (L2.CX P w) 1 f fd ["_law_found"] (liftSp K sp__law_whole) := by
  refine fn_D F sc__law_whole (fun cdv A outer s H E hr => ?_) h__law_whole
  have nd := (sc__law_whole).nd
  have tk : Takes (cxOf (L2.CX P w) P w K mg base scN__law_whole "_law_whole" (defScope s__law_whole) f cdv A outer s H E) (fun cls d _ H => E cls d H) := takes_of rfl rfl rfl rfl
  exact (ds_one (ds_ret (d_and (d_callB call_isi cd_isi (by rfl) T.b_isinstance (by decide +kernel) (da_cons (d_var (pv 0)) (da_cons (d_c (pe_bltn (v := .ty "int") (by rfl) T.b_int (by decide +kernel) rfl) (fun _ => .ty _)) da_nil))) (d_one (d_not (d_callB call_isi cd_isi (by rfl) T.b_isinstance (by decide +kernel) (da_cons (d_var (pv 0)) (da_cons (d_c (pe_bltn (v := .ty "bool") (by rfl) T.b_bool (by decide +kernel) rfl) (fun _ => .ty _)) da_nil))))))))
theorem ok__law_figures (T : Txt K mg) {f : Addr} {fd : FuncData} (F : Fun K "_law_figures" "_law_figures" s__law_figures f fd)  : FnOk P w K mg base (L2.CX P w) 1 f fd ["_law_word"] (liftSp K sp__law_figures) := by
  refine fn_D F sc__law_figures (fun cdv A outer s H E hr => ?_) h__law_figures
  have nd := (sc__law_figures).nd
  have tk : Takes (cxOf (L2.CX P w) P w K mg base scN__law_figures "_law_figures" (defScope s__law_figures) f cdv A outer s H E) (fun cls d _ H => E cls d H) := takes_of rfl rfl rfl rfl
  exact (ds_cons (ds_if (dt_w (dw_or (dt_cmp op_lt od_lt (d_callB call_len cd_len (by rfl) T.b_len (by decide +kernel) (da_cons (d_var (pv 0)) da_nil)) d_int (nomark _)) (dw_or (dt_cmp op_gt od_gt (d_callB call_len cd_len (by rfl) T.b_len (by decide +kernel) (da_cons (d_var (pv 0)) da_nil)) d_int (nomark _)) (dw_or1 (dt_w (dw_and (dt_cmp op_gt od_gt (d_callB call_len cd_len (by rfl) T.b_len (by decide +kernel) (da_cons (d_var (pv 0)) da_nil)) d_int (nomark _)) (dw_and1 (dt_cmp (opr_eq hr.units) od_eq (d_ix ix_seq od_ix (d_var (pv 0)) d_int (fun _ _ => rfl)) d_str (nomark _))))))))) (ds_one (ds_ret d_non)) ds_nil)
    (ds_cons (ds_for [] (passes_of rfl) rfl (di_str (d_var (pv 0))) (pg_name (i := 1) nd rfl (by first | exact Or.inl rfl | exact Or.inr rfl)) gs_name (ds_one (ds_if (dt_cmp opr_notIn od_in (d_var (pv 1)) d_str (by rfl)) (ds_one (ds_ret d_non)) ds_nil)))
    (ds_one (ds_ret (d_callT call_int_str cd_intS (by rfl) T.b_int (by decide +kernel) (da_cons (d_var (pv 0)) da_nil))))))
theorem ok__law_numbers (T : Txt K mg) {f : Addr} {fd : FuncData} (F : Fun K "_law_numbers" "_law_numbers" s__law_numbers f fd) (o__law_figures : Def P w K mg base 1 "_law_figures" ["_law_word"] sp__law_figures) : FnOk P w K mg base (L2.CX P w) 2 f fd ["_law_word"] (liftSp K sp__law_numbers) := by
  refine fn_D F sc__law_numbers (fun cdv A outer s H E hr => ?_) h__law_numbers
  have nd := (sc__law_numbers).nd
  have tk : Takes (cxOf (L2.CX P w) P w K mg base scN__law_numbers "_law_numbers" (defScope s__law_numbers) f cdv A outer s H E) (fun cls d _ H => E cls d H) := takes_of rfl rfl rfl rfl
  exact (ds_cons (ds_setLc (own := [("_law_part", 2)]) (i := 1) [] (by rfl) rfl nd rfl rfl (sw_true rfl rfl rfl (by decide +kernel)) (di_list (d_L (l_m1 (pe_split (d_var (pv 0)) d_str) sm_split))) (blkOk_by (own := [("_law_part", 2)]) (N := scN__law_numbers) (sc := defScope s__law_numbers) (by decide +kernel)) (fun _ _ _ _ _ => (pg_name (i := 2) nd rfl (by first | exact Or.inl rfl | exact Or.inr rfl))) gs_name (by decide) (fun _ _ _ _ _ => dts_nil) (fun _ _ _ _ _ => (d_cal o__law_figures (hr.mono (by decide)) (by rfl) takes0 (da_cons (d_var (pv 2)) da_nil))))
    (ds_cons (ds_if (dt_w (dw_or (dt_cmp op_gt od_gt (d_callB call_len cd_len (by rfl) T.b_len (by decide +kernel) (da_cons (d_var (pv 1)) da_nil)) d_int (nomark _)) (dw_or1 (dt_cmp (opr_ne hr.units) od_ne (d_L (l_lc (own := [("_law_one", 3)]) (by rfl) rfl nd (di_list (d_var (pv 1))) (blkOk_by (own := [("_law_one", 3)]) (N := scN__law_numbers) (sc := defScope s__law_numbers) (by decide +kernel)) (fun _ _ _ _ _ => (pg_name (i := 3) nd rfl (by first | exact Or.inl rfl | exact Or.inr rfl))) gs_name (by decide) (fun _ _ _ _ _ => (dts_one (dt_cmp op_isN od_isN (d_var (pv 3)) d_non (nomark _)))) (fun _ _ _ _ _ => (d_var (pv 3))))) (d_L (l_lst da_nil)) (nomark _))))) (ds_one (ds_ret d_non)) ds_nil)
    (ds_one (ds_ret (d_var (pv 1))))))
theorem ok__law_told_list (T : Txt K mg) {f : Addr} {fd : FuncData} (F : Fun K "_law_told_list" "_law_told_list" s__law_told_list f fd) (o__law_whole : Def P w K mg base 1 "_law_whole" ["_law_found"] sp__law_whole) : FnOk P w K mg base (L2.CX P w) 2 f fd ["_law_found", "_law_due"] (liftSp K sp__law_told_list) := by
  refine fn_D F sc__law_told_list (fun cdv A outer s H E hr => ?_) h__law_told_list
  have nd := (sc__law_told_list).nd
  have tk : Takes (cxOf (L2.CX P w) P w K mg base scN__law_told_list "_law_told_list" (defScope s__law_told_list) f cdv A outer s H E) (fun cls d _ H => E cls d H) := takes_of rfl rfl rfl rfl
  exact (ds_cons (ds_if (dt_w (dw_or (dt_cmp op_isN od_isN (d_var (pv 1)) d_non (nomark _)) (dw_or1 (dt_cmp op_isN od_isN (d_var (pv 0)) d_non (nomark _))))) (ds_one (ds_ret (d_and (d_cmp op_isN od_isN (d_var (pv 1)) d_non (nomark _)) (d_one (d_cmp op_isN od_isN (d_var (pv 0)) d_non (nomark _)))))) ds_nil)
    (ds_cons (ds_if (dt_w (dw_or (dt_not (dt_val (d_callB call_isi cd_isi (by rfl) T.b_isinstance (by decide +kernel) (da_cons (d_var (pv 0)) (da_cons (d_c (pe_bltn (v := .ty "list") (by rfl) T.b_list (by decide +kernel) rfl) (fun _ => .ty _)) da_nil))))) (dw_or1 (dt_cmp (opr_ne hr.units) od_ne (d_var (pv 0)) (d_var (pv 1)) (nomark _))))) (ds_one (ds_ret d_bl)) ds_nil)
    (ds_one (ds_ret (d_cmp (opr_eq hr.units) od_eq (d_L (l_lc (own := [("_law_one", 2)]) (by rfl) rfl nd (di_list (d_var (pv 0))) (blkOk_by (own := [("_law_one", 2)]) (N := scN__law_told_list) (sc := defScope s__law_told_list) (by decide +kernel)) (fun _ _ _ _ _ => (pg_name (i := 2) nd rfl (by first | exact Or.inl rfl | exact Or.inr rfl))) gs_name (by decide) (fun _ _ _ _ _ => (dts_one (dt_not (dt_val (d_cal o__law_whole (hr.mono (by decide)) (by rfl) takes0 (da_cons (d_var (pv 2)) da_nil)))))) (fun _ _ _ _ _ => (d_var (pv 2))))) (d_L (l_lst da_nil)) (nomark _))))))
theorem ok__law_told (T : Txt K mg) {f : Addr} {fd : FuncData} (F : Fun K "_law_told" "_law_told" s__law_told f fd) (o__law_figures : Def P w K mg base 1 "_law_figures" ["_law_word"] sp__law_figures) (o_number_of : Def P w K mg base 1 "number_of" ["word"] sp_number_of) (o__law_whole : Def P w K mg base 1 "_law_whole" ["_law_found"] sp__law_whole) (o__law_told_list : Def P w K mg base 2 "_law_told_list" ["_law_found", "_law_due"] sp__law_told_list) (o__law_numbers : Def P w K mg base 2 "_law_numbers" ["_law_word"] sp__law_numbers) (o_numbers_of : Def P w K mg base 2 "numbers_of" ["word"] sp_numbers_of) (o_ask_of : Def P w K mg base 3 "ask_of" ["word"] sp_ask_of) : FnOk P w K mg base (L2.CX P w) 4 f fd ["_law_word"] (liftSp K sp__law_told) := by
  refine fn_D F sc__law_told (fun cdv A outer s H E hr => ?_) h__law_told
  have nd := (sc__law_told).nd
  have tk : Takes (cxOf (L2.CX P w) P w K mg base scN__law_told "_law_told" (defScope s__law_told) f cdv A outer s H E) (fun cls d _ H => E cls d H) := takes_of rfl rfl rfl rfl
  exact (ds_cons (ds_set (i := 1) [] nd rfl (by first | exact Or.inl rfl | exact Or.inr rfl) (d_cal o__law_figures (hr.mono (by decide)) (by rfl) tk (da_cons (d_var (pv 0)) da_nil)))
    (ds_cons (ds_set (i := 2) [] nd rfl (by first | exact Or.inl rfl | exact Or.inr rfl) (d_cal o_number_of (hr.mono (by decide)) (by rfl) tk (da_cons (d_var (pv 0)) da_nil)))
    (ds_cons (ds_if (dt_w (dw_or (dt_w (dw_and (dt_cmp op_isN od_isN (d_var (pv 1)) d_non (nomark _)) (dw_and1 (dt_cmp op_notN od_notN (d_var (pv 2)) d_non (nomark _))))) (dw_or (dt_w (dw_and (dt_cmp op_notN od_notN (d_var (pv 1)) d_non (nomark _)) (dw_and1 (dt_not (dt_val (d_cal o__law_whole (hr.mono (by decide)) (by rfl) tk (da_cons (d_var (pv 2)) da_nil))))))) (dw_or1 (dt_cmp (opr_ne hr.units) od_ne (d_var (pv 2)) (d_var (pv 1)) (nomark _)))))) (ds_one (ds_ret d_bl)) ds_nil)
    (ds_cons (ds_if (dt_not (dt_val (d_cal o__law_told_list (hr.mono (by decide)) (by rfl) tk (da_cons (d_cal o_numbers_of (hr.mono (by decide)) (by rfl) tk (da_cons (d_var (pv 0)) da_nil)) (da_cons (d_cal o__law_numbers (hr.mono (by decide)) (by rfl) tk (da_cons (d_var (pv 0)) da_nil)) da_nil))))) (ds_one (ds_ret d_bl)) ds_nil)
    (ds_cons (ds_set (i := 3) [] nd rfl (by first | exact Or.inl rfl | exact Or.inr rfl) (d_cal o_ask_of (hr.mono (by decide)) (by rfl) tk (da_cons (d_var (pv 0)) da_nil)))
    (ds_cons (ds_set (i := 4) [] nd rfl (by first | exact Or.inl rfl | exact Or.inr rfl) d_non)
    (ds_cons (ds_set (i := 5) [] nd rfl (by first | exact Or.inl rfl | exact Or.inr rfl) d_non)
    (ds_cons (ds_if (dt_cmp (opr_eq hr.units) od_eq (d_m1 (pe_m1 PySem.F.slot_str_count PySem.F.type_str_count mt_count (d_var (pv 0)) d_str) sm_count) d_int (nomark _)) (ds_cons (ds_set (i := 4) [] nd rfl (by first | exact Or.inl rfl | exact Or.inr rfl) (d_cal o__law_figures (hr.mono (by decide)) (by rfl) tk (da_cons (d_sliceS (d_var (pv 0)) do_none (do_some (d_m1 (pe_m1 PySem.F.slot_str_find PySem.F.type_str_find mt_find (d_var (pv 0)) d_str) sm_find))) da_nil)))
    (ds_one (ds_set (i := 5) [] nd rfl (by first | exact Or.inl rfl | exact Or.inr rfl) (d_cal o__law_numbers (hr.mono (by decide)) (by rfl) tk (da_cons (d_sliceS (d_var (pv 0)) (do_some (d_add (d_m1 (pe_m1 PySem.F.slot_str_find PySem.F.type_str_find mt_find (d_var (pv 0)) d_str) sm_find) d_int)) do_none) da_nil))))) ds_nil)
    (ds_cons (ds_if (dt_w (dw_or (dt_cmp op_isN od_isN (d_var (pv 4)) d_non (nomark _)) (dw_or1 (dt_cmp op_isN od_isN (d_var (pv 5)) d_non (nomark _))))) (ds_one (ds_ret (d_cmp op_isN od_isN (d_var (pv 3)) d_non (nomark _)))) ds_nil)
    (ds_cons (ds_if (dt_w (dw_or (dt_not (dt_val (d_callB call_isi cd_isi (by rfl) T.b_isinstance (by decide +kernel) (da_cons (d_var (pv 3)) (da_cons (d_c (pe_bltn (v := .ty "tuple") (by rfl) T.b_tuple (by decide +kernel) rfl) (fun _ => .ty _)) da_nil))))) (dw_or (dt_cmp (opr_ne hr.units) od_ne (d_callB call_len cd_len (by rfl) T.b_len (by decide +kernel) (da_cons (d_var (pv 3)) da_nil)) d_int (nomark _)) (dw_or1 (dt_not (dt_val (d_cal o__law_whole (hr.mono (by decide)) (by rfl) tk (da_cons (d_ix ix_seq od_ix (d_var (pv 3)) d_int (fun _ _ => rfl)) da_nil)))))))) (ds_one (ds_ret d_bl)) ds_nil)
    (ds_one (ds_ret (d_and (d_cmp (opr_eq hr.units) od_eq (d_ix ix_seq od_ix (d_var (pv 3)) d_int (fun _ _ => rfl)) (d_var (pv 4)) (nomark _)) (d_one (d_cal o__law_told_list (hr.mono (by decide)) (by rfl) tk (da_cons (d_ix ix_seq od_ix (d_var (pv 3)) d_int (fun _ _ => rfl)) (da_cons (d_var (pv 5)) da_nil)))))))))))))))))
theorem ok_law (T : Txt K mg) {f : Addr} {fd : FuncData} (F : Fun K "law" "law" s_law f fd) (o__law_number : Def P w K mg base 1 "_law_number" ["_law_cell"] sp__law_number) (o__law_cell_at : Def P w K mg base 1 "_law_cell_at" ["_law_script", "_law_k"] sp__law_cell_at) (o_listed : Def P w K mg base 1 "listed" ["some"] sp_listed) (o__law_told : Def P w K mg base 4 "_law_told" ["_law_word"] sp__law_told) : FnOk P w K mg base (L2.CX P w) 5 f fd ["_law_script"] (liftSp K sp_law) := by
  refine fn_D F sc_law (fun cdv A outer s H E hr => ?_) h_law
  have nd := (sc_law).nd
  have tk : Takes (cxOf (L2.CX P w) P w K mg base scN_law "law" (defScope s_law) f cdv A outer s H E) (fun cls d _ H => E cls d H) := takes_of rfl rfl rfl rfl
  exact (ds_cons (ds_set (i := 1) [2] nd rfl (by first | exact Or.inl rfl | exact Or.inr rfl) d_str)
    (ds_cons (ds_setL (i := 2) [2] nd rfl (by first | exact Or.inl rfl | exact Or.inr rfl) (l_lst da_nil))
    (ds_cons (ds_for [2] (passes_of rfl) rfl (di_list (d_L (l_slice (d_var (pv 0)) do_none (do_some d_int)))) (pg_name (i := 3) nd rfl (by first | exact Or.inl rfl | exact Or.inr rfl)) gs_name (ds_cons (ds_set (i := 1) [2] nd rfl (by first | exact Or.inl rfl | exact Or.inr rfl) (d_addS (d_var (pv 1)) (d_ix ix_seq od_ix d_str (d_mod (d_cal o__law_number (hr.mono (by decide)) (by rfl) tk (da_cons (d_var (pv 3)) da_nil)) d_int) (fun _ _ => rfl))))
    (ds_one (ds_if (dt_cmp op_le od_le (d_callB call_len cd_len (by rfl) T.b_len (by decide +kernel) (da_cons (d_var (pv 2)) da_nil)) (d_mod (d_div (d_cal o__law_number (hr.mono (by decide)) (by rfl) tk (da_cons (d_cal o__law_cell_at (hr.mono (by decide)) (by rfl) tk (da_cons (d_var (pv 0)) (da_cons d_int da_nil))) da_nil)) d_int) d_int) (nomark _)) (ds_one (ds_app (i := 2) [2] (pe_bm PySem.F.plainAttrs_list PySem.F.slot_list_append PySem.F.type_list_append mt_append (pv 2) (pa_cons (d_mod (d_div (d_cal o__law_number (hr.mono (by decide)) (by rfl) tk (da_cons (d_var (pv 3)) da_nil)) d_int) d_int) pa_nil)))) ds_nil))))
    (ds_cons (ds_set (i := 4) [2] nd rfl (by first | exact Or.inl rfl | exact Or.inr rfl) d_str)
    (ds_cons (ds_if (dt_cmp (opr_ne hr.units) od_ne (d_var (pv 2)) (d_L (l_lst da_nil)) (nomark _)) (ds_one (ds_set (i := 4) [] nd rfl (by first | exact Or.inl rfl | exact Or.inr rfl) (d_m1 (pe_join d_str (d_L (l_lc (own := [("_law_one", 7)]) (by rfl) rfl nd (di_list (d_var (pv 2))) (blkOk_by (own := [("_law_one", 7)]) (N := scN_law) (sc := defScope s_law) (by decide +kernel)) (fun _ _ _ _ _ => (pg_name (i := 7) nd rfl (by first | exact Or.inl rfl | exact Or.inr rfl))) gs_name (by decide) (fun _ _ _ _ _ => dts_nil) (fun _ _ _ _ _ => (d_callT call_str_int cd_strI (by rfl) T.b_str (by decide +kernel) (da_cons (d_var (pv 7)) da_nil)))))) sm_join))) ds_nil)
    (ds_cons (ds_set (i := 5) [] nd rfl (by first | exact Or.inl rfl | exact Or.inr rfl) (d_cal o_listed (hr.mono (by decide)) (by rfl) tk (da_cons (d_L (l_callT call_list_of cd_list (by rfl) T.b_list (by decide +kernel) (da_cons (d_var (pv 2)) da_nil))) da_nil)))
    (ds_cons (ds_if (dt_w (dw_or (dt_not (dt_val (d_callB call_isi cd_isi (by rfl) T.b_isinstance (by decide +kernel) (da_cons (d_var (pv 5)) (da_cons (d_c (pe_bltn (v := .ty "str") (by rfl) T.b_str (by decide +kernel) rfl) (fun _ => .ty _)) da_nil))))) (dw_or1 (dt_cmp (opr_ne hr.units) od_ne (d_var (pv 5)) (d_var (pv 4)) (nomark _))))) (ds_one (ds_ret d_bl)) ds_nil)
    (ds_cons (ds_for [2] (passes_of rfl) rfl (di_list (d_L (l_cat (d_L (l_m1 (pe_split (d_var (pv 1)) d_str) sm_split)) (d_L (l_lst (da_cons (d_var (pv 4)) (da_cons (d_addS (d_addS (d_sliceS (d_var (pv 1)) do_none (do_some d_int)) d_str) (d_var (pv 4))) (da_cons (d_addS (d_addS (d_var (pv 4)) d_str) (d_sliceS (d_var (pv 1)) do_none (do_some d_int))) da_nil)))))))) (pg_name (i := 6) nd rfl (by first | exact Or.inl rfl | exact Or.inr rfl)) gs_name (ds_one (ds_if (dt_not (dt_val (d_cal o__law_told (hr.mono (by decide)) (by rfl) tk (da_cons (d_var (pv 6)) da_nil)))) (ds_one (ds_ret d_bl)) ds_nil)))
    (ds_one (ds_ret d_bl))))))))))
end
/-! ### what the top has written; the end -/
theorem all_mk {l : PySem.W.OpenLaw} {w : World} {K : PySem.W.Frag} {h : Heap} {mg : Str → Option Value} {fa f0 f1 f2 f3 f4 f5 f6 f7 f8 f9 f10 f11 : Addr} (X : K.In h) (G : h.Ns mainGlobals mg) (hfa : mg "law" = some (.ref fa))
    {od0 an0 od1 an1 od2 an2 od3 an3 od4 an4 od5 an5 od6 an6 od7 an7 od8 an8 od9 an9 od10 an10 od11 an11 : Option Addr} {sl0 sl1 sl2 sl3 sl4 sl5 sl6 sl7 sl8 sl9 sl10 sl11 : Array (Option Value)} {oc0 kV0 dc0 pm0 cd0 ct0 oc1 kV1 dc1 pm1 cd1 ct1 oc2 kV2 dc2 pm2 cd2 ct2 oc3 kV3 dc3 pm3 cd3 ct3 oc4 kV4 dc4 pm4 cd4 ct4 oc5 kV5 dc5 pm5 cd5 ct5 oc6 kV6 dc6 pm6 cd6 ct6 oc7 kV7 dc7 pm7 cd7 ct7 oc8 kV8 dc8 pm8 cd8 ct8 oc9 kV9 dc9 pm9 cd9 ct9 oc10 kV10 dc10 pm10 cd10 ct10 oc11 kV11 dc11 pm11 cd11 ct11 : Value}
    {t_FIGURES : Tok}
    (a0 : PySem.W.nsIn K mainGlobals "number_of" = some (some (.ref f0))) (l0 : K.lookup f0 = some ⟨oc0, od0, .func (PySem.W.fnOf "number_of" "number_of" (defArgs s_number_of) (defBody s_number_of) (defScope s_number_of) .none kV0 dc0 pm0 an0 cd0 ct0), sl0⟩) (c0 : PySem.W.codeIn K cd0 "number_of" = true) (k0 : PySem.W.keepIn K (.ref f0) = true)
    (a1 : PySem.W.nsIn K mainGlobals "numbers_of" = some (some (.ref f1))) (l1 : K.lookup f1 = some ⟨oc1, od1, .func (PySem.W.fnOf "numbers_of" "numbers_of" (defArgs s_numbers_of) (defBody s_numbers_of) (defScope s_numbers_of) .none kV1 dc1 pm1 an1 cd1 ct1), sl1⟩) (c1 : PySem.W.codeIn K cd1 "numbers_of" = true) (k1 : PySem.W.keepIn K (.ref f1) = true)
    (a2 : PySem.W.nsIn K mainGlobals "ask_of" = some (some (.ref f2))) (l2 : K.lookup f2 = some ⟨oc2, od2, .func (PySem.W.fnOf "ask_of" "ask_of" (defArgs s_ask_of) (defBody s_ask_of) (defScope s_ask_of) .none kV2 dc2 pm2 an2 cd2 ct2), sl2⟩) (c2 : PySem.W.codeIn K cd2 "ask_of" = true) (k2 : PySem.W.keepIn K (.ref f2) = true)
    (a3 : PySem.W.nsIn K mainGlobals "listed" = some (some (.ref f3))) (l3 : K.lookup f3 = some ⟨oc3, od3, .func (PySem.W.fnOf "listed" "listed" (defArgs s_listed) (defBody s_listed) (defScope s_listed) .none kV3 dc3 pm3 an3 cd3 ct3), sl3⟩) (c3 : PySem.W.codeIn K cd3 "listed" = true) (k3 : PySem.W.keepIn K (.ref f3) = true)
    (a4 : PySem.W.nsIn K mainGlobals "_law_cell_at" = some (some (.ref f4))) (l4 : K.lookup f4 = some ⟨oc4, od4, .func (PySem.W.fnOf "_law_cell_at" "_law_cell_at" (defArgs s__law_cell_at) (defBody s__law_cell_at) (defScope s__law_cell_at) .none kV4 dc4 pm4 an4 cd4 ct4), sl4⟩) (c4 : PySem.W.codeIn K cd4 "_law_cell_at" = true) (k4 : PySem.W.keepIn K (.ref f4) = true)
    (a5 : PySem.W.nsIn K mainGlobals "_law_number" = some (some (.ref f5))) (l5 : K.lookup f5 = some ⟨oc5, od5, .func (PySem.W.fnOf "_law_number" "_law_number" (defArgs s__law_number) (defBody s__law_number) (defScope s__law_number) .none kV5 dc5 pm5 an5 cd5 ct5), sl5⟩) (c5 : PySem.W.codeIn K cd5 "_law_number" = true) (k5 : PySem.W.keepIn K (.ref f5) = true)
    (a6 : PySem.W.nsIn K mainGlobals "_law_whole" = some (some (.ref f6))) (l6 : K.lookup f6 = some ⟨oc6, od6, .func (PySem.W.fnOf "_law_whole" "_law_whole" (defArgs s__law_whole) (defBody s__law_whole) (defScope s__law_whole) .none kV6 dc6 pm6 an6 cd6 ct6), sl6⟩) (c6 : PySem.W.codeIn K cd6 "_law_whole" = true) (k6 : PySem.W.keepIn K (.ref f6) = true)
    (a7 : PySem.W.nsIn K mainGlobals "_law_figures" = some (some (.ref f7))) (l7 : K.lookup f7 = some ⟨oc7, od7, .func (PySem.W.fnOf "_law_figures" "_law_figures" (defArgs s__law_figures) (defBody s__law_figures) (defScope s__law_figures) .none kV7 dc7 pm7 an7 cd7 ct7), sl7⟩) (c7 : PySem.W.codeIn K cd7 "_law_figures" = true) (k7 : PySem.W.keepIn K (.ref f7) = true)
    (a8 : PySem.W.nsIn K mainGlobals "_law_numbers" = some (some (.ref f8))) (l8 : K.lookup f8 = some ⟨oc8, od8, .func (PySem.W.fnOf "_law_numbers" "_law_numbers" (defArgs s__law_numbers) (defBody s__law_numbers) (defScope s__law_numbers) .none kV8 dc8 pm8 an8 cd8 ct8), sl8⟩) (c8 : PySem.W.codeIn K cd8 "_law_numbers" = true) (k8 : PySem.W.keepIn K (.ref f8) = true)
    (a9 : PySem.W.nsIn K mainGlobals "_law_told_list" = some (some (.ref f9))) (l9 : K.lookup f9 = some ⟨oc9, od9, .func (PySem.W.fnOf "_law_told_list" "_law_told_list" (defArgs s__law_told_list) (defBody s__law_told_list) (defScope s__law_told_list) .none kV9 dc9 pm9 an9 cd9 ct9), sl9⟩) (c9 : PySem.W.codeIn K cd9 "_law_told_list" = true) (k9 : PySem.W.keepIn K (.ref f9) = true)
    (a10 : PySem.W.nsIn K mainGlobals "_law_told" = some (some (.ref f10))) (l10 : K.lookup f10 = some ⟨oc10, od10, .func (PySem.W.fnOf "_law_told" "_law_told" (defArgs s__law_told) (defBody s__law_told) (defScope s__law_told) .none kV10 dc10 pm10 an10 cd10 ct10), sl10⟩) (c10 : PySem.W.codeIn K cd10 "_law_told" = true) (k10 : PySem.W.keepIn K (.ref f10) = true)
    (a11 : PySem.W.nsIn K mainGlobals "law" = some (some (.ref f11))) (l11 : K.lookup f11 = some ⟨oc11, od11, .func (PySem.W.fnOf "law" "law" (defArgs s_law) (defBody s_law) (defScope s_law) .none kV11 dc11 pm11 an11 cd11 ct11), sl11⟩) (c11 : PySem.W.codeIn K cd11 "law" = true) (k11 : PySem.W.keepIn K (.ref f11) = true)
    (z_all : PySem.W.nsIn K mainGlobals "all" = some none)
    (z_bool : PySem.W.nsIn K mainGlobals "bool" = some none)
    (z_int : PySem.W.nsIn K mainGlobals "int" = some none)
    (z_isinstance : PySem.W.nsIn K mainGlobals "isinstance" = some none)
    (z_len : PySem.W.nsIn K mainGlobals "len" = some none)
    (z_list : PySem.W.nsIn K mainGlobals "list" = some none)
    (z_str : PySem.W.nsIn K mainGlobals "str" = some none)
    (z_tuple : PySem.W.nsIn K mainGlobals "tuple" = some none)
    (y_FIGURES : PySem.W.nsIn K mainGlobals "FIGURES" = some (some (.str (PySem.Str.ofString "0123456789") t_FIGURES)))
    : ∃ fd : FuncData, (∀ (s : Shared) (v : Value), BindsTo s fd ⟨[v], []⟩ [("_law_script", v)]) ∧ ∀ base : Heap, K.In base → base.Ns mainGlobals mg → FnOk l.prog w K mg base (L2.CX l.prog w) 5 fa fd ["_law_script"] (liftSp K sp_law) := by
  have e := hfa.symm.trans (PySem.W.mg_of X G a11)
  cases e
  have T : Txt K mg := ⟨PySem.W.mg_none_of X G z_all, PySem.W.mg_none_of X G z_bool, PySem.W.mg_none_of X G z_int, PySem.W.mg_none_of X G z_isinstance, PySem.W.mg_none_of X G z_len, PySem.W.mg_none_of X G z_list, PySem.W.mg_none_of X G z_str, PySem.W.mg_none_of X G z_tuple, ⟨_, PySem.W.mg_of X G y_FIGURES⟩⟩
  have F0 := fun_mk (st := s_number_of) l0 c0 k0
  have b0 := F0.binds (ps := ["word"]) fun _ _ _ _ _ _ us hl => match us, hl with | [_], _ => rfl
  have F1 := fun_mk (st := s_numbers_of) l1 c1 k1
  have b1 := F1.binds (ps := ["word"]) fun _ _ _ _ _ _ us hl => match us, hl with | [_], _ => rfl
  have F2 := fun_mk (st := s_ask_of) l2 c2 k2
  have b2 := F2.binds (ps := ["word"]) fun _ _ _ _ _ _ us hl => match us, hl with | [_], _ => rfl
  have F3 := fun_mk (st := s_listed) l3 c3 k3
  have b3 := F3.binds (ps := ["some"]) fun _ _ _ _ _ _ us hl => match us, hl with | [_], _ => rfl
  have F4 := fun_mk (st := s__law_cell_at) l4 c4 k4
  have b4 := F4.binds (ps := ["_law_script", "_law_k"]) fun _ _ _ _ _ _ us hl => match us, hl with | [_, _], _ => rfl
  have F5 := fun_mk (st := s__law_number) l5 c5 k5
  have b5 := F5.binds (ps := ["_law_cell"]) fun _ _ _ _ _ _ us hl => match us, hl with | [_], _ => rfl
  have F6 := fun_mk (st := s__law_whole) l6 c6 k6
  have b6 := F6.binds (ps := ["_law_found"]) fun _ _ _ _ _ _ us hl => match us, hl with | [_], _ => rfl
  have F7 := fun_mk (st := s__law_figures) l7 c7 k7
  have b7 := F7.binds (ps := ["_law_word"]) fun _ _ _ _ _ _ us hl => match us, hl with | [_], _ => rfl
  have F8 := fun_mk (st := s__law_numbers) l8 c8 k8
  have b8 := F8.binds (ps := ["_law_word"]) fun _ _ _ _ _ _ us hl => match us, hl with | [_], _ => rfl
  have F9 := fun_mk (st := s__law_told_list) l9 c9 k9
  have b9 := F9.binds (ps := ["_law_found", "_law_due"]) fun _ _ _ _ _ _ us hl => match us, hl with | [_, _], _ => rfl
  have F10 := fun_mk (st := s__law_told) l10 c10 k10
  have b10 := F10.binds (ps := ["_law_word"]) fun _ _ _ _ _ _ us hl => match us, hl with | [_], _ => rfl
  have F11 := fun_mk (st := s_law) l11 c11 k11
  have b11 := F11.binds (ps := ["_law_script"]) fun _ _ _ _ _ _ us hl => match us, hl with | [_], _ => rfl
  have D_number_of : ∀ base : Heap, Def l.prog w K mg base 1 "number_of" ["word"] sp_number_of := fun base => ⟨_, _, PySem.W.mg_of X G a0, F0.kp, b0, ok_number_of T F0 ⟩
  have D_numbers_of : ∀ base : Heap, Def l.prog w K mg base 2 "numbers_of" ["word"] sp_numbers_of := fun base => ⟨_, _, PySem.W.mg_of X G a1, F1.kp, b1, ok_numbers_of T F1 (D_number_of base)⟩
  have D_ask_of : ∀ base : Heap, Def l.prog w K mg base 3 "ask_of" ["word"] sp_ask_of := fun base => ⟨_, _, PySem.W.mg_of X G a2, F2.kp, b2, ok_ask_of T F2 (D_number_of base) (D_numbers_of base)⟩
  have D_listed : ∀ base : Heap, Def l.prog w K mg base 1 "listed" ["some"] sp_listed := fun base => ⟨_, _, PySem.W.mg_of X G a3, F3.kp, b3, ok_listed T F3 ⟩
  have D__law_cell_at : ∀ base : Heap, Def l.prog w K mg base 1 "_law_cell_at" ["_law_script", "_law_k"] sp__law_cell_at := fun base => ⟨_, _, PySem.W.mg_of X G a4, F4.kp, b4, ok__law_cell_at T F4 ⟩
  have D__law_number : ∀ base : Heap, Def l.prog w K mg base 1 "_law_number" ["_law_cell"] sp__law_number := fun base => ⟨_, _, PySem.W.mg_of X G a5, F5.kp, b5, ok__law_number T F5 ⟩
  have D__law_whole : ∀ base : Heap, Def l.prog w K mg base 1 "_law_whole" ["_law_found"] sp__law_whole := fun base => ⟨_, _, PySem.W.mg_of X G a6, F6.kp, b6, ok__law_whole T F6 ⟩
  have D__law_figures : ∀ base : Heap, Def l.prog w K mg base 1 "_law_figures" ["_law_word"] sp__law_figures := fun base => ⟨_, _, PySem.W.mg_of X G a7, F7.kp, b7, ok__law_figures T F7 ⟩
  have D__law_numbers : ∀ base : Heap, Def l.prog w K mg base 2 "_law_numbers" ["_law_word"] sp__law_numbers := fun base => ⟨_, _, PySem.W.mg_of X G a8, F8.kp, b8, ok__law_numbers T F8 (D__law_figures base)⟩
  have D__law_told_list : ∀ base : Heap, Def l.prog w K mg base 2 "_law_told_list" ["_law_found", "_law_due"] sp__law_told_list := fun base => ⟨_, _, PySem.W.mg_of X G a9, F9.kp, b9, ok__law_told_list T F9 (D__law_whole base)⟩
  have D__law_told : ∀ base : Heap, Def l.prog w K mg base 4 "_law_told" ["_law_word"] sp__law_told := fun base => ⟨_, _, PySem.W.mg_of X G a10, F10.kp, b10, ok__law_told T F10 (D__law_figures base) (D_number_of base) (D__law_whole base) (D__law_told_list base) (D__law_numbers base) (D_numbers_of base) (D_ask_of base)⟩
  exact ⟨_, fun s v => .of_eq rfl, fun base _ _ => ok_law T F11 (D__law_number base) (D__law_cell_at base) (D_listed base) (D__law_told base)⟩
end K91
open PySem PySem.W PyProof.Rows
set_option maxHeartbeats 0 in
theorem PySem.Challenge.cw_crossracks_k91_words_holds : PySem.Challenge.rw_crossracks_k91_words.Holds := by
  w_on; o_law; k_head; (case hw => w_witness2)
  k_fill
  refine L2.walk_of (l := PySem.Challenge.rw_crossracks_k91_words) (n := 63) (k := 5) (x := "_law_script") (CX := fun w => L2.CX (PySem.Challenge.rw_crossracks_k91_words).prog w) (sp := fun w => MP.liftSp _ K91.sp_law) rfl (by decide) rfl ⟨rfl, by decide, by decide⟩ (fun w h Y => PySem.W.kIn_of Y) ?F (fun _ _ a ns hl _ hS => MP.law_starts hS (MP.ra_of_ints ns) ⟨ns, rfl, hl, rfl⟩) (fun _ _ _ _ _ h => MP.no_exc h)
  case F =>
    intro w mg fa h KX G hmg
    refine' K91.all_mk KX G hmg ?a0 ?l0 ?c0 ?k0 ?a1 ?l1 ?c1 ?k1 ?a2 ?l2 ?c2 ?k2 ?a3 ?l3 ?c3 ?k3 ?a4 ?l4 ?c4 ?k4 ?a5 ?l5 ?c5 ?k5 ?a6 ?l6 ?c6 ?k6 ?a7 ?l7 ?c7 ?k7 ?a8 ?l8 ?c8 ?k8 ?a9 ?l9 ?c9 ?k9 ?a10 ?l10 ?c10 ?k10 ?a11 ?l11 ?c11 ?k11 ?z_all ?z_bool ?z_int ?z_isinstance ?z_len ?z_list ?z_str ?z_tuple ?y_FIGURES
    (case a0 => k_is); (case l0 => k_is); (case c0 => k_is); (case k0 => k_is); (case a1 => k_is); (case l1 => k_is); (case c1 => k_is); (case k1 => k_is); (case a2 => k_is); (case l2 => k_is); (case c2 => k_is); (case k2 => k_is); (case a3 => k_is); (case l3 => k_is); (case c3 => k_is); (case k3 => k_is); (case a4 => k_is); (case l4 => k_is); (case c4 => k_is); (case k4 => k_is); (case a5 => k_is); (case l5 => k_is); (case c5 => k_is); (case k5 => k_is); (case a6 => k_is); (case l6 => k_is); (case c6 => k_is); (case k6 => k_is); (case a7 => k_is); (case l7 => k_is); (case c7 => k_is); (case k7 => k_is); (case a8 => k_is); (case l8 => k_is); (case c8 => k_is); (case k8 => k_is); (case a9 => k_is); (case l9 => k_is); (case c9 => k_is); (case k9 => k_is); (case a10 => k_is); (case l10 => k_is); (case c10 => k_is); (case k10 => k_is); (case a11 => k_is); (case l11 => k_is); (case c11 => k_is); (case k11 => k_is); (case z_all => k_is); (case z_bool => k_is); (case z_int => k_is); (case z_isinstance => k_is); (case z_len => k_is); (case z_list => k_is); (case z_str => k_is); (case z_tuple => k_is); (case y_FIGURES => k_is)
