import PyProof.Rows.All
import PySem.Challenge.RW_scalesfound_k00_names_and_whole_numbers
import Wide.All
import OpenK.AllK
import Wide.FinOn
import HandS.ForMost
import HandS.Evl
import HandS.Flow
import HandS.Wide
import HandS.Gcd
import HandS.IsInst
import PyProof.StrBlock2
import HandS.TupLe
import HandS.Text
import HandS.ForExc
import HandS.ExcOwn
import HandS.HotCalls
import KE.KExcSuper
import HandS.ExcInit
import HandS.ExcCtx
import HandS.Nested
import HandS.FStr
import KE.KxText
import HandS.ExcField
import HandS.ExcIs
import HandS.EndBits
import KE.IntTextLaws
set_option Elab.async false
set_option linter.all false
set_option maxRecDepth 100000
namespace Dl
open PySem PySem.Spec PyProof.Rows L2 Evl

/-! ### data -/
inductive Dt where
  | non | bl (b : Bool) | int (i : Int) | str (x : Str) | lst (xs : List Dt) | tup (xs : List Dt) | scr (ns : List Int) | ty (n : String)

mutual
inductive Rep (K : PySem.W.Frag) (H : Hp) : V → Dt → Prop
  | non : Rep K H .non .non
  | bl (b : Bool) : Rep K H (.bl b) (.bl b)
  | int (i : Int) : Rep K H (.int i) (.int i)
  | str (x : Str) : Rep K H (.str x) (.str x)
  | lst {a : Addr} {xs : List V} {ds : List Dt} : H a = some (.lst xs) → Reps K H xs ds → Rep K H (.ref a) (.lst ds)
  | tup {a : Addr} {xs : List V} {ds : List Dt} : SqT K H a xs → Reps K H xs ds → Rep K H (.ref a) (.tup ds)
  | scr {a : Addr} {ns : List Int} : SqL K H a (ns.map V.int) → Rep K H (.ref a) (.scr ns)
  | ty (n : String) : Rep K H (.ty n) (.ty n)
inductive Reps (K : PySem.W.Frag) (H : Hp) : List V → List Dt → Prop
  | nil : Reps K H [] []
  | cons {v : V} {vs : List V} {d : Dt} {ds : List Dt} : Rep K H v d → Reps K H vs ds → Reps K H (v :: vs) (d :: ds)
end
section
variable {K : PySem.W.Frag} {H H' : Hp}
mutual
theorem Rep.mono (e : Ex H H') : ∀ (d : Dt) (v : V), Rep K H v d → Rep K H' v d
  | .non, _, h => by cases h; exact .non
  | .bl b, _, h => by cases h; exact .bl b
  | .int i, _, h => by cases h; exact .int i
  | .str x, _, h => by cases h; exact .str x
  | .ty x, _, h => by cases h; exact .ty x
  | .lst ds, _, h => by
    cases h with
    | lst a b => exact .lst (e _ _ a) (Reps.mono e ds _ b)
  | .tup ds, _, h => by
    cases h with
    | tup a b => exact .tup (ex_t e a) (Reps.mono e ds _ b)
  | .scr ns, _, h => by
    cases h with
    | scr a => exact .scr (ex_l e a)
theorem Reps.mono (e : Ex H H') : ∀ (ds : List Dt) (vs : List V), Reps K H vs ds → Reps K H' vs ds
  | [], _, h => by cases h; exact .nil
  | d :: ds, _, h => by
    cases h with
    | cons a b => exact .cons (Rep.mono e d _ a) (Reps.mono e ds _ b)
end
theorem Rep.up {v : V} {d : Dt} (h : Rep K H v d) (e : Ex H H') : Rep K H' v d := Rep.mono e d v h
theorem Reps.up {vs : List V} {ds : List Dt} (h : Reps K H vs ds) (e : Ex H H') : Reps K H' vs ds := Reps.mono e ds vs h
theorem Reps.length : ∀ {vs : List V} {ds : List Dt}, Reps K H vs ds → vs.length = ds.length
  | _, _, .nil => rfl
  | _, _, .cons _ t => by simp [Reps.length t]
theorem Reps.get : ∀ {vs : List V} {ds : List Dt} {i : Nat} {d : Dt}, Reps K H vs ds → ds[i]? = some d → ∃ v, vs[i]? = some v ∧ Rep K H v d
  | _, _, _, _, .nil, e => by simp at e
  | _, _, 0, _, .cons r _, e => by simp at e; subst e; exact ⟨_, rfl, r⟩
  | _, _, i + 1, d, .cons _ t, e => by
    obtain ⟨v, h1, h2⟩ := Reps.get (i := i) (d := d) t (by simpa using e)
    exact ⟨v, by simpa using h1, h2⟩
theorem Reps.getV : ∀ {vs : List V} {ds : List Dt} {i : Nat} {v : V}, Reps K H vs ds → vs[i]? = some v → ∃ d, ds[i]? = some d ∧ Rep K H v d
  | _, _, _, _, .nil, e => by simp at e
  | _, _, 0, _, .cons r _, e => by simp at e; subst e; exact ⟨_, rfl, r⟩
  | _, _, i + 1, v, .cons _ t, e => by
    obtain ⟨d, h1, h2⟩ := Reps.getV (i := i) (v := v) t (by simpa using e)
    exact ⟨d, by simpa using h1, h2⟩
theorem Reps.append : ∀ {vs ws : List V} {ds es : List Dt}, Reps K H vs ds → Reps K H ws es → Reps K H (vs ++ ws) (ds ++ es)
  | _, _, _, _, .nil, h => h
  | _, _, _, _, .cons a t, h => .cons a (Reps.append t h)
theorem Reps.take : ∀ {vs : List V} {ds : List Dt} (n : Nat), Reps K H vs ds → Reps K H (vs.take n) (ds.take n)
  | _, _, 0, _ => by simp only [List.take_zero]; exact .nil
  | _, _, _ + 1, .nil => .nil
  | _, _, n + 1, .cons a t => .cons a (Reps.take n t)
theorem Reps.drop : ∀ {vs : List V} {ds : List Dt} (n : Nat), Reps K H vs ds → Reps K H (vs.drop n) (ds.drop n)
  | _, _, 0, h => h
  | _, _, _ + 1, .nil => .nil
  | _, _, n + 1, .cons a t => Reps.drop n t
theorem Reps.set : ∀ {vs : List V} {ds : List Dt} {v : V} {d : Dt} (n : Nat), Reps K H vs ds → Rep K H v d → Reps K H (vs.set n v) (ds.set n d)
  | _, _, _, _, _, .nil, _ => .nil
  | _, _, _, _, 0, .cons _ t, r => .cons r t
  | _, _, _, _, n + 1, .cons a t, r => .cons a (Reps.set n t r)
theorem Reps.ints : ∀ (ns : List Int), Reps K H (ns.map V.int) (ns.map Dt.int)
  | [] => .nil
  | n :: ns => .cons (.int n) (Reps.ints ns)
theorem Reps.ofInts : ∀ {ns : List Int} {vs : List V}, Reps K H vs (ns.map Dt.int) → vs = ns.map V.int
  | [], _, h => by cases h; rfl
  | n :: ns, _, h => by
    cases h with
    | cons a b => cases a; rw [Reps.ofInts b]; rfl
theorem Reps.ofStrs : ∀ {ns : List Str} {vs : List V}, Reps K H vs (ns.map Dt.str) → vs = ns.map V.str
  | [], _, h => by cases h; rfl
  | n :: ns, _, h => by
    cases h with
    | cons a b => cases a; rw [Reps.ofStrs b]; rfl
theorem Reps.rep (n : Nat) {vs : List V} {ds : List Dt} (h : Reps K H vs ds) : Reps K H (List.replicate n vs).flatten (List.replicate n ds).flatten := by
  induction n with
  | zero => exact .nil
  | succ n ih => rw [List.replicate_succ, List.replicate_succ, List.flatten_cons, List.flatten_cons]; exact h.append ih
end

/-! ### what is visible: F of the entry, and what came since, but for the owned lists -/
open Classical in
noncomputable def vis (H0 F : Hp) (O : Addr → Prop) (H : Hp) : Hp := fun a => if O a then none else if H0 a = none then H a else F a
def hid (a : Addr) (H : Hp) : Hp := fun b => if b = a then none else H b
/-- the heap's side -/
structure HS (H0 F : Hp) (O : Addr → Prop) (H : Hp) : Prop where
  ext : Ex H0 H
  sub : Ex F H0
  own : ∀ a, O a → H0 a = none ∧ ∃ xs, H a = some (.lst xs)
section
variable {K : PySem.W.Frag} {H0 F H H' : Hp} {O O' : Addr → Prop} {a p : Addr} {o : HO}
theorem HS.notO (h : HS H0 F O H) (n : H p = none) : ¬ O p := fun e => by
  obtain ⟨_, xs, q⟩ := h.own p e
  rw [n] at q; cases q
theorem HS.notE (h : HS H0 F O H) (n : H p = none) : H0 p = none := fresh_back h.ext n
theorem vis_some (h : HS H0 F O H) (e : vis H0 F O H a = some o) : H a = some o := by
  unfold vis at e
  split at e
  · cases e
  · split at e
    · exact e
    · exact h.ext _ _ (h.sub _ _ e)
theorem HS.vis (h : HS H0 F O H) : Ex (vis H0 F O H) H := fun _ _ e => vis_some h e
theorem vis_new (h : HS H0 F O H) (n : H p = none) (H' : Hp) : Dl.vis H0 F O H' p = H' p := by
  unfold Dl.vis
  rw [if_neg (h.notO n), if_pos (h.notE n)]
theorem vis_none (h : HS H0 F O H) (n : H p = none) : Dl.vis H0 F O H p = none := (vis_new h n H).trans n
theorem vis_mono (e : Ex H H') : Ex (Dl.vis H0 F O H) (Dl.vis H0 F O H') := fun a o q => by
  unfold Dl.vis at q ⊢
  split
  · rename_i h
    rw [if_pos h] at q
    cases q
  · rename_i h
    rw [if_neg h] at q
    split
    · rename_i h2
      rw [if_pos h2] at q
      exact e _ _ q
    · rename_i h2
      rw [if_neg h2] at q
      exact q
theorem HS.mono (h : HS H0 F O H) (e : Ex H H') : HS H0 F O H' :=
  ⟨h.ext.trans e, h.sub, fun a q => let ⟨n, xs, z⟩ := h.own a q; ⟨n, xs, e _ _ z⟩⟩
theorem hid_ex : Ex (hid p H) H := fun a o q => by
  unfold hid at q
  split at q
  · cases q
  · exact q
theorem ex_hid (e : Ex H H') (n : H p = none) : Ex H (hid p H') := fun a o q => by
  unfold hid
  rw [if_neg (ne_of_none q n)]
  exact e _ _ q
theorem hid_mono (e : Ex H H') : Ex (hid p H) (hid p H') := fun a o q => by
  unfold hid at q ⊢
  split
  · rename_i h; rw [if_pos h] at q; cases q
  · rename_i h; rw [if_neg h] at q; exact e _ _ q
end

/-! ### results -/
inductive Res where
  | ok (fl : Bool) (d : Dt)
  | ex (c : Str) (fs : List (Str × Dt))
/-- a value by what it is worth: W what may be seen, H the heap ahead -/
def Val1 (K : PySem.W.Frag) (W H H' : Hp) (v : V) : Bool → Dt → Prop
  | true, .lst ds => ∃ a xs, v = .ref a ∧ H a = none ∧ H' a = some (.lst xs) ∧ Reps K (hid a W) xs ds
  | _, d => Rep K W v d
/-- an exception's own dict -/
def Exc1 (K : PySem.W.Frag) (W H H' : Hp) (dx : Addr) (fs : List (Str × Dt)) : Prop :=
  ∃ vs, H dx = none ∧ H' dx = some (.xd ((fs.map (·.1)).zip vs)) ∧ Reps K W vs (fs.map (·.2))
abbrev SXK := L2.St → XK
def Post (K : PySem.W.Frag) (mg : Str → Option Value) (W : Hp → Hp) (H : Hp) (Q : VK) (E : XK) : Res → Prop
  | .ok fl d => ∀ v H', Ex H H' → Val1 K (W H') H H' v fl d → Q v H'
  | .ex c fs => ∀ C dx H', mg c = some (.ref C) → Ex H H' → Exc1 K (W H') H H' dx fs → E (.ref C) (some dx) H'
section
variable {K : PySem.W.Frag} {mg : Str → Option Value} {H0 F H H' : Hp} {O : Addr → Prop} {W : Hp} {v : V} {fl : Bool} {d : Dt}
theorem Val1.rep (h : Val1 K W H H' v fl d) (hw : ∀ a o, H a = none → H' a = some o → W a = some o) : Rep K W v d := by
  cases fl with
  | false => cases d <;> exact h
  | true =>
    cases d with
    | lst ds =>
      obtain ⟨a, xs, rfl, n, e, r⟩ := h
      exact .lst (hw _ _ n e) (r.up hid_ex)
    | _ => exact h
theorem Val1.of (h : Rep K W v d) : Val1 K W H H' v false d := by cases d <;> exact h
theorem HS.seen (h : HS H0 F O H) : ∀ a o, H a = none → H' a = some o → Dl.vis H0 F O H' a = some o := fun a o n e => (vis_new h n H').trans e
end
end Dl

namespace Dl
open PySem PySem.Spec PyProof.Rows L2 Evl

/-! ### the state by data -/
inductive Sl where
  | sh (d : Dt)
  | ow (ds : List Dt)
  | xc (a dx : Addr) (c : Str) (fs : List (Str × Dt))
abbrev Ev := List (Option Sl)
def SlotOk (K : PySem.W.Frag) (H0 F : Hp) (O : Addr → Prop) (σ : L2.St) (H : Hp) (i : Nat) : Sl → Prop
  | .sh d => ∃ v, σ[i]? = some (some v) ∧ Rep K (vis H0 F O H) v d
  | .ow ds => ∃ a xs, O a ∧ σ[i]? = some (some (.ref a)) ∧ H a = some (.lst xs) ∧ Reps K (vis H0 F O H) xs ds
  | .xc a dx _ fs => σ[i]? = some (some (.ref a)) ∧ ∃ vs, vis H0 F O H dx = some (.xd ((fs.map (·.1)).zip vs)) ∧ Reps K (vis H0 F O H) vs (fs.map (·.2))
structure SR (K : PySem.W.Frag) (H0 F : Hp) (O : Addr → Prop) (σ : L2.St) (H : Hp) (env : Ev) : Prop where
  hs : HS H0 F O H
  sl : ∀ i s, env[i]? = some (some s) → SlotOk K H0 F O σ H i s
  len : env.length = σ.length
  dis : ∀ (i j : Nat) (ds es : List Dt) (a : Addr), env[i]? = some (some (.ow ds)) → env[j]? = some (some (.ow es)) → σ[i]? = some (some (.ref a)) → σ[j]? = some (some (.ref a)) → i = j
section
variable {K : PySem.W.Frag} {mg : Str → Option Value} {H0 F H H' H1 : Hp} {O : Addr → Prop} {σ : L2.St} {env : Ev} {W : Hp} {v : V} {fl : Bool} {d : Dt}
theorem SR.mono (S : SR K H0 F O σ H env) (e : Ex H H') : SR K H0 F O σ H' env := by
  refine ⟨S.hs.mono e, fun i s q => ?_, S.len, S.dis⟩
  have h := S.sl i s q
  cases s with
  | sh d => obtain ⟨v, h1, h2⟩ := h; exact ⟨v, h1, h2.up (vis_mono e)⟩
  | ow ds => obtain ⟨a, xs, h1, h2, h3, h4⟩ := h; exact ⟨a, xs, h1, h2, e _ _ h3, h4.up (vis_mono e)⟩
  | xc a dx c fs => obtain ⟨h1, vs, h2, h3⟩ := h; exact ⟨h1, vs, vis_mono e _ _ h2, h3.up (vis_mono e)⟩
theorem Val1.back {W : Hp} (e : Ex H H1) (h : Val1 K W H1 H' v fl d) : Val1 K W H H' v fl d := by
  cases fl with
  | false => cases d <;> exact h
  | true =>
    cases d with
    | lst ds => obtain ⟨a, xs, h1, h2, h3, h4⟩ := h; exact ⟨a, xs, h1, fresh_back e h2, h3, h4⟩
    | _ => exact h
theorem Post.up {Wf : Hp → Hp} {Q : VK} {E : XK} {r : Res} (p : Post K mg Wf H Q E r) (e : Ex H H1) : Post K mg Wf H1 Q E r := by
  cases r with
  | ok fl d => exact fun v H' e' h => p v H' (e.trans e') (h.back e)
  | ex c fs => exact fun C dx H' hc e' h => p C dx H' hc (e.trans e') (let ⟨vs, a, b, c⟩ := h; ⟨vs, fresh_back e a, b, c⟩)
end

/-! ### readings by data -/
def tF (K : PySem.W.Frag) (mg : Str → Option Value) (E : SXK) (f : Ev → Option Res) : TE := fun σ H Q =>
  ∃ H0 F O env r, SR K H0 F O σ H env ∧ f env = some r ∧ Post K mg (vis H0 F O) H Q (E σ) r
/-- e is worth f -/
structure J (X : Cx) (E : SXK) (e : Expr) (f : Ev → Option Res) : Prop where
  run : PE X e (tF X.K X.mg E f)
theorem impE {X : Cx} {e : Expr} {t t' : TE} (h : PE X e t) (k : ∀ σ H Q, t' σ H Q → t σ H Q) : PE X e t' := ⟨fun pins s σ H Q I q => h.run pins s σ H Q I (k _ _ _ q)⟩
theorem impT {X : Cx} {e : Expr} {t t' : TT} (h : PT X e t) (k : ∀ σ H Q, t' σ H Q → t σ H Q) : PT X e t' := ⟨fun pins s σ H Q I q => h.run pins s σ H Q I (k _ _ _ q)⟩
theorem impA {X : Cx} {e : List Expr} {t t' : TA} (h : PA X e t) (k : ∀ σ H Q, t' σ H Q → t σ H Q) : PA X e t' := ⟨fun pos pins s σ H Q I q => h.run pos pins s σ H Q I (k _ _ _ q)⟩
theorem impS {X : Cx} {e : Stmt} {t t' : TS} (h : PS X e t) (k : ∀ D σ H, t' D σ H → t D σ H) : PS X e t' := ⟨fun pins s σ H D I q => h.run pins s σ H D I (k _ _ _ q)⟩
theorem impSs {X : Cx} {e : List Stmt} {t t' : TS} (h : PSs X e t) (k : ∀ D σ H, t' D σ H → t D σ H) : PSs X e t' := ⟨fun pins s σ H D I q => h.run pins s σ H D I (k _ _ _ q)⟩

def bnd (r : Option Res) (k : Bool → Dt → Option Res) : Option Res := match r with
  | some (.ok fl d) => k fl d
  | some (.ex c fs) => some (.ex c fs)
  | none => none
theorem bnd_ok {fl d k} : bnd (some (.ok fl d)) k = k fl d := rfl
theorem bnd_ex {c fs k} : bnd (some (.ex c fs)) k = some (.ex c fs) := rfl
theorem bnd_none {k} : bnd none k = none := rfl
/-! ### operands: what is read at once -/
def RepB (K : PySem.W.Frag) (W H : Hp) (v : V) : Dt → Prop
  | .lst ds => ∃ a xs, v = .ref a ∧ H a = some (.lst xs) ∧ Reps K W xs ds
  | d => Rep K W v d
def tB1 (K : PySem.W.Frag) (mg : Str → Option Value) (E : SXK) (f : Ev → Option Res) : TE := fun σ H Q =>
  ∃ H0 F O env r, SR K H0 F O σ H env ∧ f env = some r ∧ (match r with
    | .ok _ d => ∀ v H', Ex H H' → RepB K (vis H0 F O H') H' v d → Q v H'
    | .ex c fs => ∀ C dx H', mg c = some (.ref C) → Ex H H' → Exc1 K (vis H0 F O H') H H' dx fs → E σ (.ref C) (some dx) H')
structure JB (X : Cx) (E : SXK) (e : Expr) (f : Ev → Option Res) : Prop where
  run : PE X e (tB1 X.K X.mg E f)
section
variable {K : PySem.W.Frag} {mg : Str → Option Value} {H0 F H H1 W : Hp} {O : Addr → Prop} {σ : L2.St} {env : Ev} {E : SXK} {f : Ev → Option Res} {Q Q1 : VK} {res : Res} {v : V} {d : Dt}
theorem RepB.of (h : Rep K W v d) (e : Ex W H) : RepB K W H v d := by
  cases d with
  | lst ds => cases h with | lst a b => exact ⟨_, _, rfl, e _ _ a, b⟩
  | _ => exact h
theorem RepB.up (h : RepB K (vis H0 F O H) H v d) (e : Ex H H1) : RepB K (vis H0 F O H1) H1 v d := by
  cases d with
  | lst ds => obtain ⟨a, xs, h1, h2, h3⟩ := h; exact ⟨a, xs, h1, e _ _ h2, h3.up (vis_mono e)⟩
  | _ => exact Rep.up h (vis_mono e)
/-- all of it in the heap as it stands -/
theorem RepB.all (h : RepB K W H v d) (e : Ex W H) : Rep K H v d := by
  cases d with
  | lst ds => obtain ⟨a, xs, rfl, h2, h3⟩ := h; exact .lst h2 (h3.up e)
  | _ => exact Rep.up h e
theorem J.b {X : Cx} {e : Expr} (h : J X E e f) : JB X E e f := ⟨impE h.run fun σ H Q q => by
  obtain ⟨H0, F, O, env, r, S, e, P⟩ := q
  refine ⟨H0, F, O, env, r, S, e, ?_⟩
  cases r with
  | ok fl d => exact fun v H' e' h' => P v H' e' (RepB.of (h'.rep S.hs.seen) (S.hs.mono e').vis)
  | ex c fs => exact P⟩
/-- one more part is worked out -/
theorem tF_bnd {k : Bool → Dt → Option Res} (S : SR K H0 F O σ H env) (e : bnd (f env) k = some res) (P : Post K mg (vis H0 F O) H Q (E σ) res)
    (go : ∀ v H1 fl d, f env = some (.ok fl d) → Ex H H1 → SR K H0 F O σ H1 env → Rep K (vis H0 F O H1) v d → k fl d = some res → Post K mg (vis H0 F O) H1 Q (E σ) res → Q1 v H1) : tF K mg E f σ H Q1 := by
  cases q : f env with
  | none => rw [q] at e; cases e
  | some r =>
    cases r with
    | ok fl d =>
      rw [q] at e
      exact ⟨H0, F, O, env, _, S, q, fun v H1 e1 h1 => go v H1 fl d q e1 (S.mono e1) (h1.rep S.hs.seen) e (P.up e1)⟩
    | ex c fs =>
      rw [q] at e
      cases e
      exact ⟨H0, F, O, env, _, S, q, P⟩
theorem tB_bnd {k : Bool → Dt → Option Res} (S : SR K H0 F O σ H env) (e : bnd (f env) k = some res) (P : Post K mg (vis H0 F O) H Q (E σ) res)
    (go : ∀ v H1 fl d, f env = some (.ok fl d) → Ex H H1 → SR K H0 F O σ H1 env → RepB K (vis H0 F O H1) H1 v d → k fl d = some res → Post K mg (vis H0 F O) H1 Q (E σ) res → Q1 v H1) : tB1 K mg E f σ H Q1 := by
  cases q : f env with
  | none => rw [q] at e; cases e
  | some r =>
    cases r with
    | ok fl d =>
      rw [q] at e
      exact ⟨H0, F, O, env, _, S, q, fun v H1 e1 h1 => go v H1 fl d q e1 (S.mono e1) h1 e (P.up e1)⟩
    | ex c fs =>
      rw [q] at e
      cases e
      exact ⟨H0, F, O, env, _, S, q, P⟩
end

/-! ### names and constants -/
def varG (i : Nat) : Ev → Option Res := fun env => match env[i]? with
  | some (some (.sh d)) => some (.ok false d)
  | _ => none
def varB (i : Nat) : Ev → Option Res := fun env => match env[i]? with
  | some (some (.sh d)) => some (.ok false d)
  | some (some (.ow ds)) => some (.ok false (.lst ds))
  | _ => none
def cstG (d : Dt) : Ev → Option Res := fun _ => some (.ok false d)
def isCst : Dt → Bool
  | .non | .bl _ | .int _ | .str _ | .ty _ => true
  | _ => false
def cstV : Dt → V
  | .ty n => .ty n
  | .bl b => .bl b
  | .int i => .int i
  | .str x => .str x
  | _ => .non
theorem cst_rep {K : PySem.W.Frag} {H : Hp} {d : Dt} (h : isCst d = true) : Rep K H (cstV d) d := by
  cases d <;> first | (exact absurd h Bool.false_ne_true) | constructor
section
variable {X : Cx} {E : SXK} {a b c : Expr} {fa fb fc : Ev → Option Res} {pos : Pos}
theorem J_cst {e : Expr} {d : Dt} (h : PE X e (tC (cstV d))) (hd : isCst d = true) : J X E e (cstG d) := ⟨impE h fun σ H Q q => by
  obtain ⟨H0, F, O, env, r, S, e, P⟩ := q
  cases e
  exact P _ H (Ex.refl H) (Val1.of (cst_rep hd))⟩
theorem J_var {i : Nat} {x : Str} (h : PE X (.Name x pos) (tVar i)) : J X E (.Name x pos) (varG i) := ⟨impE h fun σ H Q q => by
  obtain ⟨H0, F, O, env, r, S, e, P⟩ := q
  unfold varG at e
  split at e
  · rename_i d q
    cases e
    obtain ⟨v, h1, h2⟩ := S.sl i _ q
    exact ⟨v, h1, P v H (Ex.refl H) (Val1.of h2)⟩
  · cases e⟩
theorem JB_var {i : Nat} {x : Str} (h : PE X (.Name x pos) (tVar i)) : JB X E (.Name x pos) (varB i) := ⟨impE h fun σ H Q q => by
  obtain ⟨H0, F, O, env, r, S, e, P⟩ := q
  unfold varB at e
  split at e
  · rename_i d q
    cases e
    obtain ⟨v, h1, h2⟩ := S.sl i _ q
    exact ⟨v, h1, P v H (Ex.refl H) (RepB.of h2 S.hs.vis)⟩
  · rename_i ds q
    cases e
    obtain ⟨a, xs, h1, h2, h3, h4⟩ := S.sl i _ q
    exact ⟨_, h2, P _ H (Ex.refl H) ⟨a, xs, rfl, h3, h4⟩⟩
  · cases e⟩

/-! ### operations of two places -/
/-- g on data is f on values -/
def Op2 (X : Cx) (f : Value → Value → Sem Value) (g : Dt → Dt → Option Res) : Prop := ∃ r : R2, OpR X f r ∧
  ∀ (E : XK) (H0 F : Hp) (O : Addr → Prop) (H : Hp) (x y : V) (dx dy : Dt) (res : Res) (Q : VK), HS H0 F O H → RepB X.K (vis H0 F O H) H x dx → RepB X.K (vis H0 F O H) H y dy → g dx dy = some res →
    Post X.K X.mg (vis H0 F O) H Q E res → r x y H Q
def op2G (g : Dt → Dt → Option Res) (fa fb : Ev → Option Res) : Ev → Option Res := fun env => bnd (fa env) fun _ x => bnd (fb env) fun _ y => g x y
theorem tOp_of {r : R2} {g : Dt → Dt → Option Res} {σ : L2.St} {H : Hp} {Q : VK}
    (hr : ∀ (E : XK) (H0 F : Hp) (O : Addr → Prop) (H : Hp) (x y : V) (dx dy : Dt) (res : Res) (Q : VK), HS H0 F O H → RepB X.K (vis H0 F O H) H x dx → RepB X.K (vis H0 F O H) H y dy → g dx dy = some res →
      Post X.K X.mg (vis H0 F O) H Q E res → r x y H Q) (q : tF X.K X.mg E (op2G g fa fb) σ H Q) : tOp r (tB1 X.K X.mg E fa) (tB1 X.K X.mg E fb) σ H Q := by
  obtain ⟨H0, F, O, env, res, S, e, P⟩ := q
  refine tB_bnd S e P fun v H1 _ d _ e1 S1 h1 e P => ?_
  refine tB_bnd S1 e P fun u H2 _ d' _ e2 S2 h2 e P => ?_
  exact hr (E σ) H0 F O H2 v u d d' res Q S2.hs (h1.up e2) h2 e P
theorem J_op2 {op : Operator} {g : Dt → Dt → Option Res} (ho : Op2 X (binaryOp op) g) (ha : JB X E a fa) (hb : JB X E b fb) : J X E (.BinOp a op b pos) (op2G g fa fb) := by
  obtain ⟨r, ho, hr⟩ := ho
  exact ⟨impE (pe_op ho ha.run hb.run) fun σ H Q q => tOp_of hr q⟩
theorem J_cmp {op : CmpOp} {g : Dt → Dt → Option Res} (ho : Op2 X (compareOp op) g) (ha : JB X E a fa) (hb : JB X E b fb) (hm : behindInMarks op b = false) : J X E (.Compare a [op] [b] pos) (op2G g fa fb) := by
  obtain ⟨r, ho, hr⟩ := ho
  exact ⟨impE (pe_cmpR ho ha.run hb.run hm) fun σ H Q q => tOp_of hr q⟩
end
end Dl

namespace Dl
open PySem PySem.Spec PyProof.Rows L2 Evl

abbrev okI (i : Int) : Option Res := some (.ok false (.int i))
abbrev okB (b : Bool) : Option Res := some (.ok false (.bl b))
abbrev okS (b : Str) : Option Res := some (.ok false (.str b))
abbrev okL (b : List Dt) : Option Res := some (.ok true (.lst b))
section
variable {K : PySem.W.Frag} {mg : Str → Option Value} {E : XK} {H0 F H : Hp} {O : Addr → Prop} {Q : VK} {d : Dt} {v : V} {xs : List V} {ds : List Dt}
/-- a scalar is handed on -/
theorem Post.sc (P : Post K mg (vis H0 F O) H Q E (.ok false d)) (r : Rep K (vis H0 F O H) v d) : Q v H := P v H (Ex.refl H) (Val1.of r)
/-- a new list -/
theorem Post.nw (h : HS H0 F O H) (P : Post K mg (vis H0 F O) H Q E (.ok true (.lst ds))) (r : Reps K (vis H0 F O H) xs ds) : ∀ p, H p = none → Q (.ref p) (upd H p (.lst xs)) := fun p n =>
  P _ _ (Ex.new n) ⟨p, xs, rfl, n, upd_same, r.up (ex_hid (vis_mono (Ex.new n)) (vis_none h n))⟩
theorem Post.nwT (h : HS H0 F O H) (P : Post K mg (vis H0 F O) H Q E (.ok false (.tup ds))) (r : Reps K (vis H0 F O H) xs ds) : ∀ p, H p = none → Q (.ref p) (upd H p (.tup xs)) := fun p n =>
  P _ _ (Ex.new n) (.tup (Or.inl (Or.inl ((vis_new h n _).trans upd_same))) (r.up (vis_mono (Ex.new n))))
end

/-! ### arithmetic -/
def mulOk (i j : Int) : Bool := decide (i.natAbs < 2 ^ 64) || decide (j.natAbs < 2 ^ 64) || decide (i.natAbs.log2 + j.natAbs.log2 < 1000000)
theorem mulOk.ok {i j : Int} (h : mulOk i j = true) : IntMulOk i j := by
  unfold mulOk at h
  simp only [Bool.or_eq_true, decide_eq_true_eq] at h
  rcases h with (h | h) | h
  · exact CMul.ok (.inl ⟨by omega, by omega⟩)
  · exact CMul.ok (.inr ⟨by omega, by omega⟩)
  · exact CMulW.ok h
def divOk (j : Int) : Bool := decide (j ≠ 0) && decide (j.natAbs.log2 < 9000)
def powOk (i j : Int) : Bool := decide (0 ≤ j) && decide (j ≤ 1000000) && decide (i.natAbs < 2 ^ 64)
def addD : Dt → Dt → Option Res
  | .int i, .int j => okI (i + j)
  | .str a, .str b => if a.length + b.length ≤ 16777216 then okS (a ++ b) else none
  | .lst xs, .lst ys => if xs.length + ys.length ≤ 16777216 then okL (xs ++ ys) else none
  | _, _ => none
def subD : Dt → Dt → Option Res
  | .int i, .int j => okI (i - j)
  | _, _ => none
/-- z * k as text -/
def repOk (z : Str) (k : Int) : Bool := decide (0 ≤ k) && decide (k ≤ 1000000) && decide (z.length ≤ 1000000) && decide (z.length * k.toNat ≤ 1000000)
def mulD : Dt → Dt → Option Res
  | .int i, .int j => if mulOk i j = true then okI (i * j) else none
  | .lst xs, .int k => if k < 2 ^ 31 ∧ -(2 ^ 31) ≤ k ∧ xs.length * k.toNat ≤ 16777216 then okL (List.replicate k.toNat xs).flatten else none
  | .str z, .int k => if repOk z k = true then okS (Txt.mul z k) else none
  | _, _ => none
def fdivD : Dt → Dt → Option Res
  | .int i, .int j => if divOk j = true then okI (i.fdiv j) else none
  | _, _ => none
def modD : Dt → Dt → Option Res
  | .int i, .int j => if j = 0 then none else okI (i.fmod j)
  | _, _ => none
def powD : Dt → Dt → Option Res
  | .int i, .int j => if powOk i j = true then okI (i ^ j.toNat) else none
  | _, _ => none
section
variable {X : Cx}
theorem o_add : Op2 X (binaryOp .Add) addD := by
  refine ⟨_, op_add.or (op_add_str.or op_cat), fun E H0 F O H x y dx dy res Q hs hx hy e P => ?_⟩
  unfold addD at e
  split at e
  · cases hx; cases hy; cases e
    exact .inl ⟨_, _, rfl, rfl, P.sc (.int _)⟩
  · cases hx; cases hy
    split at e
    · rename_i hl
      cases e
      exact .inr (.inl ⟨_, _, rfl, rfl, by rw [sizeLine_eq]; exact hl, P.sc (.str _)⟩)
    · cases e
  · obtain ⟨a, vs, rfl, ha, ra⟩ := hx
    obtain ⟨b, ws, rfl, hb, rb⟩ := hy
    split at e
    · rename_i hl
      cases e
      exact .inr (.inr ⟨a, b, vs, ws, rfl, rfl, ha, hb, by rw [sizeLine_eq, ra.length, rb.length]; exact hl, P.nw hs (ra.append rb)⟩)
    · cases e
  · cases e
theorem o_sub : Op2 X (binaryOp .Sub) subD := by
  refine ⟨_, op_sub, fun E H0 F O H x y dx dy res Q hs hx hy e P => ?_⟩
  unfold subD at e
  split at e
  · cases hx; cases hy; cases e
    exact ⟨_, _, rfl, rfl, P.sc (.int _)⟩
  · cases e
theorem op_mulA : OpR X (binaryOp .Mult) (rI (fun i j => mulOk i j = true) fun i j => .int (i * j)) := opI fun _ _ _ _ _ _ _ hc q => mul_int q (mulOk.ok hc)
theorem op_fdivA : OpR X (binaryOp .FloorDiv) (rI (fun _ j => divOk j = true) fun i j => .int (i.fdiv j)) := opI fun _ j _ _ _ _ _ hc q => by
  have hc' : divOk j = true := hc
  unfold divOk at hc'
  rw [Bool.and_eq_true, decide_eq_true_eq, decide_eq_true_eq] at hc'
  exact floordiv_int hc'.1 q (.inl (PyProof.noPylong_of_log2 hc'.2))
theorem op_mulS : OpR X (binaryOp .Mult) (fun x y H Q => ∃ z k, x = .str z ∧ y = .int k ∧ repOk z k = true ∧ Q (.str (Txt.mul z k)) H) := by
  intro pins s σ H x y v u Q I rx ry h
  obtain ⟨z, k, rfl, rfl, hok, q⟩ := h
  obtain ⟨t, rfl⟩ := rx
  obtain ⟨t', rfl⟩ := ry
  unfold repOk at hok
  simp only [Bool.and_eq_true, decide_eq_true_eq] at hok
  obtain ⟨⟨⟨h0, h1⟩, h2⟩, h3⟩ := hok
  refine PySem.SB.mul ⟨?_, fun hk _ => ?_, fun hk _ => ?_⟩ fun t' tk => ⟨.str (Txt.mul z k), H, I.tok _, ⟨_, rfl⟩, q⟩
  · rw [decide_eq_false (show ¬ k < -(2 ^ 63 : Int) by omega), decide_eq_false (show ¬ k ≥ 2 ^ 63 by omega)]
    rfl
  · have hk1 : 1 ≤ k := by omega
    have h4 : (z.length : Int) * k ≤ 2 ^ 63 - 1 := by
      have e : ((z.length * k.toNat : Nat) : Int) = (z.length : Int) * k := by
        rw [Int.natCast_mul, Int.toNat_of_nonneg h0]
      omega
    have := (Int.le_ediv_iff_mul_le (by omega)).mpr h4
    omega
  · show decide (z.length * k.toNat > sizeLine) = false
    rw [sizeLine_eq]
    exact decide_eq_false (by omega)
theorem o_mul : Op2 X (binaryOp .Mult) mulD := by
  refine ⟨_, (op_mulA.or op_rep).or op_mulS, fun E H0 F O H x y dx dy res Q hs hx hy e P => ?_⟩
  unfold mulD at e
  split at e
  · cases hx; cases hy
    split at e
    · rename_i hl
      cases e
      exact .inl (.inl ⟨_, _, rfl, rfl, hl, P.sc (.int _)⟩)
    · cases e
  · obtain ⟨a, vs, rfl, ha, ra⟩ := hx
    cases hy
    split at e
    · rename_i hl
      cases e
      exact .inl (.inr ⟨a, _, vs, rfl, rfl, ha, by omega, by omega, by rw [sizeLine_eq, ra.length]; exact hl.2.2, P.nw hs (ra.rep _)⟩)
    · cases e
  · cases hx; cases hy
    split at e
    · rename_i hl
      cases e
      exact .inr ⟨_, _, rfl, rfl, hl, P.sc (.str _)⟩
    · cases e
  · cases e
theorem o_fdiv : Op2 X (binaryOp .FloorDiv) fdivD := by
  refine ⟨_, op_fdivA, fun E H0 F O H x y dx dy res Q hs hx hy e P => ?_⟩
  unfold fdivD at e
  split at e
  · cases hx; cases hy
    split at e
    · rename_i hl
      cases e
      exact ⟨_, _, rfl, rfl, hl, P.sc (.int _)⟩
    · cases e
  · cases e
theorem o_mod : Op2 X (binaryOp .Mod) modD := by
  refine ⟨_, op_modN, fun E H0 F O H x y dx dy res Q hs hx hy e P => ?_⟩
  unfold modD at e
  split at e
  · cases hx; cases hy
    split at e
    · cases e
    · rename_i hl
      cases e
      exact ⟨_, _, rfl, rfl, hl, P.sc (.int _)⟩
  · cases e
theorem o_pow : Op2 X (binaryOp .Pow) powD := by
  refine ⟨_, op_pow, fun E H0 F O H x y dx dy res Q hs hx hy e P => ?_⟩
  unfold powD at e
  split at e
  · cases hx; cases hy
    split at e
    · rename_i hl
      unfold powOk at hl
      rw [Bool.and_eq_true, Bool.and_eq_true, decide_eq_true_eq, decide_eq_true_eq, decide_eq_true_eq] at hl
      cases e
      exact ⟨_, _, rfl, rfl, ⟨hl.1.1, hl.1.2, hl.2⟩, P.sc (.int _)⟩
    · cases e
  · cases e
end

/-! ### comparisons -/
def cmpI (p : Int → Int → Bool) : Dt → Dt → Option Res
  | .int i, .int j => okB (p i j)
  | _, _ => none
def ltD : Dt → Dt → Option Res := cmpI fun i j => decide (i < j)
def leD : Dt → Dt → Option Res := cmpI fun i j => decide (i ≤ j)
def gtD : Dt → Dt → Option Res := cmpI fun i j => decide (j < i)
def geD : Dt → Dt → Option Res := cmpI fun i j => decide (j ≤ i)
section
variable {X : Cx}
theorem o_cmpI {op : CmpOp} {p : Int → Int → Bool} (h : OpR X (compareOp op) (rI0 fun i j => .bl (p i j))) : Op2 X (compareOp op) (cmpI p) := by
  refine ⟨_, h, fun E H0 F O H x y dx dy res Q hs hx hy e P => ?_⟩
  unfold cmpI at e
  split at e
  · cases hx; cases hy; cases e
    exact ⟨_, _, rfl, rfl, P.sc (.bl _)⟩
  · cases e
theorem o_lt : Op2 X (compareOp .Lt) ltD := o_cmpI op_lt
theorem o_le : Op2 X (compareOp .LtE) leD := o_cmpI op_le
theorem o_gt : Op2 X (compareOp .Gt) gtD := o_cmpI op_gt
theorem o_ge : Op2 X (compareOp .GtE) geD := o_cmpI op_ge
end
mutual
def toPy : Dt → PyData
  | .non => .none
  | .bl b => .bool b
  | .int i => .int i
  | .str x => .str x
  | .lst ds => .list (toPys ds)
  | .tup ds => .tuple (toPys ds)
  | .scr ns => .list (ns.map PyData.int)
  | .ty _ => .dict []
def toPys : List Dt → List PyData
  | [] => []
  | d :: ds => toPy d :: toPys ds
end
theorem dp_ints {K : PySem.W.Frag} {H : Hp} : ∀ ns : List Int, DpAll K H (ns.map V.int) (ns.map PyData.int)
  | [] => .nil
  | n :: ns => .cons (.int n) (dp_ints ns)
mutual
theorem Rep.dp {K : PySem.W.Frag} {H : Hp} : ∀ (d : Dt) (v : V), (toPy d).canLay0 = true → Rep K H v d → Dp K H v (toPy d)
  | .non, _, _, h => by cases h; simp only [toPy]; exact .non
  | .bl b, _, _, h => by cases h; simp only [toPy]; exact .bl b
  | .int i, _, _, h => by cases h; simp only [toPy]; exact .int i
  | .str x, _, _, h => by cases h; simp only [toPy]; exact .str x
  | .ty x, _, c, h => by simp only [toPy, PyData.canLay0] at c; cases c
  | .lst ds, _, c, h => by
    simp only [toPy, PyData.canLay0] at c
    cases h with
    | lst a b => simp only [toPy]; exact .lst (Or.inl (Or.inl a)) (Reps.dp ds _ c b)
  | .tup ds, _, c, h => by
    simp only [toPy, PyData.canLay0] at c
    cases h with
    | tup a b => simp only [toPy]; exact .tup a (Reps.dp ds _ c b)
  | .scr ns, _, _, h => by
    cases h with
    | scr a => simp only [toPy]; exact .lst a (dp_ints ns)
theorem Reps.dp {K : PySem.W.Frag} {H : Hp} : ∀ (ds : List Dt) (vs : List V), PyData.canLayAll0 (toPys ds) = true → Reps K H vs ds → DpAll K H vs (toPys ds)
  | [], _, _, h => by cases h; simp only [toPys]; exact .nil
  | d :: ds, _, c, h => by
    simp only [toPys, PyData.canLayAll0, Bool.and_eq_true] at c
    cases h with
    | cons a b => simp only [toPys]; exact .cons (Rep.dp d _ c.1 a) (Reps.dp ds _ c.2 b)
end
def eqvD (x y : Dt) : Option Bool := if SeqAt.shaped (toPy x) = true ∧ SeqAt.shaped (toPy y) = true then some (PyData.eqv (toPy x) (toPy y)) else none
def eqB : Dt → Dt → Option Bool
  | .int i, .int j => some (decide (i = j))
  | .str i, .str j => some (decide (i = j))
  | .bl i, .bl j => some (decide (i = j))
  | .non, .non => some true
  | .non, .int _ => some false
  | .int _, .non => some false
  | .non, .str _ => some false
  | .str _, .non => some false
  | .non, .bl _ => some false
  | .bl _, .non => some false
  | .int _, .str _ => some false
  | .str _, .int _ => some false
  | x, y => eqvD x y
def eqD (x y : Dt) : Option Res := (eqB x y).map fun b => .ok false (.bl b)
def neD (x y : Dt) : Option Res := (eqB x y).map fun b => .ok false (.bl (!b))
section
variable {X : Cx} {H : Hp} {x y : V} {dx dy : Dt} {b : Bool}
theorem eq_way (hx : Rep X.K H x dx) (hy : Rep X.K H y dy) (e : eqB dx dy = some b) :
    (scal x y = true ∧ decide (x = y) = b) ∨ (∃ d e, Dp X.K H x d ∧ Dp X.K H y e ∧ SeqAt.shaped d = true ∧ SeqAt.shaped e = true ∧ PyData.eqv d e = b) := by
  have deep : eqvD dx dy = some b → ∃ d e, Dp X.K H x d ∧ Dp X.K H y e ∧ SeqAt.shaped d = true ∧ SeqAt.shaped e = true ∧ PyData.eqv d e = b := fun q => by
    unfold eqvD at q
    split at q
    · rename_i h
      exact ⟨_, _, Rep.dp dx x (SeqAt.canLay_of_shaped h.1) hx, Rep.dp dy y (SeqAt.canLay_of_shaped h.2) hy, h.1, h.2, Option.some.inj q⟩
    · cases q
  unfold eqB at e
  split at e
  case h_13 => exact .inr (deep e)
  all_goals (cases hx; cases hy; cases e; refine .inl ⟨rfl, ?_⟩; simp)
theorem o_eq (hu : X.A.units + 64 < cLine) : Op2 X (compareOp .Eq) eqD := by
  refine ⟨_, op_eq.or (op_eqD hu), fun E H0 F O H x y dx dy res Q hs hx hy e P => ?_⟩
  unfold eqD at e
  cases q : eqB dx dy with
  | none => rw [q] at e; cases e
  | some b =>
    rw [q] at e
    cases e
    rcases eq_way (hx.all hs.vis) (hy.all hs.vis) q with ⟨h1, h2⟩ | ⟨d, e, h1, h2, h3, h4, h5⟩
    · exact .inl ⟨h1, by rw [h2]; exact P.sc (.bl _)⟩
    · exact .inr ⟨d, e, h1, h2, h3, h4, by rw [h5]; exact P.sc (.bl _)⟩
theorem o_ne (hu : X.A.units + 64 < cLine) : Op2 X (compareOp .NotEq) neD := by
  refine ⟨_, op_ne.or (op_neD hu), fun E H0 F O H x y dx dy res Q hs hx hy e P => ?_⟩
  unfold neD at e
  cases q : eqB dx dy with
  | none => rw [q] at e; cases e
  | some b =>
    rw [q] at e
    cases e
    rcases eq_way (hx.all hs.vis) (hy.all hs.vis) q with ⟨h1, h2⟩ | ⟨d, e, h1, h2, h3, h4, h5⟩
    · exact .inl ⟨h1, by rw [h2]; exact P.sc (.bl _)⟩
    · exact .inr ⟨d, e, h1, h2, h3, h4, by rw [h5]; exact P.sc (.bl _)⟩
end

/-! ### is, in -/
def isNon : Dt → Bool
  | .non => true
  | _ => false
def isB : Dt → Dt → Option Bool
  | .bl i, .bl j => some (decide (i = j))
  | x, .non => some (isNon x)
  | _, _ => none
def isD (x y : Dt) : Option Res := (isB x y).map fun b => .ok false (.bl b)
def isNotD (x y : Dt) : Option Res := (isB x y).map fun b => .ok false (.bl (!b))
theorem non_iff {K : PySem.W.Frag} {W H : Hp} {x : V} {d : Dt} (h : RepB K W H x d) : decide (x = .non) = isNon d := by
  cases d with
  | lst ds => obtain ⟨a, xs, rfl, _⟩ := h; rfl
  | _ => cases h <;> rfl
theorem isB_way {K : PySem.W.Frag} {W H : Hp} {x y : V} {dx dy : Dt} {b : Bool} (hx : RepB K W H x dx) (hy : RepB K W H y dy) (e : isB dx dy = some b) :
    (∃ i j, x = .bl i ∧ y = .bl j ∧ decide (i = j) = b) ∨ (y = .non ∧ decide (x = .non) = b) := by
  unfold isB at e
  split at e
  · cases hx; cases hy
    exact .inl ⟨_, _, rfl, rfl, Option.some.inj e⟩
  · cases hy
    exact .inr ⟨rfl, (non_iff hx).trans (Option.some.inj e)⟩
  · cases e
section
variable {X : Cx}
theorem o_is : Op2 X (compareOp .Is) isD := by
  refine ⟨_, op_is_bl.or op_isN, fun E H0 F O H x y dx dy res Q hs hx hy e P => ?_⟩
  unfold isD at e
  cases q : isB dx dy with
  | none => rw [q] at e; cases e
  | some b =>
    rw [q] at e
    cases e
    rcases isB_way hx hy q with ⟨i, j, rfl, rfl, h⟩ | ⟨rfl, h⟩
    · exact .inl ⟨_, _, rfl, rfl, by rw [h]; exact P.sc (.bl _)⟩
    · exact .inr ⟨rfl, by rw [h]; exact P.sc (.bl _)⟩
theorem o_isnot : Op2 X (compareOp .IsNot) isNotD := by
  refine ⟨_, op_isnot_bl.or op_notN, fun E H0 F O H x y dx dy res Q hs hx hy e P => ?_⟩
  unfold isNotD at e
  cases q : isB dx dy with
  | none => rw [q] at e; cases e
  | some b =>
    rw [q] at e
    cases e
    rcases isB_way hx hy q with ⟨i, j, rfl, rfl, h⟩ | ⟨rfl, h⟩
    · exact .inl ⟨_, _, rfl, rfl, by rw [h]; exact P.sc (.bl _)⟩
    · exact .inr ⟨rfl, by rw [h]; exact P.sc (.bl _)⟩
end
def flatD : Dt → Bool
  | .non | .bl _ | .int _ | .str _ => true
  | _ => false
def eqF : Dt → Dt → Bool
  | .non, .non => true
  | .bl a, .bl b => a == b
  | .bl a, .int b => (if a then 1 else 0) == b
  | .int a, .bl b => a == (if b then 1 else 0)
  | .int a, .int b => a == b
  | .str a, .str b => a == b
  | _, _ => false
theorem rep_flat {K : PySem.W.Frag} {H : Hp} {v : V} {d : Dt} (h : Rep K H v d) (f : flatD d = true) : v = cstV d ∧ flatV v = true := by
  cases d <;> first | (exact absurd f Bool.false_ne_true) | (cases h; exact ⟨rfl, rfl⟩)
theorem eqF_V {K : PySem.W.Frag} {H : Hp} {v u : V} {d e : Dt} (h : Rep K H v d) (h' : Rep K H u e) (f : flatD d = true) (f' : flatD e = true) : eqV v u = eqF d e := by
  obtain ⟨rfl, _⟩ := rep_flat h f
  obtain ⟨rfl, _⟩ := rep_flat h' f'
  cases d <;> first | (exact absurd f Bool.false_ne_true) | (cases e <;> first | (exact absurd f' Bool.false_ne_true) | rfl)
theorem reps_flat {K : PySem.W.Frag} {H : Hp} : ∀ {vs : List V} {ds : List Dt}, Reps K H vs ds → ds.all flatD = true → vs.all flatV = true
  | _, _, .nil, _ => rfl
  | _, _, .cons a b, f => by
    rw [List.all_cons, Bool.and_eq_true] at f ⊢
    exact ⟨(rep_flat a f.1).2, reps_flat b f.2⟩
theorem reps_in {K : PySem.W.Frag} {H : Hp} {x : V} {d : Dt} (h : Rep K H x d) (f : flatD d = true) : ∀ {vs : List V} {ds : List Dt}, Reps K H vs ds → ds.all flatD = true → inV x vs = ds.any fun e => eqF e d
  | _, _, .nil, _ => rfl
  | _, _, .cons a b, f2 => by
    rw [List.all_cons, Bool.and_eq_true] at f2
    have ih := reps_in h f b f2.2
    unfold inV at ih ⊢
    rw [List.any_cons, List.any_cons, eqF_V a h f2.1 f, ih]
def inB (x : Dt) : Dt → Option Bool
  | .str z => match x with
    | .str y => match y.cps.toList with
      | [c] => some (decide (c ∈ z.cps.toList))
      | _ => some (!(Builtin.Str.occurrences z y 0 z.length 1).isEmpty)
    | _ => none
  | .lst ds => if flatD x = true ∧ ds.all flatD = true then some (ds.any fun e => eqF e x) else none
  | .tup ds => if flatD x = true ∧ ds.all flatD = true then some (ds.any fun e => eqF e x) else none
  | _ => none
def inD (x y : Dt) : Option Res := (inB x y).map fun b => .ok false (.bl b)
def notInD (x y : Dt) : Option Res := (inB x y).map fun b => .ok false (.bl (!b))
theorem str_one {y : Str} {c : Nat} (h : y.cps.toList = [c]) : y = ⟨#[c]⟩ := by
  obtain ⟨a⟩ := y
  obtain ⟨l⟩ := a
  have h' : l = [c] := h
  subst h'
  rfl
theorem inB_way {K : PySem.W.Frag} {W H : Hp} {x y : V} {dx dy : Dt} {b : Bool} (eW : Ex W H) (hx : RepB K W H x dx) (hy : RepB K W H y dy) (e : inB dx dy = some b) :
    (∃ (c : Nat) (z : Str), x = .str ⟨#[c]⟩ ∧ y = .str z ∧ decide (c ∈ z.cps.toList) = b) ∨ (∃ i j, x = .str i ∧ y = .str j ∧ (!(Builtin.Str.occurrences j i 0 j.length 1).isEmpty) = b) ∨
    (∃ p xs, y = .ref p ∧ (SqL K H p xs ∨ SqT K H p xs) ∧ flatV x = true ∧ xs.all flatV = true ∧ inV x xs = b) := by
  unfold inB at e
  split at e
  · cases hy
    split at e
    · rename_i y
      cases hx
      split at e
      · rename_i c q
        rw [str_one q]
        exact .inl ⟨c, _, rfl, rfl, Option.some.inj e⟩
      · exact .inr (.inl ⟨_, _, rfl, rfl, Option.some.inj e⟩)
    · cases e
  · rename_i ds
    split at e
    · rename_i h
      obtain ⟨a, xs, rfl, ha, ra⟩ := hy
      have rx := hx.all eW
      exact .inr (.inr ⟨a, xs, rfl, .inl (Or.inl (Or.inl ha)), (rep_flat rx h.1).2, reps_flat ra h.2, (reps_in rx h.1 (ra.up eW) h.2).trans (Option.some.inj e)⟩)
    · cases e
  · rename_i ds
    split at e
    · rename_i h
      have hy' : Rep K W y (.tup ds) := hy
      cases hy' with
      | tup ha ra =>
        have rx := hx.all eW
        exact .inr (.inr ⟨_, _, rfl, .inr (ex_t eW ha), (rep_flat rx h.1).2, reps_flat ra h.2, (reps_in rx h.1 (ra.up eW) h.2).trans (Option.some.inj e)⟩)
    · cases e
  · cases e
section
variable {X : Cx}
theorem o_in : Op2 X (compareOp .In) inD := by
  refine ⟨_, op_in_sign.or (op_in_str.or op_in_seq), fun E H0 F O H x y dx dy res Q hs hx hy e P => ?_⟩
  unfold inD at e
  cases q : inB dx dy with
  | none => rw [q] at e; cases e
  | some b =>
    rw [q] at e
    cases e
    rcases inB_way hs.vis hx hy q with ⟨c, z, rfl, rfl, h⟩ | ⟨i, j, rfl, rfl, h⟩ | ⟨p, xs, rfl, h1, h2, h3, h⟩
    · exact .inl ⟨c, z, rfl, rfl, by rw [h]; exact P.sc (.bl _)⟩
    · exact .inr (.inl ⟨i, j, rfl, rfl, by rw [h]; exact P.sc (.bl _)⟩)
    · exact .inr (.inr ⟨p, xs, rfl, h1, h2, h3, by
        rw [if_neg Bool.false_ne_true, h]
        exact P.sc (.bl _)⟩)
theorem o_notIn : Op2 X (compareOp .NotIn) notInD := by
  refine ⟨_, op_notIn_sign.or (L2.op_notIn_str.or op_notIn_seq), fun E H0 F O H x y dx dy res Q hs hx hy e P => ?_⟩
  unfold notInD at e
  cases q : inB dx dy with
  | none => rw [q] at e; cases e
  | some b =>
    rw [q] at e
    cases e
    rcases inB_way hs.vis hx hy q with ⟨c, z, rfl, rfl, h⟩ | ⟨i, j, rfl, rfl, h⟩ | ⟨p, xs, rfl, h1, h2, h3, h⟩
    · exact .inl ⟨c, z, rfl, rfl, by rw [h]; exact P.sc (.bl _)⟩
    · exact .inr (.inl ⟨i, j, rfl, rfl, by rw [h]; exact P.sc (.bl _)⟩)
    · exact .inr (.inr ⟨p, xs, rfl, h1, h2, h3, by
        rw [if_pos rfl, h]
        exact P.sc (.bl _)⟩)
end
end Dl

namespace Dl
open PySem PySem.Spec PyProof.Rows L2 Evl

/-! ### one place: -a, not a; truth -/
def negD : Dt → Option Res
  | .int i => okI (-i)
  | _ => none
def op1G (g : Dt → Option Res) (fa : Ev → Option Res) : Ev → Option Res := fun env => bnd (fa env) fun _ x => g x
def truB : Dt → Option Bool
  | .non => some false
  | .bl b => some b
  | .int i => some (i != 0)
  | .str y => if y.length ≤ 16777216 then some ((y.length : Int) != 0) else none
  | .lst ds => some (!ds.isEmpty)
  | .tup ds => some (!ds.isEmpty)
  | .scr ns => some (!ns.isEmpty)
  | .ty _ => none
def truD (d : Dt) : Option Res := (truB d).map fun b => .ok false (.bl b)
def notD (d : Dt) : Option Res := (truB d).map fun b => .ok false (.bl (!b))
theorem Reps.empty {K : PySem.W.Frag} {H : Hp} {vs : List V} {ds : List Dt} (h : Reps K H vs ds) : vs.isEmpty = ds.isEmpty := by cases h <;> rfl
theorem tru_way {K : PySem.W.Frag} {W H : Hp} {x : V} {d : Dt} {b : Bool} (eW : Ex W H) (h : RepB K W H x d) (e : truB d = some b) : TruV K x H b := by
  cases d with
  | non => cases h; exact (Option.some.inj e).symm
  | bl i => cases h; exact (Option.some.inj e).symm
  | int i => cases h; exact (Option.some.inj e).symm
  | str y =>
    cases h
    have e : (if y.length ≤ 16777216 then some ((y.length : Int) != 0) else none) = some b := e
    split at e
    · rename_i hl
      exact ⟨by rw [sizeLine_eq]; exact hl, (Option.some.inj e).symm⟩
    · cases e
  | ty n => cases e
  | lst ds =>
    obtain ⟨a, xs, rfl, h2, h3⟩ := h
    refine Or.inl ⟨xs, Or.inl (Or.inl h2), ?_⟩
    rw [h3.empty]
    exact (Option.some.inj e).symm
  | tup ds =>
    have h' : Rep K W x (.tup ds) := h
    cases h' with
    | tup a b =>
      refine Or.inr (Or.inl ⟨_, ex_t eW a, ?_⟩)
      rw [b.empty]
      exact (Option.some.inj e).symm
  | scr ns =>
    have h' : Rep K W x (.scr ns) := h
    cases h' with
    | scr a =>
      refine Or.inl ⟨_, ex_l eW a, ?_⟩
      rw [List.isEmpty_map]
      exact (Option.some.inj e).symm
section
variable {X : Cx} {E : SXK} {a b c : Expr} {fa fb fc : Ev → Option Res} {pos : Pos}
theorem J_neg (ha : JB X E a fa) : J X E (.UnaryOp .USub a pos) (op1G negD fa) := ⟨impE (pe_un un_neg ha.run) fun σ H Q q => by
  obtain ⟨H0, F, O, env, res, S, e, P⟩ := q
  refine tB_bnd S e P fun v H1 _ d _ e1 S1 h1 e P => ?_
  unfold negD at e
  split at e
  · cases h1; cases e
    exact ⟨_, rfl, P.sc (.int _)⟩
  · cases e⟩
theorem J_not (ha : JB X E a fa) : J X E (.UnaryOp .Not a pos) (op1G notD fa) := ⟨impE (pe_notT ha.run) fun σ H Q q => by
  obtain ⟨H0, F, O, env, res, S, e, P⟩ := q
  refine tB_bnd S e P fun v H1 _ d _ e1 S1 h1 e P => ?_
  unfold notD at e
  cases q : truB d with
  | none => rw [q] at e; cases e
  | some b =>
    rw [q] at e
    cases e
    exact ⟨b, tru_way S1.hs.vis h1 q, P.sc (.bl _)⟩⟩

/-! ### tests -/
def PostT (K : PySem.W.Frag) (mg : Str → Option Value) (W : Hp → Hp) (H : Hp) (Q : Bool → Hp → Prop) (E : XK) : Res → Prop
  | .ok _ (.bl b) => ∀ H', Ex H H' → Q b H'
  | .ok _ _ => False
  | .ex c fs => ∀ C dx H', mg c = some (.ref C) → Ex H H' → Exc1 K (W H') H H' dx fs → E (.ref C) (some dx) H'
def tT1 (K : PySem.W.Frag) (mg : Str → Option Value) (E : SXK) (f : Ev → Option Res) : TT := fun σ H Q =>
  ∃ H0 F O env r, SR K H0 F O σ H env ∧ f env = some r ∧ PostT K mg (vis H0 F O) H Q (E σ) r
structure JT (X : Cx) (E : SXK) (e : Expr) (f : Ev → Option Res) : Prop where
  run : PT X e (tT1 X.K X.mg E f)
structure JW (X : Cx) (E : SXK) (e : Expr) (f : Ev → Option Res) : Prop where
  run : PW X e (tT1 X.K X.mg E f)
theorem JW.t (h : JW X E a fa) : JT X E a fa := ⟨h.run.pt⟩
theorem impW {X : Cx} {e : Expr} {t t' : TT} (h : PW X e t) (k : ∀ σ H Q, t' σ H Q → t σ H Q) : PW X e t' := ⟨fun w pins s σ H Q I q => h.run w pins s σ H Q I (k _ _ _ q)⟩
/-- a value's reading from a test's -/
theorem tT_F {K : PySem.W.Frag} {mg : Str → Option Value} {f : Ev → Option Res} {σ : L2.St} {H : Hp} {Q : Bool → Hp → Prop} (q : tT1 K mg E f σ H Q) : tF K mg E f σ H (fun x H' => ∃ k, x = .bl k ∧ Q k H') := by
  obtain ⟨H0, F, O, env, res, S, e, P⟩ := q
  refine ⟨H0, F, O, env, res, S, e, ?_⟩
  cases res with
  | ex c fs => exact P
  | ok fl d =>
    cases d with
    | bl b =>
      intro v H' e' h
      have h' : Rep K (vis H0 F O H') v (.bl b) := by cases fl <;> exact h
      cases h'
      exact ⟨b, rfl, P H' e'⟩
    | _ => exact P.elim
theorem JT_truth (ha : JB X E a fa) (he : ∀ whole, isTrue a X.env whole = (do let v ← whole; standAt a.pos; holding [v] (truthy v))) : JT X E a (op1G truD fa) := ⟨impT (pt_truth ha.run he) fun σ H Q q => by
  obtain ⟨H0, F, O, env, res, S, e, P⟩ := tT_F q
  refine tB_bnd S e P fun v H1 _ d _ e1 S1 h1 e P => ?_
  unfold truD at e
  cases q : truB d with
  | none => rw [q] at e; cases e
  | some b =>
    rw [q] at e
    cases e
    obtain ⟨k, e3, q3⟩ := P.sc (.bl b)
    cases e3
    exact ⟨b, tru_way S1.hs.vis h1 q, q3⟩⟩
theorem JT_cmp {op : CmpOp} {g : Dt → Dt → Option Res} (ho : Op2 X (compareOp op) g) (ha : JB X E a fa) (hb : JB X E b fb) (hm : behindInMarks op b = false) : JT X E (.Compare a [op] [b] pos) (op2G g fa fb) := by
  obtain ⟨r, ho, hr⟩ := ho
  exact ⟨impT (pt_cmpR ho ha.run hb.run hm) fun σ H Q q => tOp_of hr (tT_F q)⟩
/-- by the test's answer -/
def selG (fa f1 f0 : Ev → Option Res) : Ev → Option Res := fun env => bnd (fa env) fun _ x => match x with
  | .bl true => f1 env
  | .bl false => f0 env
  | _ => none
theorem tT_sel {K : PySem.W.Frag} {mg : Str → Option Value} {H0 F H : Hp} {O : Addr → Prop} {σ : L2.St} {env : Ev} {f1 f0 : Ev → Option Res} {res : Res} {Q1 : Bool → Hp → Prop}
    (S : SR K H0 F O σ H env) (e : selG fa f1 f0 env = some res) (px : ∀ c fs, res = .ex c fs → ∀ C dx H', mg c = some (.ref C) → Ex H H' → Exc1 K (vis H0 F O H') H H' dx fs → E σ (.ref C) (some dx) H')
    (go : ∀ b H1, Ex H H1 → SR K H0 F O σ H1 env → (if b = true then f1 env else f0 env) = some res → Q1 b H1) : tT1 K mg E fa σ H Q1 := by
  unfold selG at e
  cases q : fa env with
  | none => rw [q] at e; cases e
  | some r =>
    cases r with
    | ex c fs =>
      rw [q] at e
      cases e
      exact ⟨H0, F, O, env, _, S, q, px c fs rfl⟩
    | ok fl d =>
      rw [q] at e
      cases d with
      | bl b =>
        refine ⟨H0, F, O, env, _, S, q, fun H' e' => go b H' e' (S.mono e') ?_⟩
        cases b with
        | true => rw [if_pos rfl]; exact e
        | false => rw [if_neg Bool.false_ne_true]; exact e
      | _ => cases e
def bG (b : Bool) : Ev → Option Res := fun _ => okB b
def andG (fa fb : Ev → Option Res) : Ev → Option Res := selG fa fb (bG false)
def orG (fa fb : Ev → Option Res) : Ev → Option Res := selG fa (bG true) fb
def notG (fa : Ev → Option Res) : Ev → Option Res := selG fa (bG false) (bG true)
theorem tT_ex {K : PySem.W.Frag} {mg : Str → Option Value} {H0 F H : Hp} {O : Addr → Prop} {Q : Bool → Hp → Prop} {res : Res} (P : PostT K mg (vis H0 F O) H Q (E σ) res) :
    ∀ c fs, res = .ex c fs → ∀ C dx H', mg c = some (.ref C) → Ex H H' → Exc1 K (vis H0 F O H') H H' dx fs → E σ (.ref C) (some dx) H' := fun c fs e => by
  subst e
  exact P
theorem PostT.up {K : PySem.W.Frag} {mg : Str → Option Value} {H0 F H H1 : Hp} {O : Addr → Prop} {Q : Bool → Hp → Prop} {res : Res} (P : PostT K mg (vis H0 F O) H Q (E σ) res) (e1 : Ex H H1) : PostT K mg (vis H0 F O) H1 Q (E σ) res := by
  cases res with
  | ex c fs => exact fun C dx H' hc e' h => P C dx H' hc (e1.trans e') (let ⟨vs, a, b, c⟩ := h; ⟨vs, fresh_back e1 a, b, c⟩)
  | ok fl d =>
    cases d with
    | bl b => exact fun H' e' => P H' (e1.trans e')
    | _ => exact P
theorem JW_and1 (ha : JT X E a fa) : JW X E (.BoolOp .And [a] pos) fa := ⟨pw_and1 ha.run⟩
theorem JW_or1 (ha : JT X E a fa) : JW X E (.BoolOp .Or [a] pos) fa := ⟨pw_or1 ha.run⟩
theorem JW_and {rest : List Expr} (ha : JT X E a fa) (hb : JW X E (.BoolOp .And (b :: rest) pos) fb) : JW X E (.BoolOp .And (a :: b :: rest) pos) (andG fa fb) := ⟨impW (pw_and ha.run hb.run) fun σ H Q q => by
  obtain ⟨H0, F, O, env, res, S, e, P⟩ := q
  refine tT_sel S e (tT_ex P) fun k H1 e1 S1 q => ?_
  cases k with
  | true =>
    rw [if_pos rfl] at q ⊢
    exact ⟨H0, F, O, env, res, S1, q, P.up e1⟩
  | false =>
    rw [if_neg Bool.false_ne_true] at q ⊢
    cases q
    exact P H1 e1⟩
theorem JW_or {rest : List Expr} (ha : JT X E a fa) (hb : JW X E (.BoolOp .Or (b :: rest) pos) fb) : JW X E (.BoolOp .Or (a :: b :: rest) pos) (orG fa fb) := ⟨impW (pw_or ha.run hb.run) fun σ H Q q => by
  obtain ⟨H0, F, O, env, res, S, e, P⟩ := q
  refine tT_sel S e (tT_ex P) fun k H1 e1 S1 q => ?_
  cases k with
  | false =>
    rw [if_neg Bool.false_ne_true] at q ⊢
    exact ⟨H0, F, O, env, res, S1, q, P.up e1⟩
  | true =>
    rw [if_pos rfl] at q ⊢
    cases q
    exact P H1 e1⟩
theorem JT_not (ha : JT X E a fa) : JT X E (.UnaryOp .Not a pos) (notG fa) := ⟨impT (pt_not ha.run) fun σ H Q q => by
  obtain ⟨H0, F, O, env, res, S, e, P⟩ := q
  refine tT_sel S e (tT_ex P) fun k H1 e1 S1 q => ?_
  cases k with
  | true =>
    rw [if_pos rfl] at q
    cases q
    exact P H1 e1
  | false =>
    rw [if_neg Bool.false_ne_true] at q
    cases q
    exact P H1 e1⟩
/-- a < b < c -/
def chainG (g g' : Dt → Dt → Option Res) (fa fb fc : Ev → Option Res) : Ev → Option Res := fun env => bnd (fa env) fun _ x => bnd (fb env) fun _ y => bnd (g x y) fun _ z => match z with
  | .bl true => bnd (fc env) fun _ w => g' y w
  | .bl false => okB false
  | _ => none
theorem tChain_of {r r' : R2} {g g' : Dt → Dt → Option Res} {σ : L2.St} {H : Hp} {Q : VK}
    (hr : ∀ (E : XK) (H0 F : Hp) (O : Addr → Prop) (H : Hp) (x y : V) (dx dy : Dt) (res : Res) (Q : VK), HS H0 F O H → RepB X.K (vis H0 F O H) H x dx → RepB X.K (vis H0 F O H) H y dy → g dx dy = some res →
      Post X.K X.mg (vis H0 F O) H Q E res → r x y H Q)
    (hr' : ∀ (E : XK) (H0 F : Hp) (O : Addr → Prop) (H : Hp) (x y : V) (dx dy : Dt) (res : Res) (Q : VK), HS H0 F O H → RepB X.K (vis H0 F O H) H x dx → RepB X.K (vis H0 F O H) H y dy → g' dx dy = some res →
      Post X.K X.mg (vis H0 F O) H Q E res → r' x y H Q)
    (q : tF X.K X.mg E (chainG g g' fa fb fc) σ H Q) : tChain r r' (tB1 X.K X.mg E fa) (tB1 X.K X.mg E fb) (tB1 X.K X.mg E fc) σ H Q := by
  obtain ⟨H0, F, O, env, res, S, e, P⟩ := q
  refine tB_bnd S e P fun v H1 _ d _ e1 S1 h1 e P => ?_
  refine tB_bnd S1 e P fun u H2 _ d' _ e2 S2 h2 e P => ?_
  cases gz : g d d' with
  | none => rw [gz] at e; cases e
  | some z =>
    cases z with
    | ex c fs =>
      rw [gz] at e
      cases e
      exact hr (E σ) H0 F O H2 v u d d' _ _ S2.hs (h1.up e2) h2 gz P
    | ok fl dz =>
      rw [gz] at e
      cases dz with
      | bl k =>
        refine hr (E σ) H0 F O H2 v u d d' _ _ S2.hs (h1.up e2) h2 gz fun z H3 e3 hz => ?_
        have hz' : Rep X.K (vis H0 F O H3) z (.bl k) := by cases fl <;> exact hz
        cases hz'
        refine ⟨k, rfl, ?_⟩
        have S3 := S2.mono e3
        have P3 := P.up e3
        cases k with
        | true =>
          rw [if_pos rfl]
          refine tB_bnd S3 e P3 fun w H4 _ d4 _ e4 S4 h4 e P => ?_
          exact hr' (E σ) H0 F O H4 u w d' d4 _ _ S4.hs (h2.up (e3.trans e4)) h4 e P
        | false =>
          rw [if_neg Bool.false_ne_true]
          cases e
          exact P3.sc (.bl false)
      | _ => cases e
theorem J_chain {op op' : CmpOp} {g g' : Dt → Dt → Option Res} (ho : Op2 X (compareOp op) g) (ho' : Op2 X (compareOp op') g') (ha : JB X E a fa) (hb : JB X E b fb) (hc : JB X E c fc) (hm : lastMarks [op, op'] [b, c] = false) :
    J X E (.Compare a [op, op'] [b, c] pos) (chainG g g' fa fb fc) := by
  obtain ⟨r, ho, hr⟩ := ho
  obtain ⟨r', ho', hr'⟩ := ho'
  exact ⟨impE (pe_chain ho ho' ha.run hb.run hc.run hm) fun σ H Q q => tChain_of hr hr' q⟩
theorem JT_chain {op op' : CmpOp} {g g' : Dt → Dt → Option Res} (ho : Op2 X (compareOp op) g) (ho' : Op2 X (compareOp op') g') (ha : JB X E a fa) (hb : JB X E b fb) (hc : JB X E c fc) (hm : lastMarks [op, op'] [b, c] = false) :
    JT X E (.Compare a [op, op'] [b, c] pos) (chainG g g' fa fb fc) := by
  obtain ⟨r, ho, hr⟩ := ho
  obtain ⟨r', ho', hr'⟩ := ho'
  exact ⟨impT (pt_chain ho ho' ha.run hb.run hc.run hm) fun σ H Q q => tChain_of hr hr' (tT_F q)⟩
/-- as values: a and b, a or b, where a is True or False; a if t else b -/
theorem J_one {op : BoolOp} (ha : J X E a fa) : J X E (.BoolOp op [a] pos) fa := ⟨pe_one ha.run⟩
theorem tF_sel {f1 f0 : Ev → Option Res} {σ : L2.St} {H : Hp} {Q Q1 : VK} (q : tF X.K X.mg E (selG fa f1 f0) σ H Q)
    (go : ∀ b H1, (if b = true then tF X.K X.mg E f1 σ H1 Q else tF X.K X.mg E f0 σ H1 Q) → Q1 (.bl b) H1) : tF X.K X.mg E fa σ H Q1 := by
  obtain ⟨H0, F, O, env, res, S, e, P⟩ := q
  refine tF_bnd S e P fun v H1 fl d _ e1 S1 h1 e P => ?_
  split at e
  · cases h1
    refine go true H1 ?_
    rw [if_pos rfl]
    exact ⟨H0, F, O, env, res, S1, e, P⟩
  · cases h1
    refine go false H1 ?_
    rw [if_neg Bool.false_ne_true]
    exact ⟨H0, F, O, env, res, S1, e, P⟩
  · cases e
theorem tF_b {b : Bool} {σ : L2.St} {H : Hp} {Q : VK} (q : tF X.K X.mg E (bG b) σ H Q) : Q (.bl b) H := by
  obtain ⟨H0, F, O, env, res, S, e, P⟩ := q
  cases e
  exact P.sc (.bl b)
theorem J_and {rest : List Expr} (ha : J X E a fa) (hb : J X E (.BoolOp .And (b :: rest) pos) fb) : J X E (.BoolOp .And (a :: b :: rest) pos) (andG fa fb) := ⟨impE (pe_and ha.run hb.run) fun σ H Q q =>
  tF_sel q fun k H1 q1 => ⟨k, rfl, by
    cases k with
    | true => exact q1
    | false => exact tF_b q1⟩⟩
theorem J_or {rest : List Expr} (ha : J X E a fa) (hb : J X E (.BoolOp .Or (b :: rest) pos) fb) : J X E (.BoolOp .Or (a :: b :: rest) pos) (orG fa fb) := ⟨impE (pe_or ha.run hb.run) fun σ H Q q =>
  tF_sel q fun k H1 q1 => ⟨k, rfl, by
    cases k with
    | true => exact tF_b q1
    | false => exact q1⟩⟩
theorem J_if (hc : JT X E c fc) (ha : J X E a fa) (hb : J X E b fb) : J X E (.IfExp c a b pos) (selG fc fa fb) := ⟨impE (pe_ifExp hc.run ha.run hb.run) fun σ H Q q => by
  obtain ⟨H0, F, O, env, res, S, e, P⟩ := q
  refine tT_sel S e (fun c fs h => by subst h; exact P) fun k H1 e1 S1 q => ?_
  cases k with
  | true =>
    rw [if_pos rfl] at q ⊢
    exact ⟨H0, F, O, env, res, S1, q, P.up e1⟩
  | false =>
    rw [if_neg Bool.false_ne_true] at q ⊢
    exact ⟨H0, F, O, env, res, S1, q, P.up e1⟩⟩
end
end Dl

namespace Dl
open PySem PySem.Spec PyProof.Rows L2 Evl

/-! ### items, slices -/
def ixD : Dt → Dt → Option Res
  | .lst ds, .int i => (atI ds i).map fun d => .ok false d
  | .tup ds, .int i => (atI ds i).map fun d => .ok false d
  | .scr ns, .int i => (atI ns i).map fun d => .ok false (.int d)
  | .str z, .int i => if z.length ≤ 16777216 then (atI z.cps.toList i).map fun c => .ok false (.str ⟨#[c]⟩) else none
  | _, _ => none
theorem Reps.at {K : PySem.W.Frag} {H : Hp} {vs : List V} {ds : List Dt} {i : Int} {d : Dt} (h : Reps K H vs ds) (e : atI ds i = some d) : ∃ v, atI vs i = some v ∧ Rep K H v d := by
  unfold atI at e ⊢
  rw [h.length]
  cases q : ixN ds.length i with
  | none => rw [q] at e; cases e
  | some j =>
    rw [q] at e
    exact h.get (show ds[j]? = some d from e)
theorem atI_map {α β : Type} {f : α → β} {xs : List α} {i : Int} {x : α} (e : atI xs i = some x) : atI (xs.map f) i = some (f x) := by
  unfold atI at e ⊢
  rw [List.length_map]
  cases q : ixN xs.length i with
  | none => rw [q] at e; cases e
  | some j =>
    rw [q] at e
    show (xs.map f)[j]? = some (f x)
    rw [List.getElem?_map, show xs[j]? = some x from e]
    rfl
theorem ix_way {K : PySem.W.Frag} {mg : Str → Option Value} {E : XK} {H0 F H : Hp} {O : Addr → Prop} {x y : V} {dx dy : Dt} {res : Res} {Q : VK} (hs : HS H0 F O H) (hx : RepB K (vis H0 F O H) H x dx) (hy : RepB K (vis H0 F O H) H y dy)
    (e : ixD dx dy = some res) (P : Post K mg (vis H0 F O) H Q E res) : rIx K x y H Q := by
  unfold ixD at e
  split at e
  · rename_i ds i
    obtain ⟨a, xs, rfl, h1, h2⟩ := hx
    cases hy
    cases q : atI ds i with
    | none => rw [q] at e; cases e
    | some d =>
      rw [q] at e
      cases e
      obtain ⟨v, h3, h4⟩ := h2.at q
      exact .inl ⟨a, xs, i, v, rfl, rfl, Or.inl (Or.inl h1), h3, P.sc h4⟩
  · rename_i ds i
    have hx' : Rep K (vis H0 F O H) x (.tup ds) := hx
    cases hy
    cases hx' with
    | tup h1 h2 =>
      cases q : atI ds i with
      | none => rw [q] at e; cases e
      | some d =>
        rw [q] at e
        cases e
        obtain ⟨v, h3, h4⟩ := h2.at q
        exact .inr (.inl ⟨_, _, i, v, rfl, rfl, ex_t hs.vis h1, h3, P.sc h4⟩)
  · rename_i ns i
    have hx' : Rep K (vis H0 F O H) x (.scr ns) := hx
    cases hy
    cases hx' with
    | scr h1 =>
      cases q : atI ns i with
      | none => rw [q] at e; cases e
      | some d =>
        rw [q] at e
        cases e
        exact .inl ⟨_, _, i, _, rfl, rfl, ex_l hs.vis h1, atI_map q, P.sc (.int d)⟩
  · rename_i z i
    cases hx
    cases hy
    split at e
    · rename_i hl
      cases q : atI z.cps.toList i with
      | none => rw [q] at e; cases e
      | some d =>
        rw [q] at e
        cases e
        exact .inr (.inr ⟨z, i, d, rfl, rfl, by rw [sizeLine_eq]; exact hl, q, P.sc (.str _)⟩)
    · cases e
  · cases e
def cutL {α : Type} (xs : List α) (lo hi : Option Int) : List α := (xs.drop (HT.sIx xs.length 0 lo)).take (HT.sIx xs.length xs.length hi - HT.sIx xs.length 0 lo)
def slD (d : Dt) (lo hi : Option Int) : Option Res := match d with
  | .lst ds => okL (cutL ds lo hi)
  | .tup ds => if HT.sIx ds.length 0 lo = 0 ∧ HT.sIx ds.length ds.length hi = ds.length then none else some (.ok false (.tup (cutL ds lo hi)))
  | .str z => if z.length ≤ 16777216 then okS (cutS z lo hi) else none
  | _ => none
/-- a part of a slice: left out, or an int -/
def noPG : Ev → Option Res := fun _ => some (.ok false .non)
def isInt : Dt → Option Int
  | .int i => some i
  | _ => none
def slG (f : Ev → Option Res) (lo hi : Option (Ev → Option Res)) : Ev → Option Res := fun env => bnd (f env) fun _ d =>
  match lo, hi with
  | none, none => slD d none none
  | some l, none => bnd (l env) fun _ i => (isInt i).bind fun i => slD d (some i) none
  | none, some h => bnd (h env) fun _ i => (isInt i).bind fun i => slD d none (some i)
  | some l, some h => bnd (l env) fun _ i => (isInt i).bind fun i => bnd (h env) fun _ j => (isInt j).bind fun j => slD d (some i) (some j)
theorem Reps.cut {K : PySem.W.Frag} {H : Hp} {vs : List V} {ds : List Dt} (lo hi : Option Int) (h : Reps K H vs ds) : Reps K H (cutV vs lo hi) (cutL ds lo hi) := by
  unfold cutV cutL
  rw [h.length]
  exact (h.drop _).take _
theorem sl_way {K : PySem.W.Frag} {mg : Str → Option Value} {E : XK} {H0 F H : Hp} {O : Addr → Prop} {x : V} {d : Dt} {lo hi : Option Int} {res : Res} {Q : VK} (hs : HS H0 F O H) (hx : RepB K (vis H0 F O H) H x d)
    (e : slD d lo hi = some res) (P : Post K mg (vis H0 F O) H Q E res) : rSlL K x lo hi H Q ∨ rSlT K x lo hi H Q ∨ rSlS x lo hi H Q := by
  unfold slD at e
  split at e
  · obtain ⟨a, xs, rfl, h1, h2⟩ := hx
    cases e
    exact .inl ⟨a, xs, rfl, Or.inl (Or.inl h1), P.nw hs (h2.cut lo hi)⟩
  · rename_i ds
    have hx' : Rep K (vis H0 F O H) x (.tup ds) := hx
    cases hx' with
    | tup h1 h2 =>
      split at e
      · cases e
      · rename_i hn
        cases e
        refine .inr (.inl ⟨_, _, rfl, ex_t hs.vis h1, ?_, P.nwT hs (h2.cut lo hi)⟩)
        rw [h2.length]
        exact hn
  · cases hx
    split at e
    · rename_i hl
      cases e
      exact .inr (.inr ⟨_, rfl, by rw [sizeLine_eq]; exact hl, P.sc (.str _)⟩)
    · cases e
  · cases e
section
variable {X : Cx} {E : SXK} {a b c : Expr} {fa fb fc : Ev → Option Res} {pos p2 : Pos}
theorem J_ix (ha : JB X E a fa) (hb : JB X E b fb) (hs : PlainIx b) : J X E (.Subscript a b pos) (op2G ixD fa fb) := ⟨impE (pe_ix ix_seq ha.run hb.run hs) fun σ H Q q =>
  tOp_of (fun E H0 F O H x y dx dy res Q hs hx hy e P => ix_way hs hx hy e P) q⟩
/-- a slice's part -/
inductive JO (X : Cx) (E : SXK) : Option Expr → Option (Ev → Option Res) → Prop
  | none : JO X E none none
  | some {e : Expr} {f : Ev → Option Res} (h : JB X E e f) : JO X E (some e) (some f)
def tO (K : PySem.W.Frag) (mg : Str → Option Value) (E : SXK) : Option (Ev → Option Res) → TO
  | none => tNoPart
  | some f => tPart (tB1 K mg E f)
theorem JO.run {e : Option Expr} {f : Option (Ev → Option Res)} (h : JO X E e f) : PO X e (tO X.K X.mg E f) := by
  cases h with
  | none => exact po_none
  | some h => exact po_some h.run
theorem J_slice {lo hi : Option Expr} {fl fh : Option (Ev → Option Res)} (ha : JB X E a fa) (hl : JO X E lo fl) (hh : JO X E hi fh) : J X E (.Subscript a (.Slice lo hi none p2) pos) (slG fa fl fh) :=
  ⟨impE (pe_slice (sl_list.or (sl_tup.or sl_str)) ha.run hl.run hh.run) fun σ H Q q => by
    obtain ⟨H0, F, O, env, res, S, e, P⟩ := q
    refine tB_bnd S e P fun v H1 _ d _ e1 S1 h1 e P => ?_
    cases fl with
    | none =>
      cases fh with
      | none => exact sl_way S1.hs h1 e P
      | some h =>
        refine tB_bnd S1 e P fun u H2 _ d2 _ e2 S2 h2 e P => ?_
        cases d2 with
        | int j => cases h2; exact ⟨j, rfl, sl_way S2.hs (h1.up e2) e P⟩
        | _ => cases e
    | some l =>
      cases fh with
      | none =>
        refine tB_bnd S1 e P fun u H2 _ d2 _ e2 S2 h2 e P => ?_
        cases d2 with
        | int j => cases h2; exact ⟨j, rfl, sl_way S2.hs (h1.up e2) e P⟩
        | _ => cases e
      | some h =>
        refine tB_bnd S1 e P fun u H2 _ d2 _ e2 S2 h2 e P => ?_
        cases d2 with
        | int i =>
          cases h2
          refine ⟨i, rfl, ?_⟩
          refine tB_bnd S2 e P fun u H3 _ d3 _ e3 S3 h3 e P => ?_
          cases d3 with
          | int j => cases h3; exact ⟨j, rfl, sl_way S3.hs (h1.up (e2.trans e3)) e P⟩
          | _ => cases e
        | _ => cases e⟩
end

/-! ### argument lists -/
def argN : Ev → Option Res := fun _ => some (.ok false (.lst []))
def consD (d : Dt) : Dt → Option Res
  | .lst ds => some (.ok false (.lst (d :: ds)))
  | _ => none
def argC (f fs : Ev → Option Res) : Ev → Option Res := fun env => bnd (f env) fun _ d => bnd (fs env) fun _ ds => consD d ds
def PostA (K : PySem.W.Frag) (mg : Str → Option Value) (W : Hp → Hp) (H : Hp) (Q : List V → Hp → Prop) (E : XK) : Res → Prop
  | .ok _ (.lst ds) => ∀ vs H', Ex H H' → Reps K (W H') vs ds → Q vs H'
  | .ok _ _ => False
  | .ex c fs => ∀ C dx H', mg c = some (.ref C) → Ex H H' → Exc1 K (W H') H H' dx fs → E (.ref C) (some dx) H'
theorem PostA.up {K : PySem.W.Frag} {mg : Str → Option Value} {E : XK} {W : Hp → Hp} {H H1 : Hp} {Q : List V → Hp → Prop} {res : Res} (P : PostA K mg W H Q E res) (e1 : Ex H H1) : PostA K mg W H1 Q E res := by
  cases res with
  | ex c fs => exact fun C dx H' hc e' h => P C dx H' hc (e1.trans e') (let ⟨vs, a, b, c⟩ := h; ⟨vs, fresh_back e1 a, b, c⟩)
  | ok fl d =>
    cases d with
    | lst ds => exact fun vs H' e' => P vs H' (e1.trans e')
    | _ => exact P
/-- operands as arguments -/
inductive RepBs (K : PySem.W.Frag) (W H : Hp) : List V → List Dt → Prop
  | nil : RepBs K W H [] []
  | cons {v : V} {vs : List V} {d : Dt} {ds : List Dt} : RepB K W H v d → RepBs K W H vs ds → RepBs K W H (v :: vs) (d :: ds)
theorem RepBs.all {K : PySem.W.Frag} {W H : Hp} (e : Ex W H) : ∀ {vs : List V} {ds : List Dt}, RepBs K W H vs ds → Reps K H vs ds
  | _, _, .nil => .nil
  | _, _, .cons a b => .cons (a.all e) (RepBs.all e b)
def PostB (K : PySem.W.Frag) (mg : Str → Option Value) (W : Hp → Hp) (H : Hp) (Q : List V → Hp → Prop) (E : XK) : Res → Prop
  | .ok _ (.lst ds) => ∀ vs H', Ex H H' → RepBs K (W H') H' vs ds → Q vs H'
  | .ok _ _ => False
  | .ex c fs => ∀ C dx H', mg c = some (.ref C) → Ex H H' → Exc1 K (W H') H H' dx fs → E (.ref C) (some dx) H'
theorem PostB.up {K : PySem.W.Frag} {mg : Str → Option Value} {E : XK} {W : Hp → Hp} {H H1 : Hp} {Q : List V → Hp → Prop} {res : Res} (P : PostB K mg W H Q E res) (e1 : Ex H H1) : PostB K mg W H1 Q E res := by
  cases res with
  | ex c fs => exact fun C dx H' hc e' h => P C dx H' hc (e1.trans e') (let ⟨vs, a, b, c⟩ := h; ⟨vs, fresh_back e1 a, b, c⟩)
  | ok fl d =>
    cases d with
    | lst ds => exact fun vs H' e' => P vs H' (e1.trans e')
    | _ => exact P
def tA1 (K : PySem.W.Frag) (mg : Str → Option Value) (E : SXK) (f : Ev → Option Res) : TA := fun σ H Q => ∃ H0 F O env r, SR K H0 F O σ H env ∧ f env = some r ∧ PostA K mg (vis H0 F O) H Q (E σ) r
def tA2 (K : PySem.W.Frag) (mg : Str → Option Value) (E : SXK) (f : Ev → Option Res) : TA := fun σ H Q => ∃ H0 F O env r, SR K H0 F O σ H env ∧ f env = some r ∧ PostB K mg (vis H0 F O) H Q (E σ) r
structure JA (X : Cx) (E : SXK) (es : List Expr) (f : Ev → Option Res) : Prop where
  run : PA X es (tA1 X.K X.mg E f)
structure JAB (X : Cx) (E : SXK) (es : List Expr) (f : Ev → Option Res) : Prop where
  run : PA X es (tA2 X.K X.mg E f)
section
variable {X : Cx} {E : SXK} {a b c : Expr} {es : List Expr} {fa fb fc fs : Ev → Option Res} {pos p2 : Pos}
theorem consD_some {d x : Dt} {r : Res} (e : consD d x = some r) : ∃ ds, x = .lst ds ∧ r = .ok false (.lst (d :: ds)) := by
  cases x with
  | lst ds => cases e; exact ⟨ds, rfl, rfl⟩
  | _ => cases e
theorem JA_nil : JA X E [] argN := ⟨impA pa_nil fun σ H Q q => by
  obtain ⟨H0, F, O, env, res, S, e, P⟩ := q
  cases e
  exact P [] H (Ex.refl H) .nil⟩
theorem JAB_nil : JAB X E [] argN := ⟨impA pa_nil fun σ H Q q => by
  obtain ⟨H0, F, O, env, res, S, e, P⟩ := q
  cases e
  exact P [] H (Ex.refl H) .nil⟩
theorem JA_cons (ha : J X E a fa) (hr : JA X E es fs) (hs : starEach (a :: es) X.env = (false, eval a X.env) :: starEach es X.env) : JA X E (a :: es) (argC fa fs) := ⟨impA (pa_cons ha.run hr.run hs) fun σ H Q q => by
  obtain ⟨H0, F, O, env, res, S, e, P⟩ := q
  have e' : bnd (fa env) (fun _ d => bnd (fs env) fun _ ds => consD d ds) = some res := e
  cases q1 : fa env with
  | none => rw [q1] at e'; cases e'
  | some r =>
    rw [q1] at e'
    cases r with
    | ex c f => cases e'; exact ⟨H0, F, O, env, _, S, q1, P⟩
    | ok fl d =>
      refine ⟨H0, F, O, env, _, S, q1, fun v H1 e1 h1 => ?_⟩
      have S1 := S.mono e1
      have h1' := h1.rep S.hs.seen
      have e2 : bnd (fs env) (fun _ ds => consD d ds) = some res := e'
      cases q2 : fs env with
      | none => rw [q2] at e2; cases e2
      | some r =>
        rw [q2] at e2
        cases r with
        | ex c f => cases e2; exact ⟨H0, F, O, env, _, S1, q2, P.up e1⟩
        | ok fl x =>
          obtain ⟨ds, rfl, rfl⟩ := consD_some e2
          exact ⟨H0, F, O, env, _, S1, q2, fun vs H2 e3 h2 => P (v :: vs) H2 (e1.trans e3) (.cons (h1'.up (vis_mono e3)) h2)⟩⟩
theorem JAB_cons (ha : JB X E a fa) (hr : JAB X E es fs) (hs : starEach (a :: es) X.env = (false, eval a X.env) :: starEach es X.env) : JAB X E (a :: es) (argC fa fs) := ⟨impA (pa_cons ha.run hr.run hs) fun σ H Q q => by
  obtain ⟨H0, F, O, env, res, S, e, P⟩ := q
  have e' : bnd (fa env) (fun _ d => bnd (fs env) fun _ ds => consD d ds) = some res := e
  cases q1 : fa env with
  | none => rw [q1] at e'; cases e'
  | some r =>
    rw [q1] at e'
    cases r with
    | ex c f => cases e'; exact ⟨H0, F, O, env, _, S, q1, P⟩
    | ok fl d =>
      refine ⟨H0, F, O, env, _, S, q1, fun v H1 e1 h1 => ?_⟩
      have S1 := S.mono e1
      have e2 : bnd (fs env) (fun _ ds => consD d ds) = some res := e'
      cases q2 : fs env with
      | none => rw [q2] at e2; cases e2
      | some r =>
        rw [q2] at e2
        cases r with
        | ex c f => cases e2; exact ⟨H0, F, O, env, _, S1, q2, P.up e1⟩
        | ok fl x =>
          obtain ⟨ds, rfl, rfl⟩ := consD_some e2
          exact ⟨H0, F, O, env, _, S1, q2, fun vs H2 e3 h2 => P (v :: vs) H2 (e1.trans e3) (.cons (h1.up e3) h2)⟩⟩
/-- from an argument list's reading on -/
theorem tA_bnd {K : PySem.W.Frag} {mg : Str → Option Value} {H0 F H : Hp} {O : Addr → Prop} {σ : L2.St} {env : Ev} {f : Ev → Option Res} {Q : VK} {Q1 : List V → Hp → Prop} {res : Res} {g : List Dt → Option Res}
    (S : SR K H0 F O σ H env) (e : bnd (f env) (fun _ d => match d with | .lst ds => g ds | _ => none) = some res) (P : Post K mg (vis H0 F O) H Q (E σ) res)
    (go : ∀ vs H1 ds, Ex H H1 → SR K H0 F O σ H1 env → Reps K (vis H0 F O H1) vs ds → g ds = some res → Post K mg (vis H0 F O) H1 Q (E σ) res → Q1 vs H1) : tA1 K mg E f σ H Q1 := by
  cases q : f env with
  | none => rw [q] at e; cases e
  | some r =>
    rw [q] at e
    cases r with
    | ex c fs => cases e; exact ⟨H0, F, O, env, _, S, q, P⟩
    | ok fl d =>
      cases d with
      | lst ds => exact ⟨H0, F, O, env, _, S, q, fun vs H1 e1 h1 => go vs H1 ds e1 (S.mono e1) h1 e (P.up e1)⟩
      | _ => cases e
theorem tAB_bnd {K : PySem.W.Frag} {mg : Str → Option Value} {H0 F H : Hp} {O : Addr → Prop} {σ : L2.St} {env : Ev} {f : Ev → Option Res} {Q : VK} {Q1 : List V → Hp → Prop} {res : Res} {g : List Dt → Option Res}
    (S : SR K H0 F O σ H env) (e : bnd (f env) (fun _ d => match d with | .lst ds => g ds | _ => none) = some res) (P : Post K mg (vis H0 F O) H Q (E σ) res)
    (go : ∀ vs H1 ds, Ex H H1 → SR K H0 F O σ H1 env → RepBs K (vis H0 F O H1) H1 vs ds → g ds = some res → Post K mg (vis H0 F O) H1 Q (E σ) res → Q1 vs H1) : tA2 K mg E f σ H Q1 := by
  cases q : f env with
  | none => rw [q] at e; cases e
  | some r =>
    rw [q] at e
    cases r with
    | ex c fs => cases e; exact ⟨H0, F, O, env, _, S, q, P⟩
    | ok fl d =>
      cases d with
      | lst ds => exact ⟨H0, F, O, env, _, S, q, fun vs H1 e1 h1 => go vs H1 ds e1 (S.mono e1) h1 e (P.up e1)⟩
      | _ => cases e
/-- a list or tuple that is written -/
def onG (g : List Dt → Option Res) (fs : Ev → Option Res) : Ev → Option Res := fun env => bnd (fs env) fun _ d => match d with | .lst ds => g ds | _ => none
def lstD (ds : List Dt) : Option Res := if ds.length ≤ 16777216 then okL ds else none
def tupD (ds : List Dt) : Option Res := if ds.length ≤ 16777216 then some (.ok false (.tup ds)) else none
theorem J_lst (h : JA X E es fs) : J X E (.List es pos) (onG lstD fs) := ⟨impE (pe_lst h.run) fun σ H Q q => by
  obtain ⟨H0, F, O, env, res, S, e, P⟩ := q
  refine tA_bnd S e P fun vs H1 ds e1 S1 h1 e P => ?_
  unfold lstD at e
  split at e
  · rename_i hl
    cases e
    exact ⟨by rw [sizeLine_eq, h1.length]; exact hl, P.nw S1.hs h1⟩
  · cases e⟩
theorem J_tup {k : Nat} (h : JA X E es fs) : J X E (.Tuple es k pos) (onG tupD fs) := ⟨impE (pe_tup h.run) fun σ H Q q => by
  obtain ⟨H0, F, O, env, res, S, e, P⟩ := q
  refine tA_bnd S e P fun vs H1 ds e1 S1 h1 e P => ?_
  unfold tupD at e
  split at e
  · rename_i hl
    cases e
    exact ⟨by rw [sizeLine_eq, h1.length]; exact hl, P.nwT S1.hs h1⟩
  · cases e⟩

/-! ### calls of built-ins -/
def CallD (X : Cx) (f : Value) (g : List Dt → Option Res) : Prop := ∃ r : List V → Hp → VK → Prop, CallR X f r ∧
  ∀ (E : XK) (H0 F : Hp) (O : Addr → Prop) (H : Hp) (vs : List V) (ds : List Dt) (res : Res) (Q : VK), HS H0 F O H → RepBs X.K (vis H0 F O H) H vs ds → g ds = some res → Post X.K X.mg (vis H0 F O) H Q E res → r vs H Q
theorem tCB_of {f : Value} {r : List V → Hp → VK → Prop} {g : List Dt → Option Res} {σ : L2.St} {H : Hp} {Q : VK}
    (hr : ∀ (E : XK) (H0 F : Hp) (O : Addr → Prop) (H : Hp) (vs : List V) (ds : List Dt) (res : Res) (Q : VK), HS H0 F O H → RepBs X.K (vis H0 F O H) H vs ds → g ds = some res → Post X.K X.mg (vis H0 F O) H Q E res → r vs H Q)
    (q : tF X.K X.mg E (onG g fs) σ H Q) : tCB r (tA2 X.K X.mg E fs) σ H Q := by
  obtain ⟨H0, F, O, env, res, S, e, P⟩ := q
  exact tAB_bnd S e P fun vs H1 ds e1 S1 h1 e P => hr (E σ) H0 F O H1 vs ds res Q S1.hs h1 e P
theorem J_callB {x : Str} {p : Pos} {id : String} {g : List Dt → Option Res} (hc : CallD X (.builtin id) g) (hg : Gl X x) (hm : X.mg x = none) (hv : bootBuiltins x = some (.builtin id)) (ha : JAB X E (a :: es) fs) (hn : x ≠ "__name__") (hdb : (x == ("__debug__" : Str)) = false)
    (he : starEach (a :: es) X.env = (false, eval a X.env) :: starEach es X.env) (hpl : (backTo pos (starEach es X.env)).any (·.1) = false) : J X E (.Call (.Name x p) (a :: es) [] pos) (onG g fs) := by
  obtain ⟨r, hc, hr⟩ := hc
  exact ⟨impE (pe_callB hc hg hm hv ha.run hn hdb he hpl) fun σ H Q q => tCB_of (f := .builtin id) hr q⟩
theorem J_callTy {x : Str} {p : Pos} {T : String} {g : List Dt → Option Res} (hc : CallD X (.type T) g) (hg : Gl X x) (hm : X.mg x = none) (hv : bootBuiltins x = some (.type T)) (ha : JAB X E (a :: es) fs) (hn : x ≠ "__name__") (hdb : (x == ("__debug__" : Str)) = false)
    (he : starEach (a :: es) X.env = (false, eval a X.env) :: starEach es X.env) (hpl : (backTo pos (starEach es X.env)).any (·.1) = false) : J X E (.Call (.Name x p) (a :: es) [] pos) (onG g fs) := by
  obtain ⟨r, hc, hr⟩ := hc
  exact ⟨impE (pe_callTy hc hg hm hv ha.run hn hdb he hpl) fun σ H Q q => tCB_of (f := .type T) hr q⟩
theorem J_callM {x : Str} {p : Pos} {id : String} {g : List Dt → Option Res} (hc : CallD X (.builtin id) g) (hg : Gl X x) (hm : X.mg x = some (.builtin id)) (ha : JAB X E (a :: es) fs) (hdb : (x == ("__debug__" : Str)) = false)
    (he : starEach (a :: es) X.env = (false, eval a X.env) :: starEach es X.env) (hpl : (backTo pos (starEach es X.env)).any (·.1) = false) : J X E (.Call (.Name x p) (a :: es) [] pos) (onG g fs) := by
  obtain ⟨r, hc, hr⟩ := hc
  exact ⟨impE (pe_callBfun hc hg hm ha.run hdb he hpl) fun σ H Q q => tCB_of (f := .builtin id) hr q⟩
end
def lenD : List Dt → Option Res
  | [.lst ds] => okI ds.length
  | [.tup ds] => okI ds.length
  | [.scr ns] => okI ns.length
  | [.str z] => if z.length ≤ 16777216 then okI z.length else none
  | _ => none
def intD : List Dt → Option Res
  | [.int i] => okI i
  | [.bl b] => okI (if b then 1 else 0)
  | [.str z] => if z.length ≤ 640 then (PySem.intText? z).map fun n => .ok false (.int n) else none
  | _ => none
def absD : List Dt → Option Res
  | [.int i] => okI (if i < 0 then -i else i)
  | _ => none
def max2D : List Dt → Option Res
  | [.int i, .int j] => okI (if j > i then j else i)
  | _ => none
def min2D : List Dt → Option Res
  | [.int i, .int j] => okI (if j < i then j else i)
  | _ => none
def gcdD : List Dt → Option Res
  | [.int i, .int j] => okI ((Nat.gcd i.natAbs j.natAbs : Nat) : Int)
  | _ => none
def listD : List Dt → Option Res
  | [.lst ds] => okL ds
  | [.tup ds] => okL ds
  | [.scr ns] => okL (ns.map Dt.int)
  | _ => none
def tupleD : List Dt → Option Res
  | [.lst ds] => some (.ok false (.tup ds))
  | [.tup ds] => some (.ok false (.tup ds))
  | [.scr ns] => some (.ok false (.tup (ns.map Dt.int)))
  | _ => none
def asInts : List Dt → Option (List Int)
  | [] => some []
  | .int i :: r => (asInts r).map (i :: ·)
  | _ => none
def asBls : List Dt → Option (List Bool)
  | [] => some []
  | .bl i :: r => (asBls r).map (i :: ·)
  | _ => none
theorem asInts_eq : ∀ {ds : List Dt} {ns : List Int}, asInts ds = some ns → ds = ns.map Dt.int
  | [], ns, e => by cases e; rfl
  | d :: r, ns, e => by
    cases d with
    | int i =>
      have e' : (asInts r).map (i :: ·) = some ns := e
      cases q : asInts r with
      | none => rw [q] at e'; cases e'
      | some ms => rw [q] at e'; cases e'; rw [asInts_eq q]; rfl
    | _ => cases e
theorem asBls_eq : ∀ {ds : List Dt} {ns : List Bool}, asBls ds = some ns → ds = ns.map Dt.bl
  | [], ns, e => by cases e; rfl
  | d :: r, ns, e => by
    cases d with
    | bl i =>
      have e' : (asBls r).map (i :: ·) = some ns := e
      cases q : asBls r with
      | none => rw [q] at e'; cases e'
      | some ms => rw [q] at e'; cases e'; rw [asBls_eq q]; rfl
    | _ => cases e
@[simp] theorem asInts_map (ns : List Int) : asInts (ns.map Dt.int) = some ns := by
  induction ns with
  | nil => rfl
  | cons n ns ih => show (asInts (ns.map Dt.int)).map (n :: ·) = _; rw [ih]; rfl
@[simp] theorem asBls_map (ns : List Bool) : asBls (ns.map Dt.bl) = some ns := by
  induction ns with
  | nil => rfl
  | cons n ns ih => show (asBls (ns.map Dt.bl)).map (n :: ·) = _; rw [ih]; rfl
theorem Reps.ofBls {K : PySem.W.Frag} {H : Hp} : ∀ {ns : List Bool} {vs : List V}, Reps K H vs (ns.map Dt.bl) → vs = ns.map V.bl
  | [], _, h => by cases h; rfl
  | n :: ns, _, h => by
    cases h with
    | cons a b => cases a; rw [Reps.ofBls b]; rfl
def sumD : List Dt → Option Res
  | [.lst ds] => (asInts ds).map fun ns => .ok false (.int ns.sum)
  | _ => none
def allD : List Dt → Option Res
  | [.lst ds] => (asBls ds).map fun ns => .ok false (.bl (ns.all id))
  | _ => none
def anyD : List Dt → Option Res
  | [.lst ds] => (asBls ds).map fun ns => .ok false (.bl (ns.any id))
  | _ => none
def tyN : Dt → String
  | .non => "NoneType"
  | .bl _ => "bool"
  | .int _ => "int"
  | .str _ => "str"
  | .lst _ => "list"
  | .tup _ => "tuple"
  | .scr _ => "list"
  | .ty _ => ""
def isiD : List Dt → Option Res
  | [.ty _, _] => none
  | [d, .ty T] => (kitB (tyN d) T).map fun b => .ok false (.bl b)
  | _ => none
section
variable {X : Cx}
theorem c_len : CallD X (.builtin "len") lenD := by
  refine ⟨_, call_len, fun E H0 F O H vs ds res Q hs h e P => ?_⟩
  unfold lenD at e
  split at e
  · cases h with
    | cons h t =>
      cases t; cases e
      obtain ⟨a, xs, rfl, h1, h2⟩ := h
      exact ⟨_, _, rfl, .inl ⟨xs, Or.inl (Or.inl h1), rfl⟩, by rw [h2.length]; exact P.sc (.int _)⟩
  · rename_i ds
    cases h with
    | cons h t =>
      cases t; cases e
      rename_i v
      have h' : Rep X.K (vis H0 F O H) v (.tup ds) := h
      cases h' with
      | tup h1 h2 => exact ⟨_, _, rfl, .inr ⟨_, ex_t hs.vis h1, rfl⟩, by rw [h2.length]; exact P.sc (.int _)⟩
  · rename_i ns
    cases h with
    | cons h t =>
      cases t; cases e
      rename_i v
      have h' : Rep X.K (vis H0 F O H) v (.scr ns) := h
      cases h' with
      | scr h1 => exact ⟨_, _, rfl, .inl ⟨_, ex_l hs.vis h1, rfl⟩, by rw [List.length_map]; exact P.sc (.int _)⟩
  · cases h with
    | cons h t =>
      cases t; cases h
      split at e
      · rename_i hl
        cases e
        exact ⟨_, _, rfl, ⟨by rw [sizeLine_eq]; exact hl, rfl⟩, P.sc (.int _)⟩
      · cases e
  · cases e
theorem callR_or {f : Value} {r1 r2 : List V → Hp → VK → Prop} (h1 : CallR X f r1) (h2 : CallR X f r2) : CallR X f (fun xs H Q => r1 xs H Q ∨ r2 xs H Q) := fun pins s σ H xs us Q I r h => by
  rcases h with h | h
  · exact h1 pins s σ H xs us Q I r h
  · exact h2 pins s σ H xs us Q I r h
theorem c_int : CallD X (.type "int") intD := by
  refine ⟨_, callR_or call_int1 call_int_str, fun E H0 F O H vs ds res Q hs h e P => ?_⟩
  unfold intD at e
  split at e
  · cases h with | cons h t => cases t; cases h; cases e; exact .inl (.inl ⟨_, rfl, P.sc (.int _)⟩)
  · cases h with | cons h t => cases t; cases h; cases e; exact .inl (.inr ⟨_, rfl, P.sc (.int _)⟩)
  · rename_i z
    cases h with | cons h t => cases t; cases h; (
      split at e
      · rename_i hl
        cases hi : PySem.intText? z with
        | none => rw [hi] at e; cases e
        | some n =>
          rw [hi] at e
          cases e
          exact .inr ⟨_, _, rfl, hi, hl, P.sc (.int _)⟩
      · cases e)
  · cases e
theorem c_abs : CallD X (.builtin "abs") absD := by
  refine ⟨_, call_abs, fun E H0 F O H vs ds res Q hs h e P => ?_⟩
  unfold absD at e
  split at e
  · cases h with | cons h t => cases t; cases h; cases e; exact ⟨_, rfl, P.sc (.int _)⟩
  · cases e
theorem c_max2 (hc : X.calm = true) : CallD X (.builtin "max") max2D := by
  refine ⟨_, call_max2 hc, fun E H0 F O H vs ds res Q hs h e P => ?_⟩
  unfold max2D at e
  split at e
  · cases h with | cons h t => cases t with | cons h' t => cases t; cases h; cases h'; cases e; exact ⟨_, _, rfl, P.sc (.int _)⟩
  · cases e
theorem c_min2 (hc : X.calm = true) : CallD X (.builtin "min") min2D := by
  refine ⟨_, call_min2 hc, fun E H0 F O H vs ds res Q hs h e P => ?_⟩
  unfold min2D at e
  split at e
  · cases h with | cons h t => cases t with | cons h' t => cases t; cases h; cases h'; cases e; exact ⟨_, _, rfl, P.sc (.int _)⟩
  · cases e
theorem c_gcd : CallD X (.builtin "math.gcd") gcdD := by
  refine ⟨_, cr_gcd, fun E H0 F O H vs ds res Q hs h e P => ?_⟩
  unfold gcdD at e
  split at e
  · cases h with | cons h t => cases t with | cons h' t => cases t; cases h; cases h'; cases e; exact ⟨_, _, rfl, P.sc (.int _)⟩
  · cases e
theorem c_list : CallD X (.type "list") listD := by
  refine ⟨_, call_list_of, fun E H0 F O H vs ds res Q hs h e P => ?_⟩
  unfold listD at e
  split at e
  · cases h with
    | cons h t =>
      cases t; cases e
      obtain ⟨a, xs, rfl, h1, h2⟩ := h
      exact ⟨_, _, rfl, .inl (Or.inl (Or.inl h1)), P.nw hs h2⟩
  · rename_i ds
    cases h with
    | cons h t =>
      cases t; cases e
      rename_i v
      have h' : Rep X.K (vis H0 F O H) v (.tup ds) := h
      cases h' with
      | tup h1 h2 => exact ⟨_, _, rfl, .inr (ex_t hs.vis h1), P.nw hs h2⟩
  · rename_i ns
    cases h with
    | cons h t =>
      cases t; cases e
      rename_i v
      have h' : Rep X.K (vis H0 F O H) v (.scr ns) := h
      cases h' with
      | scr h1 => exact ⟨_, _, rfl, .inl (ex_l hs.vis h1), P.nw hs (Reps.ints ns)⟩
  · cases e
theorem c_tuple : CallD X (.type "tuple") tupleD := by
  refine ⟨_, call_tuple_of, fun E H0 F O H vs ds res Q hs h e P => ?_⟩
  unfold tupleD at e
  split at e
  · cases h with
    | cons h t =>
      cases t; cases e
      obtain ⟨a, xs, rfl, h1, h2⟩ := h
      exact ⟨_, _, rfl, .inl ⟨Or.inl (Or.inl h1), P.nwT hs h2⟩⟩
  · rename_i ds
    cases h with
    | cons h t =>
      cases t; cases e
      rename_i v
      have h' : Rep X.K (vis H0 F O H) v (.tup ds) := h
      have h0 := h'
      cases h' with
      | tup h1 h2 => exact ⟨_, _, rfl, .inr ⟨ex_t hs.vis h1, P.sc h0⟩⟩
  · rename_i ns
    cases h with
    | cons h t =>
      cases t; cases e
      rename_i v
      have h' : Rep X.K (vis H0 F O H) v (.scr ns) := h
      cases h' with
      | scr h1 => exact ⟨_, _, rfl, .inl ⟨ex_l hs.vis h1, P.nwT hs (Reps.ints ns)⟩⟩
  · cases e
theorem c_sum (hc : X.calm = true) : CallD X (.builtin "sum") sumD := by
  refine ⟨_, cr_sum hc, fun E H0 F O H vs ds res Q hs h e P => ?_⟩
  unfold sumD at e
  split at e
  · rename_i ds
    cases h with
    | cons h t =>
      cases t
      obtain ⟨a, xs, rfl, h1, h2⟩ := h
      cases q : asInts ds with
      | none => rw [q] at e; cases e
      | some ns =>
        rw [q] at e
        cases e
        rw [asInts_eq q] at h2
        rw [h2.ofInts] at h1
        exact ⟨a, ns, rfl, Or.inl (Or.inl h1), P.sc (.int _)⟩
  · cases e
theorem c_all (hc : X.calm = true) : CallD X (.builtin "all") allD := by
  refine ⟨_, cr_all hc, fun E H0 F O H vs ds res Q hs h e P => ?_⟩
  unfold allD at e
  split at e
  · rename_i ds
    cases h with
    | cons h t =>
      cases t
      obtain ⟨a, xs, rfl, h1, h2⟩ := h
      cases q : asBls ds with
      | none => rw [q] at e; cases e
      | some ns =>
        rw [q] at e
        cases e
        rw [asBls_eq q] at h2
        rw [h2.ofBls] at h1
        exact ⟨a, ns, rfl, Or.inl (Or.inl h1), P.sc (.bl _)⟩
  · cases e
theorem c_any (hc : X.calm = true) : CallD X (.builtin "any") anyD := by
  refine ⟨_, cr_any hc, fun E H0 F O H vs ds res Q hs h e P => ?_⟩
  unfold anyD at e
  split at e
  · rename_i ds
    cases h with
    | cons h t =>
      cases t
      obtain ⟨a, xs, rfl, h1, h2⟩ := h
      cases q : asBls ds with
      | none => rw [q] at e; cases e
      | some ns =>
        rw [q] at e
        cases e
        rw [asBls_eq q] at h2
        rw [h2.ofBls] at h1
        exact ⟨a, ns, rfl, Or.inl (Or.inl h1), P.sc (.bl _)⟩
  · cases e
theorem ty_of {K : PySem.W.Frag} {H : Hp} {v : V} {d : Dt} (h : Rep K H v d) (n : ∀ t, d ≠ .ty t) : TyX K H v (.type (tyN d)) := by
  cases h with
  | non => exact .base .non
  | bl b => exact .base (.bl b)
  | int i => exact .base (.int i)
  | str x => exact .base (.str x)
  | ty t => exact (n t rfl).elim
  | lst a b => exact .base (.lst a)
  | tup a b =>
    rcases a with (a | ⟨o, a⟩) | ⟨o, its, k, a, c, _⟩
    · exact .base (.tup a)
    · exact .fTuple a
    · exact .kTuple a c
  | scr a =>
    rcases a with (a | ⟨o, a⟩) | ⟨o, its, k, a, c, _⟩
    · exact .base (.lst a)
    · exact .base (.frz a)
    · exact .kList a c
theorem c_isi : CallD X (.builtin "isinstance") isiD := by
  refine ⟨_, call_isi, fun E H0 F O H vs ds res Q hs h e P => ?_⟩
  unfold isiD at e
  split at e
  · cases e
  · rename_i d T hn
    cases h with
    | cons h t =>
      cases t with
      | cons h' t =>
        cases t
        cases h'
        cases q : kitB (tyN d) T with
        | none => rw [q] at e; cases e
        | some b =>
          rw [q] at e
          cases e
          exact ⟨_, _, _, _, b, rfl, .ty T, ty_of (h.all hs.vis) (fun t z => hn t z), kit_ty q, P.sc (.bl b)⟩
  · cases e
end
end Dl

namespace Dl
open PySem PySem.Spec PyProof.Rows L2 Evl

/-! ### what a def promises, its calls -/
def noO : Addr → Prop := fun _ => False
open Classical in
theorem vis_noO {H0 F H : Hp} {a : Addr} : vis H0 F noO H a = if H0 a = none then H a else F a := by
  unfold vis
  rw [if_neg (show ¬ noO a from fun z => z)]
def PSp (K : PySem.W.Frag) (mg : Str → Option Value) (g : List Dt → Option Res) : Sp := fun vs H Q E => ∃ F ds r, Ex F H ∧ Reps K F vs ds ∧ g ds = some r ∧ Post K mg (vis H F noO) H Q E r
section
variable {K : PySem.W.Frag} {mg : Str → Option Value} {H0 F F' H H1 H' W W' : Hp} {O : Addr → Prop} {v : V} {fl : Bool} {d : Dt} {Q : VK} {E : XK} {r : Res}
theorem Val1.see (e : Ex W W') (h : Val1 K W H H' v fl d) : Val1 K W' H H' v fl d := by
  cases fl with
  | false => cases d <;> exact Rep.up h e
  | true =>
    cases d with
    | lst ds => obtain ⟨a, xs, h1, h2, h3, h4⟩ := h; exact ⟨a, xs, h1, h2, h3, h4.up (hid_mono e)⟩
    | _ => exact Rep.up h e
theorem Post.see {Wf Wf' : Hp → Hp} (h : ∀ H', Ex H H' → Ex (Wf' H') (Wf H')) (P : Post K mg Wf H Q E r) : Post K mg Wf' H Q E r := by
  cases r with
  | ok fl d => exact fun v H' e' q => P v H' e' (q.see (h H' e'))
  | ex c fs => exact fun C dx H' hc e' q => P C dx H' hc e' (let ⟨vs, a, b, c⟩ := q; ⟨vs, a, b, c.up (h H' e')⟩)
theorem vis_in (hs : HS H0 F O H) (e : Ex H H') : Ex (vis H (vis H0 F O H) noO H') (vis H0 F O H') := fun a o q => by
  rw [vis_noO] at q
  split at q
  · rename_i n
    exact (vis_new hs n H').trans q
  · exact vis_mono e _ _ q
theorem vis_self (e : Ex H H') : Ex (vis H H noO H') H' := fun a o q => by
  rw [vis_noO] at q
  split at q
  · exact q
  · exact e _ _ q
theorem Post.call (hs : HS H0 F O H) (P : Post K mg (vis H0 F O) H Q E r) : Post K mg (vis H (vis H0 F O H) noO) H Q E r := P.see fun H' e' => vis_in hs e'
end
/-- a scalar comes back -/
def scD (g : List Dt → Option Res) : List Dt → Option Res := fun ds => (g ds).bind fun r => match r with
  | .ok _ d => if isCst d = true then some (.ok false d) else none
  | .ex _ _ => none
theorem cst_of {K : PySem.W.Frag} {H : Hp} {v : V} {d : Dt} (h : Rep K H v d) (c : isCst d = true) : v = cstV d := by
  cases h <;> first | rfl | (exact absurd c Bool.false_ne_true)
section
variable {X : Cx} {E : SXK} {a b c : Expr} {es : List Expr} {fa fb fc fs : Ev → Option Res} {pos p2 p : Pos} {k : Nat} {f : Addr} {fd : FuncData} {ps : List Str} {g : List Dt → Option Res} {x : Str}
theorem pe_call0S {sp : Sp} (F : FnOk X.prog X.w X.K X.mg X.base (L2.CX X.prog X.w) k f fd ps sp) (hr : Room k X.A) (hg : Gl X x) (hm : X.mg x = some (.ref f)) (hk : PySem.W.keepIn X.K (.ref f) = true) (hb : Binds X.K fd ps []) (hx : ∀ σ, PassesAt (L2.CX X.prog X.w) X σ (E σ))
    (hdb : (x == ("__debug__" : Str)) = false) : PE X (.Call (.Name x p) [] [] pos) (fun σ H Q => sp [] H Q (E σ)) := by
  refine ⟨fun pins s σ H Q I h => ?_⟩
  refine wpAny_Call_Name_kw (ld_glob I hg hm ?_ hdb)
  exact PySem.W.callWith_K0 I.kIn hk (run_fnS (us := []) F hr hb (hx σ) I .nil h)
theorem J_callR (rule : ∀ {t : TA}, PA X (a :: es) t → PE X (.Call (.Name x p) (a :: es) [] pos) (tCallS (PSp X.K X.mg g) E t)) (ha : JA X E (a :: es) fs) : J X E (.Call (.Name x p) (a :: es) [] pos) (onG g fs) := ⟨impE (rule ha.run) fun σ H Q q => by
  obtain ⟨H0, F, O, env, res, S, e, P⟩ := q
  refine tA_bnd S e P fun vs H1 ds e1 S1 h1 e P => ?_
  exact ⟨vis H0 F O H1, ds, res, S1.hs.vis, h1, e, P.call S1.hs⟩⟩
theorem J_call (Fn : FnOk X.prog X.w X.K X.mg X.base (L2.CX X.prog X.w) k f fd ps (PSp X.K X.mg g)) (hr : Room k X.A) (hg : Gl X x) (hm : X.mg x = some (.ref f)) (hk : PySem.W.keepIn X.K (.ref f) = true) (hb : Binds X.K fd ps []) (hx : ∀ σ, PassesAt (L2.CX X.prog X.w) X σ (E σ))
    (ha : JA X E (a :: es) fs) (hdb : (x == ("__debug__" : Str)) = false) (he : starEach (a :: es) X.env = (false, eval a X.env) :: starEach es X.env) (hpl : (backTo pos (starEach es X.env)).any (·.1) = false) :
    J X E (.Call (.Name x p) (a :: es) [] pos) (onG g fs) := ⟨impE (pe_callS Fn hr hg hm hk hb hx ha.run hdb he hpl) fun σ H Q q => by
  obtain ⟨H0, F, O, env, res, S, e, P⟩ := q
  refine tA_bnd S e P fun vs H1 ds e1 S1 h1 e P => ?_
  exact ⟨vis H0 F O H1, ds, res, S1.hs.vis, h1, e, P.call S1.hs⟩⟩
theorem J_call0 (Fn : FnOk X.prog X.w X.K X.mg X.base (L2.CX X.prog X.w) k f fd ps (PSp X.K X.mg g)) (hr : Room k X.A) (hg : Gl X x) (hm : X.mg x = some (.ref f)) (hk : PySem.W.keepIn X.K (.ref f) = true) (hb : Binds X.K fd ps []) (hx : ∀ σ, PassesAt (L2.CX X.prog X.w) X σ (E σ))
    (hdb : (x == ("__debug__" : Str)) = false) : J X E (.Call (.Name x p) [] [] pos) (fun _ => g []) := ⟨impE (pe_call0S Fn hr hg hm hk hb hx hdb) fun σ H Q q => by
  obtain ⟨H0, F, O, env, res, S, e, P⟩ := q
  exact ⟨vis H0 F O H, [], res, S.hs.vis, .nil, e, P.call S.hs⟩⟩
theorem J_callSR (rule : ∀ {t : TA}, PA X (a :: es) t → PE X (.Call (.Name x p) (a :: es) [] pos) (tCallS (PSp X.K X.mg g) E t)) (ha : JAB X E (a :: es) fs) : J X E (.Call (.Name x p) (a :: es) [] pos) (onG (scD g) fs) := ⟨impE (rule ha.run) fun σ H Q q => by
  obtain ⟨H0, F, O, env, res, S, e, P⟩ := q
  refine tAB_bnd S e P fun vs H1 ds e1 S1 h1 e P => ?_
  unfold scD at e
  cases q : g ds with
  | none => rw [q] at e; cases e
  | some r =>
    rw [q] at e
    cases r with
    | ex c fs => cases e
    | ok fl d =>
      have e' : (if isCst d = true then some (Res.ok false d) else none) = some res := e
      split at e'
      · rename_i hc
        cases e'
        refine ⟨H1, ds, _, Ex.refl H1, h1.all S1.hs.vis, q, fun v H' e2 h2 => ?_⟩
        have h3 : Rep X.K (vis H1 H1 noO H') v d := h2.rep fun a o n z => by
          rw [vis_noO, if_pos n]
          exact z
        have h4 := cst_of h3 hc
        subst h4
        exact P _ H' e2 (Val1.of (cst_rep hc))
      · cases e'⟩
end

/-! ### what is walked -/
structure ItOk (K : PySem.W.Frag) (H0 F : Hp) (Pst : Hp → Prop) (W1 : Hp) (Jt : It) (ds : List Dt) : Prop where
  go : ∀ i H, Pst H → i < ds.length → Jt.go i H
  yld : ∀ i H O' x H', i < ds.length → HS H0 F O' H → Pst H → Ex W1 (vis H0 F O' H) → Jt.yld i H x H' → ∃ d, ds[i]? = some d ∧ Ex H H' ∧ Rep K (vis H0 F O' H') x d
  stop : ∀ H, Pst H → Jt.stop ds.length H
theorem ItOk.imp {K : PySem.W.Frag} {H0 F W1 : Hp} {P P' : Hp → Prop} {Jt : It} {ds : List Dt} (h : ItOk K H0 F P W1 Jt ds) (k : ∀ H, P' H → P H) : ItOk K H0 F P' W1 Jt ds :=
  ⟨fun i H p => h.go i H (k H p), fun i H O' x H' hi a p => h.yld i H O' x H' hi a (k H p), fun H p => h.stop H (k H p)⟩
def PostI (K : PySem.W.Frag) (mg : Str → Option Value) (H0 F : Hp) (O : Addr → Prop) (Pst : Hp → Hp → Prop) (H : Hp) (R : It → Hp → Prop) (E : XK) : Res → Prop
  | .ok _ (.lst ds) => ∀ Jt H', Ex H H' → ItOk K H0 F (Pst H') (vis H0 F O H') Jt ds → R Jt H'
  | .ok _ _ => False
  | .ex c fs => ∀ C dx H', mg c = some (.ref C) → Ex H H' → Exc1 K (vis H0 F O H') H H' dx fs → E (.ref C) (some dx) H'
def tI1 (K : PySem.W.Frag) (mg : Str → Option Value) (E : SXK) (f : Ev → Option Res) : TI := fun σ H R => ∃ H0 F O env r, SR K H0 F O σ H env ∧ f env = some r ∧ PostI K mg H0 F O (fun H' => Ex (vis H0 F O H')) H R (E σ) r
def tI2 (K : PySem.W.Frag) (mg : Str → Option Value) (E : SXK) (f : Ev → Option Res) : TI := fun σ H R => ∃ H0 F O env r, SR K H0 F O σ H env ∧ f env = some r ∧ PostI K mg H0 F O Ex H R (E σ) r
/-- for a loop; for a comprehension -/
structure JI (X : Cx) (E : SXK) (tg e : Expr) (f : Ev → Option Res) : Prop where
  run : PI X tg e (tI1 X.K X.mg E f)
structure JIC (X : Cx) (E : SXK) (tg e : Expr) (f : Ev → Option Res) : Prop where
  run : PI X tg e (tI2 X.K X.mg E f)
def signs (z : Str) : List Dt := z.cps.toList.map fun c => .str ⟨#[c]⟩
def itemsD : Dt → Option Res
  | .lst ds => some (.ok false (.lst ds))
  | .tup ds => some (.ok false (.lst ds))
  | .scr ns => some (.ok false (.lst (ns.map Dt.int)))
  | .str z => some (.ok false (.lst (signs z)))
  | _ => none
section
variable {K : PySem.W.Frag} {H0 F W1 : Hp} {P : Hp → Prop} {a b : Addr} {xs ys : List V} {ds es : List Dt}
theorem sql_inj {H : Hp} {K : PySem.W.Frag} (h : H a = some (.lst xs)) (h' : SqL K H a ys) (hk : K.lookup a = none) : xs = ys := by
  rcases h' with (h' | ⟨o, h'⟩) | ⟨o, _, _, q, _⟩
  · rw [h] at h'; cases h'; rfl
  · rw [h] at h'; cases h'
  · rw [hk] at q; cases q
/-- the list at a stands -/
theorem it_list (hl : ∀ H, P H → SqL K H a xs) (r : Reps K W1 xs ds) : ItOk K H0 F P W1 (Itl K a) ds where
  go := fun i H p hi => by
    have hi' : i < xs.length := by rw [r.length]; exact hi
    exact ⟨xs, xs[i], hl H p, by simp [hi']⟩
  yld := fun i H O' x H' hi hs p e y => by
    obtain ⟨rfl, y⟩ := y
    obtain ⟨d, h1, h2⟩ := r.getV (y xs (hl _ p))
    exact ⟨d, h1, Ex.refl _, h2.up e⟩
  stop := fun H p => ⟨xs, hl H p, by rw [r.length]; exact Nat.le_refl _⟩
theorem it_tup (hl : ∀ H, P H → SqT K H a xs) (r : Reps K W1 xs ds) : ItOk K H0 F P W1 (Itt K a) ds where
  go := fun i H p hi => by
    have hi' : i < xs.length := by rw [r.length]; exact hi
    exact ⟨xs, xs[i], hl H p, by simp [hi']⟩
  yld := fun i H O' x H' hi hs p e y => by
    obtain ⟨rfl, y⟩ := y
    obtain ⟨d, h1, h2⟩ := r.getV (y xs (hl _ p))
    exact ⟨d, h1, Ex.refl _, h2.up e⟩
  stop := fun H p => ⟨xs, hl H p, by rw [r.length]; exact Nat.le_refl _⟩
theorem it_str {z : Str} : ItOk K H0 F P W1 (Its z) (signs z) where
  go := fun i H p hi => by
    have hi' : i < (z.cps.toList.map fun c => Dt.str ⟨#[c]⟩).length := hi
    rw [List.length_map, Array.length_toList] at hi'
    exact hi'
  yld := fun i H O' x H' hi hs p e y => by
    obtain ⟨rfl, c, hc, rfl⟩ := y
    refine ⟨.str ⟨#[c]⟩, ?_, Ex.refl _, .str _⟩
    show (z.cps.toList.map fun c => Dt.str ⟨#[c]⟩)[i]? = _
    rw [List.getElem?_map, Array.getElem?_toList, hc]
    rfl
  stop := fun H p => by
    show z.cps.size ≤ (z.cps.toList.map fun c => Dt.str ⟨#[c]⟩).length
    rw [List.length_map, Array.length_toList]
    exact Nat.le_refl _
def rngD (lo : Int) (n : Nat) : List Dt := (List.range n).map fun (k : Nat) => Dt.int (lo + (k : Int))
theorem it_rng {lo : Int} {n : Nat} : ItOk K H0 F P W1 (Itr lo n) (rngD lo n) where
  go := fun i H p hi => by
    have hi' : i < ((List.range n).map fun (k : Nat) => Dt.int (lo + (k : Int))).length := hi
    rw [List.length_map, List.length_range] at hi'
    exact hi'
  yld := fun i H O' x H' hi hs p e y => by
    obtain ⟨rfl, rfl⟩ := y
    have hi' : i < ((List.range n).map fun (k : Nat) => Dt.int (lo + (k : Int))).length := hi
    rw [List.length_map, List.length_range] at hi'
    refine ⟨.int (lo + (i : Int)), ?_, Ex.refl _, .int _⟩
    show ((List.range n).map fun (k : Nat) => Dt.int (lo + (k : Int)))[i]? = _
    rw [List.getElem?_map, List.getElem?_range hi']
    rfl
  stop := fun H p => by
    show n ≤ ((List.range n).map fun (k : Nat) => Dt.int (lo + (k : Int))).length
    rw [List.length_map, List.length_range]
    exact Nat.le_refl _
end
end Dl

namespace Dl
open PySem PySem.Spec PyProof.Rows L2 Evl

def enumFrom (i : Int) : List Dt → List Dt
  | [] => []
  | d :: ds => .tup [.int i, d] :: enumFrom (i + 1) ds
def zipD : List Dt → List Dt → List Dt
  | d :: ds, e :: es => .tup [d, e] :: zipD ds es
  | _, _ => []
theorem enumFrom_len : ∀ (ds : List Dt) (i : Int), (enumFrom i ds).length = ds.length
  | [], _ => rfl
  | d :: ds, i => by show (enumFrom (i + 1) ds).length + 1 = ds.length + 1; rw [enumFrom_len ds (i + 1)]
theorem enumFrom_get : ∀ (ds : List Dt) (i : Int) (j : Nat) (d : Dt), ds[j]? = some d → (enumFrom i ds)[j]? = some (.tup [.int (i + j), d])
  | [], _, _, _, h => by simp at h
  | e :: ds, i, 0, d, h => by
    have : e = d := by simpa using h
    subst this
    show some (Dt.tup [.int i, e]) = some (Dt.tup [.int (i + ((0 : Nat) : Int)), e])
    rw [show i + ((0 : Nat) : Int) = i by omega]
  | e :: ds, i, j + 1, d, h => by
    show (enumFrom (i + 1) ds)[j]? = _
    rw [enumFrom_get ds (i + 1) j d (by simpa using h)]
    rw [show i + 1 + (j : Int) = i + ((j + 1 : Nat) : Int) by omega]
theorem zipD_get : ∀ (ds es : List Dt) (j : Nat) (d e : Dt), ds[j]? = some d → es[j]? = some e → (zipD ds es)[j]? = some (.tup [d, e])
  | [], _, _, _, _, h, _ => by simp at h
  | _ :: _, [], _, _, _, _, h => by simp at h
  | a :: ds, b :: es, 0, d, e, h, h' => by
    have e1 : a = d := by simpa using h
    have e2 : b = e := by simpa using h'
    subst e1; subst e2; rfl
  | a :: ds, b :: es, j + 1, d, e, h, h' => by
    show (zipD ds es)[j]? = _
    exact zipD_get ds es j d e (by simpa using h) (by simpa using h')
theorem zipD_len : ∀ (ds es : List Dt), (zipD ds es).length = min ds.length es.length
  | [], es => by show 0 = min 0 es.length; omega
  | d :: ds, [] => by show 0 = min (ds.length + 1) 0; omega
  | d :: ds, e :: es => by show (zipD ds es).length + 1 = min (ds.length + 1) (es.length + 1); rw [zipD_len ds es]; omega
section
variable {K : PySem.W.Frag} {H0 F W1 : Hp} {P : Hp → Prop} {a b : Addr} {xs ys : List V} {ds es : List Dt}
theorem pair_new {H : Hp} {O' : Addr → Prop} {T : Addr} {x y : V} {d e : Dt} (hs : HS H0 F O' H) (n : H T = none) (hx : Rep K (vis H0 F O' H) x d) (hy : Rep K (vis H0 F O' H) y e) :
    Rep K (vis H0 F O' (upd H T (.tup [x, y]))) (.ref T) (.tup [d, e]) := by
  refine .tup (Or.inl (Or.inl ((vis_new hs n _).trans upd_same))) ?_
  exact .cons (hx.up (vis_mono (Ex.new n))) (.cons (hy.up (vis_mono (Ex.new n))) .nil)
theorem it_enum (hl : ∀ H, P H → SqL K H a xs) (r : Reps K W1 xs ds) : ItOk K H0 F P W1 (Ite K a) (enumFrom 0 ds) where
  go := fun i H p hi => by
    rw [enumFrom_len] at hi
    have hi' : i < xs.length := by rw [r.length]; exact hi
    exact ⟨xs, xs[i], hl H p, by simp [hi']⟩
  yld := fun i H O' x H' hi hs p e y => by
    obtain ⟨T, z, rfl, n, rfl, y⟩ := y
    obtain ⟨d, h1, h2⟩ := r.getV (y xs (hl _ p))
    refine ⟨.tup [.int (0 + (i : Int)), d], enumFrom_get ds 0 i d h1, Ex.new n, ?_⟩
    rw [show (0 : Int) + (i : Int) = (i : Int) by omega]
    exact pair_new hs n (.int _) (h2.up e)
  stop := fun H p => ⟨xs, hl H p, by rw [r.length, enumFrom_len]; exact Nat.le_refl _⟩
theorem it_zip (hl : ∀ H, P H → SqL K H a xs) (hl' : ∀ H, P H → SqL K H b ys) (r : Reps K W1 xs ds) (r' : Reps K W1 ys es) : ItOk K H0 F P W1 (Itz K a b) (zipD ds es) where
  go := fun i H p hi => by
    rw [zipD_len] at hi
    have h1 : i < xs.length := by rw [r.length]; omega
    have h2 : i < ys.length := by rw [r'.length]; omega
    exact ⟨xs, ys, xs[i], ys[i], hl H p, hl' H p, by simp [h1], by simp [h2]⟩
  yld := fun i H O' x H' hi hs p e y => by
    obtain ⟨T, z, w, rfl, n, rfl, y1, y2⟩ := y
    obtain ⟨d, h1, h2⟩ := r.getV (y1 xs (hl _ p))
    obtain ⟨d', h3, h4⟩ := r'.getV (y2 ys (hl' _ p))
    exact ⟨_, zipD_get ds es i d d' h1 h3, Ex.new n, pair_new hs n (h2.up e) (h4.up e)⟩
  stop := fun H p => ⟨xs, ys, hl H p, hl' H p, by rw [r.length, r'.length, zipD_len]; omega⟩
end

/-! ### loops' sources -/
def itG (f : Ev → Option Res) : Ev → Option Res := fun env => bnd (f env) fun _ d => itemsD d
def rng1D : List Dt → Option Res
  | [.int j] => if -(2 ^ 62) ≤ j ∧ j < 2 ^ 62 then some (.ok false (.lst (rngD 0 j.toNat))) else none
  | _ => none
def rng2D : List Dt → Option Res
  | [.int i, .int j] => if -(2 ^ 62) ≤ i ∧ i < 2 ^ 62 ∧ -(2 ^ 62) ≤ j ∧ j < 2 ^ 62 then some (.ok false (.lst (rngD i (j - i).toNat))) else none
  | _ => none
def enumD : List Dt → Option Res
  | [.lst ds] => some (.ok false (.lst (enumFrom 0 ds)))
  | _ => none
def zip2D : List Dt → Option Res
  | [.lst ds, .lst es] => some (.ok false (.lst (zipD ds es)))
  | _ => none
theorem PostI.up {K : PySem.W.Frag} {mg : Str → Option Value} {H0 F H H1 : Hp} {O : Addr → Prop} {Pst : Hp → Hp → Prop} {R : It → Hp → Prop} {E : XK} {r : Res} (P : PostI K mg H0 F O Pst H R E r) (e1 : Ex H H1) : PostI K mg H0 F O Pst H1 R E r := by
  cases r with
  | ex c fs => exact fun C dx H' hc e' h => P C dx H' hc (e1.trans e') (let ⟨vs, a, b, c⟩ := h; ⟨vs, fresh_back e1 a, b, c⟩)
  | ok fl d =>
    cases d with
    | lst ds => exact fun J H' e' => P J H' (e1.trans e')
    | _ => exact P
section
variable {X : Cx} {E : SXK} {tg a b c : Expr} {es : List Expr} {fa fb fc fs : Ev → Option Res} {pos p2 p : Pos} {x : Str}
theorem impI {X : Cx} {tg e : Expr} {t t' : TI} (h : PI X tg e t) (k : ∀ σ H R, t' σ H R → t σ H R) : PI X tg e t' := ⟨fun pins s σ H Q I q => h.run pins s σ H Q I (k _ _ _ q)⟩
theorem JI.cc (h : JI X E tg a fa) : JIC X E tg a fa := ⟨impI h.run fun σ H R q => by
  obtain ⟨H0, F, O, env, r, S, e, P⟩ := q
  refine ⟨H0, F, O, env, r, S, e, ?_⟩
  cases r with
  | ex c fs => exact P
  | ok fl d =>
    cases d with
    | lst ds => exact fun Jt H' e' h => P Jt H' e' (h.imp fun H2 e2 => (S.hs.mono e').vis.trans e2)
    | _ => exact P⟩
theorem JI_on (ha : J X E a fa) : JI X E tg a (itG fa) := ⟨⟨fun pins s σ H R I q => by
  obtain ⟨H0, F, O, env, res, S, e, P⟩ := q
  have e' : bnd (fa env) (fun _ d => itemsD d) = some res := e
  cases q1 : fa env with
  | none => rw [q1] at e'; cases e'
  | some r =>
    rw [q1] at e'
    cases r with
    | ex c f =>
      cases e'
      exact (pi_list ha.run).run pins s σ H R I ⟨H0, F, O, env, _, S, q1, P⟩
    | ok fl d =>
      have go : ∀ {Q1 : VK}, (∀ v H1, Ex H H1 → SR X.K H0 F O σ H1 env → Rep X.K (vis H0 F O H1) v d → Q1 v H1) → tF X.K X.mg E fa σ H Q1 := fun {Q1} k =>
        ⟨H0, F, O, env, _, S, q1, fun v H1 e1 h1 => k v H1 e1 (S.mono e1) (h1.rep S.hs.seen)⟩
      cases d with
      | lst ds =>
        cases e'
        refine (pi_list ha.run).run pins s σ H R I (go fun v H1 e1 S1 h => ?_)
        cases h with
        | lst h1 h2 => exact ⟨_, rfl, ⟨_, ex_l S1.hs.vis (Or.inl (Or.inl h1))⟩, P _ _ e1 (it_list (fun H2 e2 => ex_l e2 (Or.inl (Or.inl h1))) h2)⟩
      | tup ds =>
        cases e'
        refine (pi_tup ha.run).run pins s σ H R I (go fun v H1 e1 S1 h => ?_)
        cases h with
        | tup h1 h2 => exact ⟨_, rfl, ⟨_, ex_t S1.hs.vis h1⟩, P _ _ e1 (it_tup (fun H2 e2 => ex_t e2 h1) h2)⟩
      | scr ns =>
        cases e'
        refine (pi_list ha.run).run pins s σ H R I (go fun v H1 e1 S1 h => ?_)
        cases h with
        | scr h1 => exact ⟨_, rfl, ⟨_, ex_l S1.hs.vis h1⟩, P _ _ e1 (it_list (fun H2 e2 => ex_l e2 h1) (Reps.ints ns))⟩
      | str z =>
        cases e'
        refine (pi_str ha.run).run pins s σ H R I (go fun v H1 e1 S1 h => ?_)
        cases h
        exact ⟨z, rfl, P _ _ e1 it_str⟩
      | _ => cases e'⟩⟩
theorem JIC_on (ha : JB X E a fa) : JIC X E tg a (itG fa) := ⟨⟨fun pins s σ H R I q => by
  obtain ⟨H0, F, O, env, res, S, e, P⟩ := q
  have e' : bnd (fa env) (fun _ d => itemsD d) = some res := e
  cases q1 : fa env with
  | none => rw [q1] at e'; cases e'
  | some r =>
    rw [q1] at e'
    cases r with
    | ex c f =>
      cases e'
      exact (pi_list ha.run).run pins s σ H R I ⟨H0, F, O, env, _, S, q1, P⟩
    | ok fl d =>
      have go : ∀ {Q1 : VK}, (∀ v H1, Ex H H1 → SR X.K H0 F O σ H1 env → RepB X.K (vis H0 F O H1) H1 v d → Q1 v H1) → tB1 X.K X.mg E fa σ H Q1 := fun {Q1} k =>
        ⟨H0, F, O, env, _, S, q1, fun v H1 e1 h1 => k v H1 e1 (S.mono e1) h1⟩
      cases d with
      | lst ds =>
        cases e'
        refine (pi_list ha.run).run pins s σ H R I (go fun v H1 e1 S1 h => ?_)
        obtain ⟨a, xs, rfl, h1, h2⟩ := h
        exact ⟨_, rfl, ⟨_, Or.inl (Or.inl h1)⟩, P _ _ e1 (it_list (fun H2 e2 => ex_l e2 (Or.inl (Or.inl h1))) h2)⟩
      | tup ds =>
        cases e'
        refine (pi_tup ha.run).run pins s σ H R I (go fun v H1 e1 S1 h => ?_)
        have h' : Rep X.K (vis H0 F O H1) v (.tup ds) := h
        cases h' with
        | tup h1 h2 =>
          have h3 := ex_t S1.hs.vis h1
          exact ⟨_, rfl, ⟨_, h3⟩, P _ _ e1 (it_tup (fun H2 e2 => ex_t e2 h3) h2)⟩
      | scr ns =>
        cases e'
        refine (pi_list ha.run).run pins s σ H R I (go fun v H1 e1 S1 h => ?_)
        have h' : Rep X.K (vis H0 F O H1) v (.scr ns) := h
        cases h' with
        | scr h1 =>
          have h3 := ex_l S1.hs.vis h1
          exact ⟨_, rfl, ⟨_, h3⟩, P _ _ e1 (it_list (fun H2 e2 => ex_l e2 h3) (Reps.ints ns))⟩
      | str z =>
        cases e'
        refine (pi_str ha.run).run pins s σ H R I (go fun v H1 e1 S1 h => ?_)
        cases h
        exact ⟨z, rfl, P _ _ e1 it_str⟩
      | _ => cases e'⟩⟩
/-- from operands that are walked -/
theorem tAI_bnd {K : PySem.W.Frag} {mg : Str → Option Value} {H0 F H : Hp} {O : Addr → Prop} {σ : L2.St} {env : Ev} {f : Ev → Option Res} {Pst : Hp → Hp → Prop} {R : It → Hp → Prop} {Q1 : List V → Hp → Prop} {res : Res} {g : List Dt → Option Res}
    (S : SR K H0 F O σ H env) (e : onG g f env = some res) (P : PostI K mg H0 F O Pst H R (E σ) res)
    (go : ∀ vs H1 ds, Ex H H1 → SR K H0 F O σ H1 env → Reps K (vis H0 F O H1) vs ds → g ds = some res → PostI K mg H0 F O Pst H1 R (E σ) res → Q1 vs H1) : tA1 K mg E f σ H Q1 := by
  have e' : bnd (f env) (fun _ d => match d with | .lst ds => g ds | _ => none) = some res := e
  cases q : f env with
  | none => rw [q] at e'; cases e'
  | some r =>
    rw [q] at e'
    cases r with
    | ex c fs => cases e'; exact ⟨H0, F, O, env, _, S, q, P⟩
    | ok fl d =>
      cases d with
      | lst ds => exact ⟨H0, F, O, env, _, S, q, fun vs H1 e1 h1 => go vs H1 ds e1 (S.mono e1) h1 e' (P.up e1)⟩
      | _ => cases e'
theorem tABI_bnd {K : PySem.W.Frag} {mg : Str → Option Value} {H0 F H : Hp} {O : Addr → Prop} {σ : L2.St} {env : Ev} {f : Ev → Option Res} {Pst : Hp → Hp → Prop} {R : It → Hp → Prop} {Q1 : List V → Hp → Prop} {res : Res} {g : List Dt → Option Res}
    (S : SR K H0 F O σ H env) (e : onG g f env = some res) (P : PostI K mg H0 F O Pst H R (E σ) res)
    (go : ∀ vs H1 ds, Ex H H1 → SR K H0 F O σ H1 env → RepBs K (vis H0 F O H1) H1 vs ds → g ds = some res → PostI K mg H0 F O Pst H1 R (E σ) res → Q1 vs H1) : tA2 K mg E f σ H Q1 := by
  have e' : bnd (f env) (fun _ d => match d with | .lst ds => g ds | _ => none) = some res := e
  cases q : f env with
  | none => rw [q] at e'; cases e'
  | some r =>
    rw [q] at e'
    cases r with
    | ex c fs => cases e'; exact ⟨H0, F, O, env, _, S, q, P⟩
    | ok fl d =>
      cases d with
      | lst ds => exact ⟨H0, F, O, env, _, S, q, fun vs H1 e1 h1 => go vs H1 ds e1 (S.mono e1) h1 e' (P.up e1)⟩
      | _ => cases e'
theorem JI_rng1 (hg : Gl X "range") (hm : X.mg "range" = none) (ha : JAB X E [a] fs) (hs : starEach [a] X.env = [(false, eval a X.env)]) : JI X E tg (.Call (.Name "range" p) [a] [] pos) (onG rng1D fs) := ⟨impI (pi_range1 hg hm ha.run hs) fun σ H R q => by
  obtain ⟨H0, F, O, env, res, S, e, P⟩ := q
  refine tABI_bnd S e P fun vs H1 ds e1 S1 h1 e P => ?_
  unfold rng1D at e
  split at e
  · cases h1 with
    | cons h t =>
      cases t; cases h
      split at e
      · rename_i hl
        cases e
        exact ⟨_, rfl, hl.1, hl.2, P _ _ (Ex.refl _) it_rng⟩
      · cases e
  · cases e⟩
theorem JI_rng2 (hg : Gl X "range") (hm : X.mg "range" = none) (ha : JAB X E [a, b] fs) (hs : starEach [a, b] X.env = [(false, eval a X.env), (false, eval b X.env)]) (hs2 : starEach [b] X.env = [(false, eval b X.env)]) : JI X E tg (.Call (.Name "range" p) [a, b] [] pos) (onG rng2D fs) := ⟨impI (pi_range2 hg hm ha.run hs hs2) fun σ H R q => by
  obtain ⟨H0, F, O, env, res, S, e, P⟩ := q
  refine tABI_bnd S e P fun vs H1 ds e1 S1 h1 e P => ?_
  unfold rng2D at e
  split at e
  · cases h1 with
    | cons h t =>
      cases t with
      | cons h' t =>
        cases t; cases h; cases h'
        split at e
        · rename_i hl
          cases e
          exact ⟨_, _, rfl, hl, P _ _ (Ex.refl _) it_rng⟩
        · cases e
  · cases e⟩
theorem JI_enum {elts : List Expr} {kk : Nat} {tpos : Pos} (hg : Gl X "enumerate") (hm : X.mg "enumerate" = none) (ha : JA X E [a] fs) (hs : starEach [a] X.env = [(false, eval a X.env)]) : JI X E (.Tuple elts kk tpos) (.Call (.Name "enumerate" p) [a] [] pos) (onG enumD fs) := ⟨impI (pi_enum hg hm ha.run hs) fun σ H R q => by
  obtain ⟨H0, F, O, env, res, S, e, P⟩ := q
  refine tAI_bnd S e P fun vs H1 ds e1 S1 h1 e P => ?_
  unfold enumD at e
  split at e
  · cases h1 with
    | cons h t =>
      cases t
      cases e
      cases h with
      | lst h1 h2 => exact ⟨_, _, rfl, ex_l S1.hs.vis (Or.inl (Or.inl h1)), P _ _ (Ex.refl _) (it_enum (fun H2 e2 => ex_l e2 (Or.inl (Or.inl h1))) h2)⟩
  · cases e⟩
theorem JIC_enum {elts : List Expr} {kk : Nat} {tpos : Pos} (hg : Gl X "enumerate") (hm : X.mg "enumerate" = none) (ha : JAB X E [a] fs) (hs : starEach [a] X.env = [(false, eval a X.env)]) : JIC X E (.Tuple elts kk tpos) (.Call (.Name "enumerate" p) [a] [] pos) (onG enumD fs) := ⟨impI (pi_enum hg hm ha.run hs) fun σ H R q => by
  obtain ⟨H0, F, O, env, res, S, e, P⟩ := q
  refine tABI_bnd S e P fun vs H1 ds e1 S1 h1 e P => ?_
  unfold enumD at e
  split at e
  · cases h1 with
    | cons h t =>
      cases t
      cases e
      obtain ⟨a, xs, rfl, h1, h2⟩ := h
      exact ⟨_, _, rfl, Or.inl (Or.inl h1), P _ _ (Ex.refl _) (it_enum (fun H2 e2 => ex_l e2 (Or.inl (Or.inl h1))) h2)⟩
  · cases e⟩
theorem JI_zip {elts : List Expr} {kk : Nat} {tpos : Pos} (hg : Gl X "zip") (hm : X.mg "zip" = none) (ha : JA X E [a, b] fs) (hs : starEach [a, b] X.env = (false, eval a X.env) :: starEach [b] X.env) (hpl : (backTo pos (starEach [b] X.env)).any (·.1) = false) : JI X E (.Tuple elts kk tpos) (.Call (.Name "zip" p) [a, b] [] pos) (onG zip2D fs) := ⟨impI (pi_zip hg hm ha.run hs hpl) fun σ H R q => by
  obtain ⟨H0, F, O, env, res, S, e, P⟩ := q
  refine tAI_bnd S e P fun vs H1 ds e1 S1 h1 e P => ?_
  unfold zip2D at e
  split at e
  · cases h1 with
    | cons h t =>
      cases t with
      | cons h' t =>
        cases t
        cases e
        cases h with
        | lst h1 h2 =>
          cases h' with
          | lst h3 h4 => exact ⟨_, _, _, _, rfl, ex_l S1.hs.vis (Or.inl (Or.inl h1)), ex_l S1.hs.vis (Or.inl (Or.inl h3)), P _ _ (Ex.refl _) (it_zip (fun H2 e2 => ex_l e2 (Or.inl (Or.inl h1))) (fun H2 e2 => ex_l e2 (Or.inl (Or.inl h3))) h2 h4)⟩
  · cases e⟩
theorem JIC_zip {elts : List Expr} {kk : Nat} {tpos : Pos} (hg : Gl X "zip") (hm : X.mg "zip" = none) (ha : JAB X E [a, b] fs) (hs : starEach [a, b] X.env = (false, eval a X.env) :: starEach [b] X.env) (hpl : (backTo pos (starEach [b] X.env)).any (·.1) = false) : JIC X E (.Tuple elts kk tpos) (.Call (.Name "zip" p) [a, b] [] pos) (onG zip2D fs) := ⟨impI (pi_zip hg hm ha.run hs hpl) fun σ H R q => by
  obtain ⟨H0, F, O, env, res, S, e, P⟩ := q
  refine tABI_bnd S e P fun vs H1 ds e1 S1 h1 e P => ?_
  unfold zip2D at e
  split at e
  · cases h1 with
    | cons h t =>
      cases t with
      | cons h' t =>
        cases t
        cases e
        obtain ⟨a, xs, rfl, h1, h2⟩ := h
        obtain ⟨b, ys, rfl, h3, h4⟩ := h'
        exact ⟨_, _, _, _, rfl, Or.inl (Or.inl h1), Or.inl (Or.inl h3), P _ _ (Ex.refl _) (it_zip (fun H2 e2 => ex_l e2 (Or.inl (Or.inl h1))) (fun H2 e2 => ex_l e2 (Or.inl (Or.inl h3))) h2 h4)⟩
  · cases e⟩
end

/-! ### targets -/
inductive Tgt where
  | nm (j : Nat)
  | tp (js : List Nat)
def setAll : List Nat → List Dt → Ev → Option Ev
  | [], [], env => some env
  | j :: js, d :: ds, env => setAll js ds (env.set j (some (.sh d)))
  | _, _, _ => none
def bindE : Tgt → Dt → Ev → Option Ev
  | .nm j, d, env => some (env.set j (some (.sh d)))
  | .tp js, .tup ds, env => setAll js ds env
  | _, _, _ => none
def gAll : List Nat → TGs
  | [] => gNil
  | j :: js => gCons (gName j) (gAll js)
def gOf (K : PySem.W.Frag) : Tgt → TG
  | .nm j => gName j
  | .tp js => gTup K js.length (gAll js)
theorem SR.put {K : PySem.W.Frag} {H0 F H : Hp} {O : Addr → Prop} {σ : L2.St} {env : Ev} {j : Nat} {v : V} {d : Dt} (S : SR K H0 F O σ H env) (r : Rep K (vis H0 F O H) v d) : SR K H0 F O (σ.set j (some v)) H (env.set j (some (.sh d))) := by
  have other : ∀ i ds, (env.set j (some (.sh d)))[i]? = some (some (.ow ds)) → j ≠ i ∧ env[i]? = some (some (.ow ds)) := fun i ds q => by
    by_cases hj : j = i
    · subst hj
      rw [List.getElem?_set, if_pos rfl] at q
      split at q
      · cases q
      · cases q
    · rw [List.getElem?_set_ne hj] at q
      exact ⟨hj, q⟩
  refine ⟨S.hs, fun i s q => ?_, by simpa using S.len, fun i k ds es a h1 h2 h3 h4 => ?_⟩
  · by_cases hj : j = i
    · subst hj
      rw [List.getElem?_set] at q
      rw [if_pos rfl] at q
      split at q
      · rename_i hlt
        cases q
        exact ⟨v, by rw [List.getElem?_set, if_pos rfl, if_pos (by rw [← S.len]; exact hlt)], r⟩
      · cases q
    · rw [List.getElem?_set_ne hj] at q
      have h := S.sl i s q
      cases s with
      | sh d' =>
        obtain ⟨u, h1, h2⟩ := h
        exact ⟨u, by rw [List.getElem?_set_ne hj]; exact h1, h2⟩
      | ow ds =>
        obtain ⟨a, xs, h1, h2, h3, h4⟩ := h
        exact ⟨a, xs, h1, by rw [List.getElem?_set_ne hj]; exact h2, h3, h4⟩
      | xc a dx c fs => exact ⟨by rw [List.getElem?_set_ne hj]; exact h.1, h.2⟩
  · obtain ⟨n1, q1⟩ := other i ds h1
    obtain ⟨n2, q2⟩ := other k es h2
    rw [List.getElem?_set_ne n1] at h3
    rw [List.getElem?_set_ne n2] at h4
    exact S.dis i k ds es a q1 q2 h3 h4
/-- the slots that a target sets -/
def Tgt.js : Tgt → List Nat
  | .nm j => [j]
  | .tp js => js
theorem gAll_of {K : PySem.W.Frag} {H0 F H : Hp} {O : Addr → Prop} {Q : L2.St → Hp → Prop} : ∀ {js : List Nat} {vs : List V} {ds : List Dt} {σ : L2.St} {env env' : Ev}, SR K H0 F O σ H env → Reps K (vis H0 F O H) vs ds → setAll js ds env = some env' →
    (∀ σ', SR K H0 F O σ' H env' → (∀ i, i ∉ js → σ'[i]? = σ[i]?) → Q σ' H) → gAll js vs σ H Q
  | [], vs, ds, σ, env, env', S, r, e, k => by
    cases ds with
    | nil => cases r; cases e; exact ⟨rfl, k σ S fun _ _ => rfl⟩
    | cons _ _ => cases e
  | j :: js, vs, ds, σ, env, env', S, r, e, k => by
    cases ds with
    | nil => cases e
    | cons d ds =>
      cases r with
      | cons a b => exact ⟨_, _, rfl, gAll_of (S.put a) b e fun σ' S' h => k σ' S' fun i hi => by
          rw [h i fun z => hi (List.mem_cons_of_mem _ z), List.getElem?_set_ne (fun z => hi (by rw [z]; exact List.mem_cons_self))]⟩
theorem gOf_of {K : PySem.W.Frag} {H0 F H : Hp} {O : Addr → Prop} {Q : L2.St → Hp → Prop} {t : Tgt} {v : V} {d : Dt} {σ : L2.St} {env env' : Ev} (S : SR K H0 F O σ H env) (r : Rep K (vis H0 F O H) v d) (e : bindE t d env = some env')
    (k : ∀ σ', SR K H0 F O σ' H env' → (∀ i, i ∉ t.js → σ'[i]? = σ[i]?) → Q σ' H) : gOf K t v σ H Q := by
  cases t with
  | nm j =>
    cases e
    exact k _ (S.put r) fun i hi => List.getElem?_set_ne fun z => hi (by rw [z]; exact List.mem_singleton.mpr rfl)
  | tp js =>
    cases d with
    | tup ds =>
      cases r with
      | tup a b =>
        have hl : ds.length = js.length := by
          clear k S b a
          have e' : setAll js ds env = some env' := e
          clear e
          induction js generalizing ds env with
          | nil => cases ds with | nil => rfl | cons _ _ => cases e'
          | cons j js ih => cases ds with | nil => cases e' | cons d ds => show ds.length + 1 = js.length + 1; rw [ih (ds := ds) (env := env.set j (some (.sh d))) e']
        exact ⟨_, _, rfl, ex_t S.hs.vis a, b.length.trans hl, gAll_of S b e k⟩
    | _ => cases e
end Dl

namespace Dl
open PySem PySem.Spec PyProof.Rows L2 Evl

/-! ### comprehensions -/
def wipeE (env : Ev) : List Nat → Ev
  | [] => env
  | v :: vs => (wipeE env vs).set v none
theorem wipe_get (σ : L2.St) : ∀ (vs : List Nat) (i : Nat), (wipe σ vs)[i]? = if i ∈ vs then σ[i]?.map (fun _ => none) else σ[i]?
  | [], i => by simp [wipe]
  | v :: vs, i => by
    unfold wipe
    rw [List.getElem?_set, wipe_length]
    by_cases h : v = i
    · subst h
      rw [if_pos rfl, if_pos List.mem_cons_self]
      by_cases hl : v < σ.length
      · rw [if_pos hl, List.getElem?_eq_getElem hl]; rfl
      · rw [if_neg hl, List.getElem?_eq_none (by omega)]; rfl
    · rw [if_neg h, wipe_get σ vs i]
      have : (i ∈ v :: vs) ↔ i ∈ vs := by
        rw [List.mem_cons]
        exact ⟨fun z => z.elim (fun z => absurd z.symm h) id, .inr⟩
      by_cases hi : i ∈ vs
      · rw [if_pos hi, if_pos (this.mpr hi)]
      · rw [if_neg hi, if_neg (fun z => hi (this.mp z))]
theorem wipeE_get (env : Ev) : ∀ (vs : List Nat) (i : Nat), (wipeE env vs)[i]? = if i ∈ vs then env[i]?.map (fun _ => none) else env[i]?
  | [], i => by simp [wipeE]
  | v :: vs, i => by
    have len : ∀ vs : List Nat, (wipeE env vs).length = env.length := fun vs => by
      induction vs with
      | nil => rfl
      | cons v vs ih => unfold wipeE; rw [List.length_set, ih]
    unfold wipeE
    rw [List.getElem?_set, len]
    by_cases h : v = i
    · subst h
      rw [if_pos rfl, if_pos List.mem_cons_self]
      by_cases hl : v < env.length
      · rw [if_pos hl, List.getElem?_eq_getElem hl]; rfl
      · rw [if_neg hl, List.getElem?_eq_none (by omega)]; rfl
    · rw [if_neg h, wipeE_get env vs i]
      have : (i ∈ v :: vs) ↔ i ∈ vs := by
        rw [List.mem_cons]
        exact ⟨fun z => z.elim (fun z => absurd z.symm h) id, .inr⟩
      by_cases hi : i ∈ vs
      · rw [if_pos hi, if_pos (this.mpr hi)]
      · rw [if_neg hi, if_neg (fun z => hi (this.mp z))]
theorem wipeE_len (env : Ev) : ∀ vs : List Nat, (wipeE env vs).length = env.length
  | [] => rfl
  | v :: vs => by unfold wipeE; rw [List.length_set, wipeE_len env vs]
theorem wipe_same {σ σ' : L2.St} {vs : List Nat} (h : ∀ i, i ∉ vs → σ'[i]? = (wipe σ vs)[i]?) (hl : σ'.length = (wipe σ vs).length) : wipe σ' vs = wipe σ vs := by
  refine List.ext_getElem? fun i => ?_
  rw [wipe_get, wipe_get]
  by_cases hi : i ∈ vs
  · rw [if_pos hi, if_pos hi]
    rw [wipe_length] at hl
    by_cases hlt : i < σ.length
    · rw [List.getElem?_eq_getElem hlt, List.getElem?_eq_getElem (show i < σ'.length by omega)]; rfl
    · rw [List.getElem?_eq_none (show σ.length ≤ i by omega), List.getElem?_eq_none (show σ'.length ≤ i by omega)]
  · rw [if_neg hi, if_neg hi, h i hi, wipe_get, if_neg hi]
theorem SR.wipe {K : PySem.W.Frag} {H0 F H : Hp} {O : Addr → Prop} {σ : L2.St} {env : Ev} (S : SR K H0 F O σ H env) (vs : List Nat) : SR K H0 F O (L2.wipe σ vs) H (wipeE env vs) := by
  have at_ : ∀ i s, (wipeE env vs)[i]? = some (some s) → i ∉ vs ∧ env[i]? = some (some s) := fun i s q => by
    rw [wipeE_get] at q
    by_cases hi : i ∈ vs
    · rw [if_pos hi] at q
      cases z : env[i]? with
      | none => rw [z] at q; cases q
      | some _ => rw [z] at q; cases q
    · rw [if_neg hi] at q
      exact ⟨hi, q⟩
  refine ⟨S.hs, fun i s q => ?_, by rw [wipeE_len, wipe_length]; exact S.len, fun i j ds es a h1 h2 h3 h4 => ?_⟩
  · obtain ⟨hi, q⟩ := at_ i s q
    have h := S.sl i s q
    have w : (L2.wipe σ vs)[i]? = σ[i]? := by rw [wipe_get, if_neg hi]
    cases s with
    | sh d => obtain ⟨v, h1, h2⟩ := h; exact ⟨v, by rw [w]; exact h1, h2⟩
    | ow ds => obtain ⟨a, xs, h1, h2, h3⟩ := h; exact ⟨a, xs, h1, by rw [w]; exact h2, h3⟩
    | xc a dx c fs => exact ⟨by rw [w]; exact h.1, h.2⟩
  · obtain ⟨n1, q1⟩ := at_ i _ h1
    obtain ⟨n2, q2⟩ := at_ j _ h2
    rw [wipe_get, if_neg n1] at h3
    rw [wipe_get, if_neg n2] at h4
    exact S.dis i j ds es a q1 q2 h3 h4
/-- the comprehension's items -/
def lcL (envw : Ev) (t : Tgt) (ft fe : Ev → Option Res) : List Dt → Option (List Dt)
  | [] => some []
  | d :: ds => (bindE t d envw).bind fun env1 => match ft env1 with
    | some (.ok _ (.bl true)) => match fe env1 with
      | some (.ok _ x) => (lcL envw t ft fe ds).map (x :: ·)
      | _ => none
    | some (.ok _ (.bl false)) => lcL envw t ft fe ds
    | _ => none
def lcG (vs : List Nat) (fi : Ev → Option Res) (t : Tgt) (ft fe : Ev → Option Res) : Ev → Option Res := fun env => bnd (fi env) fun _ d => match d with
  | .lst ds => (lcL (wipeE env vs) t ft fe ds).bind fun r => if r.length ≤ 16777216 then okL r else none
  | _ => none
def plusO (O : Addr → Prop) (D : Addr) : Addr → Prop := fun a => O a ∨ a = D
section
variable {K : PySem.W.Frag} {H0 F H H1 H' : Hp} {O : Addr → Prop} {D : Addr} {xs : List V} {σ : L2.St} {env : Ev}
theorem HS.plus (h : HS H0 F O H1) (n : H1 D = none) (e : Ex H1 H') (d : H' D = some (.lst xs)) : HS H0 F (plusO O D) H' := by
  refine ⟨h.ext.trans e, h.sub, fun a q => ?_⟩
  rcases q with q | rfl
  · obtain ⟨z, ys, y⟩ := h.own a q
    exact ⟨z, ys, e _ _ y⟩
  · exact ⟨h.notE n, xs, d⟩
theorem vis_plus (h : HS H0 F O H1) (n : H1 D = none) (e : Ex H1 H') : Ex (vis H0 F O H1) (vis H0 F (plusO O D) H') := fun a o q => by
  have ha : H1 a = some o := vis_some h q
  have hD : a ≠ D := ne_of_none ha n
  have q' := vis_mono e _ _ q
  unfold vis at q' ⊢
  split
  · rename_i z
    rcases z with z | z
    · rw [if_pos z] at q'; cases q'
    · exact absurd z hD
  · rename_i z
    rw [if_neg (fun y => z (.inl y))] at q'
    exact q'
theorem vis_less : Ex (vis H0 F (plusO O D) H') (vis H0 F O H') := fun a o q => by
  unfold vis at q ⊢
  split at q
  · cases q
  · rename_i z
    rw [if_neg (fun y => z (.inl y))]
    exact q
theorem vis_hid : Ex (vis H0 F (plusO O D) H') (hid D (vis H0 F O H')) := fun a o q => by
  unfold hid
  rw [if_neg (fun z => by
    unfold vis at q
    rw [if_pos (show plusO O D a from .inr z)] at q
    cases q)]
  exact vis_less _ _ q
theorem vis_upd {o : HO} (hO : O D) : vis H0 F O (upd H D o) = vis H0 F O H := by
  funext a
  unfold vis
  split
  · rfl
  · rename_i z
    rw [upd_ne (fun y => z (by rw [y]; exact hO))]
theorem SR.plus (S : SR K H0 F O σ H1 env) (n : H1 D = none) (e : Ex H1 H') (d : H' D = some (.lst xs)) : SR K H0 F (plusO O D) σ H' env := by
  refine ⟨S.hs.plus n e d, fun i s q => ?_, S.len, S.dis⟩
  have h := S.sl i s q
  cases s with
  | sh d => obtain ⟨v, h1, h2⟩ := h; exact ⟨v, h1, h2.up (vis_plus S.hs n e)⟩
  | ow ds => obtain ⟨a, ys, h1, h2, h3, h4⟩ := h; exact ⟨a, ys, .inl h1, h2, e _ _ h3, h4.up (vis_plus S.hs n e)⟩
  | xc a dx c fs => obtain ⟨h1, vs, h2, h3⟩ := h; exact ⟨h1, vs, vis_plus S.hs n e _ _ h2, h3.up (vis_plus S.hs n e)⟩
end
theorem setAll_len : ∀ {js : List Nat} {ds : List Dt} {env env' : Ev}, setAll js ds env = some env' → env'.length = env.length
  | [], [], env, env', e => by cases e; rfl
  | [], _ :: _, _, _, e => by cases e
  | _ :: _, [], _, _, e => by cases e
  | j :: js, d :: ds, env, env', e => by rw [setAll_len (js := js) (ds := ds) (env := env.set j (some (.sh d))) e, List.length_set]
theorem bindE_len {t : Tgt} {d : Dt} {env env' : Ev} (e : bindE t d env = some env') : env'.length = env.length := by
  cases t with
  | nm j => cases e; rw [List.length_set]
  | tp js =>
    cases d with
    | tup ds => exact setAll_len e
    | _ => cases e
def E0x : SXK := fun _ _ _ _ => False
section
variable {X : Cx} {E : SXK} {fi ft fe : Ev → Option Res} {t : Tgt} {vs : List Nat}
theorem lc_run {H0 F H1 : Hp} {O : Addr → Prop} {σ : L2.St} {env : Ev} {ds tot : List Dt} {Jt : It} {D : Addr} {Q : VK} (S : SR X.K H0 F O σ H1 env) (hi : ItOk X.K H0 F (Ex H1) (vis H0 F O H1) Jt ds) (n : H1 D = none)
    (e : lcL (wipeE env vs) t ft fe ds = some tot) (hz : tot.length ≤ 16777216) (hjs : ∀ j ∈ t.js, j ∈ vs)
    (q : ∀ H' xs, Ex H1 H' → H' D = some (.lst xs) → Reps X.K (vis H0 F (plusO O D) H') xs tot → Q (.ref D) H') :
    ∃ W : Nat → Nat → Hp → Prop, (∃ m, W 0 m (upd H1 D (.lst []))) ∧ ∀ i m H, W i m H → (Jt.stop i H ∧ Q (.ref D) H) ∨ (Jt.go i H ∧ ∃ Nx : Hp → Prop, (∀ H', Nx H' → ∃ m', m' < m ∧ W (i + 1) m' H') ∧
      ∀ x H', Jt.yld i H x H' → gOf X.K t x (wipe σ vs) H' fun σ2 H2 => wipe σ2 vs = wipe σ vs ∧ tT1 X.K X.mg E0x ft σ2 H2 fun b H3 =>
        if b = true then tF X.K X.mg E0x fe σ2 H3 fun y H4 => ∃ acc, H4 D = some (.lst acc) ∧ acc.length < sizeLine ∧ Nx (upd H4 D (.lst (acc ++ [y]))) else Nx H3) := by
  let Inv : Nat → Hp → Prop := fun i H => ∃ acc accd rest, Ex H1 H ∧ H D = some (.lst acc) ∧ Reps X.K (vis H0 F (plusO O D) H) acc accd ∧ lcL (wipeE env vs) t ft fe (ds.drop i) = some rest ∧ accd ++ rest = tot
  refine ⟨fun i m H => m = ds.length - i ∧ i ≤ ds.length ∧ Inv i H, ⟨ds.length, by omega, Nat.zero_le _, [], [], tot, Ex.new n, upd_same, .nil, e, rfl⟩, ?_⟩
  rintro i m H ⟨rfl, hle, acc, accd, rest, e1, hD, ra, er, et⟩
  by_cases hlt : i < ds.length
  · refine .inr ⟨hi.go i H e1 hlt, Inv (i + 1), fun H' z => ⟨ds.length - (i + 1), by omega, rfl, hlt, z⟩, fun x H' y => ?_⟩
    have S1 := S.plus n e1 hD
    obtain ⟨d, hd, e2, rd⟩ := hi.yld i H (plusO O D) x H' hlt S1.hs e1 (vis_plus S.hs n e1) y
    have ed : ds.drop i = d :: ds.drop (i + 1) := by
      rw [List.drop_eq_getElem_cons hlt]
      rw [List.getElem?_eq_getElem hlt] at hd
      rw [Option.some.inj hd]
    rw [ed] at er
    have S2 := S1.mono e2
    have er' : ((bindE t d (wipeE env vs)).bind fun env1 => match ft env1 with
      | some (.ok _ (.bl true)) => match fe env1 with
        | some (.ok _ x) => (lcL (wipeE env vs) t ft fe (ds.drop (i + 1))).map (x :: ·)
        | _ => none
      | some (.ok _ (.bl false)) => lcL (wipeE env vs) t ft fe (ds.drop (i + 1))
      | _ => none) = some rest := er
    cases qb : bindE t d (wipeE env vs) with
    | none => rw [qb] at er'; cases er'
    | some env1 =>
      rw [qb] at er'
      have er2 : (match ft env1 with
        | some (.ok _ (.bl true)) => match fe env1 with
          | some (.ok _ x) => (lcL (wipeE env vs) t ft fe (ds.drop (i + 1))).map (x :: ·)
          | _ => none
        | some (.ok _ (.bl false)) => lcL (wipeE env vs) t ft fe (ds.drop (i + 1))
        | _ => none) = some rest := er'
      refine gOf_of (S2.wipe vs) rd qb fun σ2 S3 hσ => ⟨wipe_same (fun i hi => hσ i fun z => hi (hjs i z)) (by rw [← S3.len, bindE_len qb, wipeE_len, wipe_length]; exact S.len), ?_⟩
      split at er2
      · rename_i fl qt
        refine ⟨H0, F, plusO O D, env1, _, S3, qt, fun H3 e3 => ?_⟩
        refine iteT ?_
        split at er2
        · rename_i fl2 x2 qe
          refine ⟨H0, F, plusO O D, env1, _, S3.mono e3, qe, fun y H4 e4 h4 => ?_⟩
          have hD4 : H4 D = some (.lst acc) := e4 _ _ (e3 _ _ (e2 _ _ hD))
          have ry := h4.rep (S3.mono e3).hs.seen
          cases ql : lcL (wipeE env vs) t ft fe (ds.drop (i + 1)) with
          | none => rw [ql] at er2; cases er2
          | some rest' =>
            rw [ql] at er2
            cases er2
            have hlen : acc.length = accd.length := ra.length
            have hlt2 : accd.length + (rest'.length + 1) ≤ 16777216 := by
              have := congrArg List.length et
              rw [List.length_append, List.length_cons] at this
              omega
            refine ⟨acc, hD4, by rw [sizeLine_eq]; omega, acc ++ [y], accd ++ [x2], rest', ?_, upd_same, ?_, ql, by rw [List.append_assoc]; exact et⟩
            · exact Ex.mut (((e1.trans e2).trans e3).trans e4) n
            · rw [vis_upd (show plusO O D D from .inr rfl)]
              exact (ra.up (vis_mono ((e2.trans e3).trans e4))).append (.cons ry .nil)
        · cases er2
      · rename_i fl qt
        refine ⟨H0, F, plusO O D, env1, _, S3, qt, fun H3 e3 => ?_⟩
        refine iteF ?_
        exact ⟨acc, accd, rest, (e1.trans e2).trans e3, e3 _ _ (e2 _ _ hD), ra.up (vis_mono (e2.trans e3)), er2, et⟩
      · cases er2
  · have ei : i = ds.length := by omega
    subst ei
    refine .inl ⟨hi.stop H e1, ?_⟩
    rw [List.drop_length] at er
    cases er
    rw [List.append_nil] at et
    subst et
    exact q H acc e1 hD ra
theorem lc_read {σ : L2.St} {H : Hp} {Q : VK} (hjs : ∀ j ∈ t.js, j ∈ vs) (q : tF X.K X.mg E (lcG vs fi t ft fe) σ H Q) : tLc (tI2 X.K X.mg E fi) (gOf X.K t) (tT1 X.K X.mg E0x ft) (tF X.K X.mg E0x fe) vs σ H Q := by
  obtain ⟨H0, F, O, env, res, S, e, P⟩ := q
  have e' : bnd (fi env) (fun _ d => match d with
    | .lst ds => (lcL (wipeE env vs) t ft fe ds).bind fun r => if r.length ≤ 16777216 then okL r else none
    | _ => none) = some res := e
  cases q1 : fi env with
  | none => rw [q1] at e'; cases e'
  | some r =>
    rw [q1] at e'
    cases r with
    | ex c f => cases e'; exact ⟨H0, F, O, env, _, S, q1, P⟩
    | ok fl d =>
      cases d with
      | lst ds =>
        have e2 : ((lcL (wipeE env vs) t ft fe ds).bind fun r => if r.length ≤ 16777216 then okL r else none) = some res := e'
        refine ⟨H0, F, O, env, _, S, q1, fun Jt H1 e1 hi D hD => ?_⟩
        cases ql : lcL (wipeE env vs) t ft fe ds with
        | none => rw [ql] at e2; cases e2
        | some tot =>
          rw [ql] at e2
          have e3 : (if tot.length ≤ 16777216 then okL tot else none) = some res := e2
          split at e3
          · rename_i hz
            cases e3
            refine lc_run (S.mono e1) hi hD ql hz hjs fun H' xs e4 h1 h2 => ?_
            exact P _ H' (e1.trans e4) ⟨D, xs, rfl, fresh_back e1 hD, h1, h2.up vis_hid⟩
          · cases e3
      | _ => cases e'
/-- tests of a comprehension -/
inductive JTs (X : Cx) : List Expr → (Ev → Option Res) → Prop
  | nil : JTs X [] (bG true)
  | one {c : Expr} {f : Ev → Option Res} (h : JT X E0x c f) : JTs X [c] f
theorem JTs.run {X : Cx} {ifs : List Expr} {f : Ev → Option Res} (h : JTs X ifs f) : PTs X ifs (tT1 X.K X.mg E0x f) := by
  cases h with
  | one h => exact pts_one h.run
  | nil => exact ⟨fun pins s σ H Q I q => pts_nil.run pins s σ H Q I (by
      obtain ⟨H0, F, O, env, r, S, e, P⟩ := q
      cases e
      exact P H (Ex.refl H))⟩
theorem J_lc {elt tg iter : Expr} {ifs : List Expr} {scope : Scope} {own : List (Str × Nat)} {pos : Pos} (hc : X.calm = true) (hN : X.N.Nodup) (hi : JIC X E tg iter fi) (ok : BlkOk X.N X.env.scope scope own)
    (hg : ∀ (s : Shared) (H : Hp) (C : Addr) (cl : List (Str × Addr)) (fp : List Addr), PG (X.blk s H scope (compEnvC scope cl C X.env) fp) tg (gOf X.K t))
    (ht : ∀ (s : Shared) (H : Hp) (C : Addr) (cl : List (Str × Addr)) (fp : List Addr), JTs (X.blk s H scope (compEnvC scope cl C X.env) fp) ifs ft)
    (he : ∀ (s : Shared) (H : Hp) (C : Addr) (cl : List (Str × Addr)) (fp : List Addr), J (X.blk s H scope (compEnvC scope cl C X.env) fp) E0x elt fe) (hs : ∀ x, foldedSetIterable iter X.env x = pure x) (hjs : ∀ j ∈ t.js, j ∈ own.map (·.2)) :
    J X E (.ListComp elt [⟨tg, iter, ifs, 0⟩] scope pos) (lcG (own.map (·.2)) fi t ft fe) :=
  ⟨impE (pe_lc hc hN hi.run ok hg (fun s H C cl fp => (ht s H C cl fp).run) (fun s H C cl fp => (he s H C cl fp).run) hs) fun σ H Q q => lc_read hjs q⟩
end
end Dl

namespace Dl
open PySem PySem.Spec PyProof.Rows L2 Evl

/-! ### statements -/
inductive SRes where
  | nx (env : Ev) | bk (env : Ev) | ct (env : Ev) | rt (fl : Bool) (d : Dt) | ex (env : Ev) (c : Str) (fs : List (Str × Dt))
def PostS (K : PySem.W.Frag) (mg : Str → Option Value) (H0 F : Hp) (O : Addr → Prop) (H : Hp) (D : Ends) (E : SXK) : SRes → Prop
  | .nx env' => ∀ σ' H' O', SR K H0 F O' σ' H' env' → Ex (vis H0 F O H) (vis H0 F O' H') → D.nx σ' H'
  | .bk env' => ∀ σ' H' O', SR K H0 F O' σ' H' env' → Ex (vis H0 F O H) (vis H0 F O' H') → D.bk σ' H'
  | .ct env' => ∀ σ' H' O', SR K H0 F O' σ' H' env' → Ex (vis H0 F O H) (vis H0 F O' H') → D.ct σ' H'
  | .rt fl d => ∀ v H', Ex H0 H' → Val1 K (vis H0 F noO H') H0 H' v fl d → D.rt v H'
  | .ex env' c fs => ∀ σ' H1 O', SR K H0 F O' σ' H1 env' → Ex (vis H0 F O H) (vis H0 F O' H1) → ∀ C dx H', mg c = some (.ref C) → Ex H1 H' → Exc1 K (vis H0 F O' H') H1 H' dx fs → E σ' (.ref C) (some dx) H'
def tS1 (K : PySem.W.Frag) (mg : Str → Option Value) (E : SXK) (g : Ev → Option SRes) : TS := fun D σ H => ∃ H0 F O env r, SR K H0 F O σ H env ∧ g env = some r ∧ PostS K mg H0 F O H D E r
structure JS (X : Cx) (E : SXK) (st : Stmt) (g : Ev → Option SRes) : Prop where
  run : PS X st (tS1 X.K X.mg E g)
structure JSs (X : Cx) (E : SXK) (st : List Stmt) (g : Ev → Option SRes) : Prop where
  run : PSs X st (tS1 X.K X.mg E g)
section
variable {K : PySem.W.Frag} {mg : Str → Option Value} {H0 F H H1 H' : Hp} {O O' : Addr → Prop} {σ : L2.St} {env : Ev} {D : Ends} {E : SXK} {r : SRes} {fl : Bool} {d : Dt} {v : V} {j : Nat} {ds es : List Dt} {xs ys : List V} {a p : Addr}
theorem PostS.up (P : PostS K mg H0 F O H D E r) (e : Ex (vis H0 F O H) (vis H0 F O' H')) : PostS K mg H0 F O' H' D E r := by
  cases r with
  | nx env' => exact fun σ2 H2 O2 S q => P σ2 H2 O2 S (e.trans q)
  | bk env' => exact fun σ2 H2 O2 S q => P σ2 H2 O2 S (e.trans q)
  | ct env' => exact fun σ2 H2 O2 S q => P σ2 H2 O2 S (e.trans q)
  | rt fl d => exact P
  | ex env' c fs => exact fun σ2 H2 O2 S q => P σ2 H2 O2 S (e.trans q)
theorem vis_none_le : Ex (vis H0 F O H) (vis H0 F noO H) := fun a o q => by
  rw [vis_noO]
  unfold vis at q
  split at q
  · cases q
  · exact q
theorem Val1.out (hs : HS H0 F O H) (h : Val1 K (vis H0 F O H') H H' v fl d) : Val1 K (vis H0 F noO H') H0 H' v fl d := (h.back hs.ext).see vis_none_le
theorem Exc1.out {dx : Addr} {fs : List (Str × Dt)} (hs : HS H0 F O H) (h : Exc1 K (vis H0 F O H') H H' dx fs) : Exc1 K (vis H0 F noO H') H0 H' dx fs :=
  let ⟨vs, a, b, c⟩ := h
  ⟨vs, hs.notE a, b, c.up vis_none_le⟩
/-- an expression within a statement: k tells what is made of its value -/
def bndS (env : Ev) (r : Option Res) (k : Bool → Dt → Option SRes) : Option SRes := match r with
  | some (.ok fl d) => k fl d
  | some (.ex c fs) => some (.ex env c fs)
  | none => none
theorem tF_bndS {f : Ev → Option Res} {Q1 : VK} {k : Bool → Dt → Option SRes} (S : SR K H0 F O σ H env) (e : bndS env (f env) k = some r) (P : PostS K mg H0 F O H D E r)
    (go : ∀ v H1 fl d, Ex H H1 → SR K H0 F O σ H1 env → Val1 K (vis H0 F O H1) H H1 v fl d → k fl d = some r → Q1 v H1) : tF K mg E f σ H Q1 := by
  cases q : f env with
  | none => rw [q] at e; cases e
  | some x =>
    rw [q] at e
    cases x with
    | ok fl d => exact ⟨H0, F, O, env, _, S, q, fun v H1 e1 h1 => go v H1 fl d e1 (S.mono e1) h1 e⟩
    | ex c fs =>
      cases e
      exact ⟨H0, F, O, env, _, S, q, P σ H O S (Ex.refl _)⟩
theorem tB_bndS {f : Ev → Option Res} {Q1 : VK} {k : Bool → Dt → Option SRes} (S : SR K H0 F O σ H env) (e : bndS env (f env) k = some r) (P : PostS K mg H0 F O H D E r)
    (go : ∀ v H1 fl d, Ex H H1 → SR K H0 F O σ H1 env → RepB K (vis H0 F O H1) H1 v d → k fl d = some r → Q1 v H1) : tB1 K mg E f σ H Q1 := by
  cases q : f env with
  | none => rw [q] at e; cases e
  | some x =>
    rw [q] at e
    cases x with
    | ok fl d => exact ⟨H0, F, O, env, _, S, q, fun v H1 e1 h1 => go v H1 fl d e1 (S.mono e1) h1 e⟩
    | ex c fs =>
      cases e
      exact ⟨H0, F, O, env, _, S, q, P σ H O S (Ex.refl _)⟩
theorem tT_bndS {f : Ev → Option Res} {Q1 : Bool → Hp → Prop} {k : Bool → Dt → Option SRes} (S : SR K H0 F O σ H env) (e : bndS env (f env) k = some r) (P : PostS K mg H0 F O H D E r) (hb : ∀ fl d, (∀ b, d ≠ .bl b) → k fl d = none)
    (go : ∀ b H1 fl, Ex H H1 → SR K H0 F O σ H1 env → k fl (.bl b) = some r → Q1 b H1) : tT1 K mg E f σ H Q1 := by
  cases q : f env with
  | none => rw [q] at e; cases e
  | some x =>
    rw [q] at e
    cases x with
    | ok fl d =>
      cases d with
      | bl b => exact ⟨H0, F, O, env, _, S, q, fun H1 e1 => go b H1 fl e1 (S.mono e1) e⟩
      | _ =>
        rw [show bndS env (some (Res.ok fl _)) k = k fl _ from rfl, hb fl _ (fun b z => by cases z)] at e
        cases e
    | ex c fs =>
      cases e
      exact ⟨H0, F, O, env, _, S, q, P σ H O S (Ex.refl _)⟩

/-! ### the slots -/
theorem hid_plus : Ex (hid p (vis H0 F O H')) (vis H0 F (plusO O p) H') := fun a o q => by
  unfold hid at q
  split at q
  · cases q
  · rename_i hn
    unfold vis at q ⊢
    split at q
    · cases q
    · rename_i z
      rw [if_neg (show ¬ plusO O p a from fun y => y.elim z hn)]
      exact q
/-- a new list is kept by a name alone -/
theorem SR.own (S : SR K H0 F O σ H env) (n : H p = none) (e : Ex H H') (h : H' p = some (.lst xs)) (r : Reps K (hid p (vis H0 F O H')) xs ds) (j : Nat) :
    SR K H0 F (plusO O p) (σ.set j (some (.ref p))) H' (env.set j (some (.ow ds))) := by
  have S1 := S.plus n e h
  have noslot : ∀ (i : Nat) (es : List Dt), env[i]? = some (some (.ow es)) → σ[i]? ≠ some (some (.ref p)) := fun i es q z => by
    obtain ⟨a, ys, h1, h2, h3, _⟩ := S.sl i _ q
    rw [z] at h2
    cases h2
    rw [n] at h3
    cases h3
  refine ⟨S1.hs, fun i s q => ?_, by simpa using S.len, fun i k ds1 es1 a h1 h2 h3 h4 => ?_⟩
  · by_cases hj : j = i
    · subst hj
      rw [List.getElem?_set, if_pos rfl] at q
      split at q
      · rename_i hlt
        cases q
        exact ⟨p, xs, .inr rfl, by rw [List.getElem?_set, if_pos rfl, if_pos (by rw [← S.len]; exact hlt)], h, r.up hid_plus⟩
      · cases q
    · rw [List.getElem?_set_ne hj] at q
      have hh := S1.sl i s q
      cases s with
      | sh d' => obtain ⟨u, h1, h2⟩ := hh; exact ⟨u, by rw [List.getElem?_set_ne hj]; exact h1, h2⟩
      | ow ds' => obtain ⟨a, xs, h1, h2, h3, h4⟩ := hh; exact ⟨a, xs, h1, by rw [List.getElem?_set_ne hj]; exact h2, h3, h4⟩
      | xc a dx c fs => exact ⟨by rw [List.getElem?_set_ne hj]; exact hh.1, hh.2⟩
  · by_cases hi : j = i
    · by_cases hk : j = k
      · exact hi.symm.trans hk
      · subst hi
        rw [List.getElem?_set, if_pos rfl] at h3
        split at h3
        · cases h3
          rw [List.getElem?_set_ne hk] at h2 h4
          exact absurd h4 (noslot k es1 h2)
        · cases h3
    · by_cases hk : j = k
      · subst hk
        rw [List.getElem?_set, if_pos rfl] at h4
        split at h4
        · cases h4
          rw [List.getElem?_set_ne hi] at h1 h3
          exact absurd h3 (noslot i ds1 h1)
        · cases h4
      · rw [List.getElem?_set_ne hi] at h1 h3
        rw [List.getElem?_set_ne hk] at h2 h4
        exact S.dis i k ds1 es1 a h1 h2 h3 h4
/-- a name's own list is changed -/
theorem SR.mut (S : SR K H0 F O σ H env) (q : env[j]? = some (some (.ow ds))) (z : σ[j]? = some (some (.ref a))) (oa : O a) (r : Reps K (vis H0 F O H) ys es) :
    SR K H0 F O σ (upd H a (.lst ys)) (env.set j (some (.ow es))) := by
  have hlt : j < env.length := (List.getElem?_eq_some_iff.mp q).1
  have vu : vis H0 F O (upd H a (.lst ys)) = vis H0 F O H := vis_upd oa
  refine ⟨⟨Ex.mut S.hs.ext (S.hs.own a oa).1, S.hs.sub, fun b hb => ?_⟩, fun i s w => ?_, by simpa using S.len, fun i k ds1 es1 b h1 h2 h3 h4 => ?_⟩
  · obtain ⟨n, zs, w⟩ := S.hs.own b hb
    by_cases e : b = a
    · subst e; exact ⟨n, ys, upd_same⟩
    · exact ⟨n, zs, by rw [upd_ne e]; exact w⟩
  · by_cases hj : j = i
    · subst hj
      rw [List.getElem?_set, if_pos rfl, if_pos hlt] at w
      cases w
      exact ⟨a, ys, oa, z, upd_same, by rw [vu]; exact r⟩
    · rw [List.getElem?_set_ne hj] at w
      have hh := S.sl i s w
      cases s with
      | sh d' => obtain ⟨u, h1, h2⟩ := hh; exact ⟨u, h1, by rw [vu]; exact h2⟩
      | ow ds' =>
        obtain ⟨b, zs, h1, h2, h3, h4⟩ := hh
        have hb : b ≠ a := fun e => by
          subst e
          exact hj (S.dis j i ds ds' b q w z h2)
        exact ⟨b, zs, h1, h2, by rw [upd_ne hb]; exact h3, by rw [vu]; exact h4⟩
      | xc b dx c fs => exact ⟨hh.1, by rw [vu]; exact hh.2⟩
  · have old : ∀ (i : Nat) (ds1 : List Dt), (env.set j (some (.ow es)))[i]? = some (some (.ow ds1)) → ∃ ds2, env[i]? = some (some (.ow ds2)) := fun i ds1 w => by
      by_cases hj : j = i
      · subst hj; exact ⟨ds, q⟩
      · rw [List.getElem?_set_ne hj] at w; exact ⟨ds1, w⟩
    obtain ⟨d1, w1⟩ := old i ds1 h1
    obtain ⟨d2, w2⟩ := old k es1 h2
    exact S.dis i k d1 d2 b w1 w2 h3 h4
/-- a name's own list is from now on everybody's -/
def frz (env : Ev) : List Nat → Ev
  | [] => env
  | j :: js => match env[j]? with
    | some (some (.ow ds)) => frz (env.set j (some (.sh (.lst ds)))) js
    | _ => frz env js
theorem SR.frz1 (S : SR K H0 F O σ H env) (q : env[j]? = some (some (.ow ds))) : ∃ O', SR K H0 F O' σ H (env.set j (some (.sh (.lst ds)))) ∧ Ex (vis H0 F O H) (vis H0 F O' H) := by
  have hlt : j < env.length := (List.getElem?_eq_some_iff.mp q).1
  obtain ⟨a, xs, oa, z, ha, ra⟩ := S.sl j _ q
  have le : Ex (vis H0 F O H) (vis H0 F (fun b => O b ∧ b ≠ a) H) := fun b o w => by
    unfold vis at w ⊢
    split at w
    · cases w
    · rename_i y
      rw [if_neg (fun x => y x.1)]
      exact w
  refine ⟨fun b => O b ∧ b ≠ a, ⟨⟨S.hs.ext, S.hs.sub, fun b hb => S.hs.own b hb.1⟩, fun i s w => ?_, by simpa using S.len, fun i k ds1 es1 b h1 h2 h3 h4 => ?_⟩, le⟩
  · by_cases hj : j = i
    · subst hj
      rw [List.getElem?_set, if_pos rfl, if_pos hlt] at w
      cases w
      refine ⟨_, z, .lst ?_ (ra.up le)⟩
      unfold vis
      rw [if_neg (fun y => y.2 rfl), if_pos (S.hs.own a oa).1]
      exact ha
    · rw [List.getElem?_set_ne hj] at w
      have hh := S.sl i s w
      cases s with
      | sh d' => obtain ⟨u, h1, h2⟩ := hh; exact ⟨u, h1, h2.up le⟩
      | ow ds' =>
        obtain ⟨b, zs, h1, h2, h3, h4⟩ := hh
        have hb : b ≠ a := fun e => by
          subst e
          exact hj (S.dis j i ds ds' b q w z h2)
        exact ⟨b, zs, ⟨h1, hb⟩, h2, h3, h4.up le⟩
      | xc b dx c fs => obtain ⟨h1, vs, h2, h3⟩ := hh; exact ⟨h1, vs, le _ _ h2, h3.up le⟩
  · have old : ∀ (i : Nat) (ds1 : List Dt), (env.set j (some (.sh (.lst ds))))[i]? = some (some (.ow ds1)) → env[i]? = some (some (.ow ds1)) := fun i ds1 w => by
      by_cases hj : j = i
      · subst hj
        rw [List.getElem?_set, if_pos rfl, if_pos hlt] at w
        cases w
      · rw [List.getElem?_set_ne hj] at w; exact w
    exact S.dis i k ds1 es1 b (old i ds1 h1) (old k es1 h2) h3 h4
theorem SR.frz : ∀ {js : List Nat} {env : Ev} {O : Addr → Prop}, SR K H0 F O σ H env → ∃ O', SR K H0 F O' σ H (Dl.frz env js) ∧ Ex (vis H0 F O H) (vis H0 F O' H)
  | [], env, O, S => ⟨O, S, Ex.refl _⟩
  | j :: js, env, O, S => by
    unfold Dl.frz
    split
    · rename_i ds q
      obtain ⟨O1, S1, e1⟩ := S.frz1 q
      obtain ⟨O2, S2, e2⟩ := SR.frz (js := js) S1
      exact ⟨O2, S2, e1.trans e2⟩
    · exact SR.frz (js := js) S
end

/-! ### the statements -/
def seqG (g h : Ev → Option SRes) : Ev → Option SRes := fun env => match g env with
  | some (.nx env1) => h env1
  | r => r
def nxG : Ev → Option SRes := fun env => some (.nx env)
def bkG : Ev → Option SRes := fun env => some (.bk env)
def ctG : Ev → Option SRes := fun env => some (.ct env)
def frzG (js : List Nat) (g : Ev → Option SRes) : Ev → Option SRes := fun env => g (frz env js)
section
variable {X : Cx} {E : SXK} {a b c tg : Expr} {es : List Expr} {fa fb fc fs : Ev → Option Res} {g h : Ev → Option SRes} {pos p2 p : Pos} {x : Str} {st : Stmt} {sts : List Stmt} {t : Tgt}
theorem JSs_nil : JSs X E [] nxG := ⟨impSs pss_nil fun D σ H q => by
  obtain ⟨H0, F, O, env, r, S, e, P⟩ := q
  cases e
  exact P σ H O S (Ex.refl _)⟩
theorem seq_of {D : Ends} {σ : L2.St} {H : Hp} (q : tS1 X.K X.mg E (seqG g h) D σ H) : tS1 X.K X.mg E g { D with nx := tS1 X.K X.mg E h D } σ H := by
  obtain ⟨H0, F, O, env, r, S, e, P⟩ := q
  unfold seqG at e
  split at e
  · rename_i env1 q1
    exact ⟨H0, F, O, env, _, S, q1, fun σ' H' O' S' e' => ⟨H0, F, O', env1, r, S', e, P.up e'⟩⟩
  · rename_i hn
    refine ⟨H0, F, O, env, r, S, e, ?_⟩
    cases r with
    | nx env' => exact absurd e (hn env')
    | bk env' => exact P
    | ct env' => exact P
    | rt fl d => exact P
    | ex env' c fs => exact P
theorem JSs_cons (h1 : JS X E st g) (h2 : JSs X E sts h) : JSs X E (st :: sts) (seqG g h) := ⟨impSs (pss_cons h1.run h2.run) fun D σ H q => seq_of q⟩
theorem JS_pass : JS X E (.Pass pos) nxG := ⟨impS ps_pass fun D σ H q => by
  obtain ⟨H0, F, O, env, r, S, e, P⟩ := q
  cases e
  exact P σ H O S (Ex.refl _)⟩
theorem JS_break : JS X E (.Break pos) bkG := ⟨impS ps_break fun D σ H q => by
  obtain ⟨H0, F, O, env, r, S, e, P⟩ := q
  cases e
  exact P σ H O S (Ex.refl _)⟩
theorem JS_continue : JS X E (.Continue pos) ctG := ⟨impS ps_continue fun D σ H q => by
  obtain ⟨H0, F, O, env, r, S, e, P⟩ := q
  cases e
  exact P σ H O S (Ex.refl _)⟩
/-- ahead of the statement some names' lists are given free -/
theorem tS_frz {js : List Nat} {D : Ends} {σ : L2.St} {H : Hp} (q : tS1 X.K X.mg E (frzG js g) D σ H) : tS1 X.K X.mg E g D σ H := by
  obtain ⟨H0, F, O, env, r, S, e, P⟩ := q
  obtain ⟨O', S', e'⟩ := S.frz (js := js)
  exact ⟨H0, F, O', _, r, S', e, P.up e'⟩
theorem JS_frz {js : List Nat} (h : JS X E st g) : JS X E st (frzG js g) := ⟨impS h.run fun D σ H q => tS_frz q⟩
/-- x = e -/
def asgD (t : Tgt) (env : Ev) (fl : Bool) (d : Dt) : Option SRes := match t, fl, d with
  | .nm j, true, .lst ds => some (.nx (env.set j (some (.ow ds))))
  | t, _, d => (bindE t d env).map .nx
def asgG (t : Tgt) (f : Ev → Option Res) : Ev → Option SRes := fun env => bndS env (f env) fun fl d => asgD t env fl d
theorem asg_of {D : Ends} {σ : L2.St} {H : Hp} (q : tS1 X.K X.mg E (asgG t fa) D σ H) : tAsg (tF X.K X.mg E fa) (gOf X.K t) D σ H := by
  obtain ⟨H0, F, O, env, r, S, e, P⟩ := q
  refine tF_bndS S e P fun v H1 fl d e1 S1 h1 e => ?_
  have plain : (bindE t d env).map SRes.nx = some r → gOf X.K t v σ H1 D.nx := fun e => by
    cases q : bindE t d env with
    | none => rw [q] at e; cases e
    | some env1 =>
      rw [q] at e
      cases e
      exact gOf_of S1 (h1.rep S.hs.seen) q fun σ' S' _ => P σ' H1 O S' (vis_mono e1)
  cases t with
  | tp js =>
    have e' : (bindE (.tp js) d env).map SRes.nx = some r := by cases fl <;> cases d <;> exact e
    exact plain e'
  | nm j =>
    cases fl with
    | false =>
      have e' : (bindE (.nm j) d env).map SRes.nx = some r := by cases d <;> exact e
      exact plain e'
    | true =>
      cases d with
      | lst ds =>
        cases e
        obtain ⟨p, xs, rfl, n, h, rr⟩ := h1
        exact P _ H1 _ (S.own n e1 h rr j) (vis_plus S.hs n e1)
      | _ => exact plain e
theorem JS_set {i : Nat} {pos' : Pos} (hN : X.N.Nodup) (hi : X.N[i]? = some x) (hx : Loc X.env.scope x) (he : J X E a fa) (hs : swapsWith a (some (.Name x pos')) pos.line X.env = pure false) (hf : X.fn x = true ∨ X.env.scope.names.lookup x = some .local) :
    JS X E (.Assign [.Name x pos'] a pos) (asgG (.nm i) fa) := ⟨impS (ps_set hN hi hx he.run hs hf) fun D σ H q => asg_of q⟩
theorem JS_asg (he : J X E a fa) (hg : PG X tg (gOf X.K t)) (hs : swapsWithSole [tg] a pos.line X.env = pure false) (hw : swappedStores [tg] a X.env = pure none) (h1 : (assignEach [tg] X.env).map (·.2) = [assign tg X.env]) :
    JS X E (.Assign [tg] a pos) (asgG t fa) := ⟨impS (ps_asg he.run hg hs hw h1) fun D σ H q => asg_of q⟩
theorem JS_setLc {i : Nat} {y : Str} {py : Pos} {elt tg iter : Expr} {ifs : List Expr} {scope : Scope} {own : List (Str × Nat)} {pos spos : Pos} {fi ft fe : Ev → Option Res} {t : Tgt} (hc : X.calm = true) (hN : X.N.Nodup) (hy : X.N[i]? = some y) (hyl : X.env.scope.names.lookup y = some .local)
    (hsw : swapsWith (.ListComp elt [⟨tg, iter, ifs, 0⟩] scope pos) (some (.Name y py)) spos.line X.env = pure true) (hi : JIC X E tg iter fi) (ok : BlkOk X.N X.env.scope scope own)
    (hg : ∀ (s : Shared) (H : Hp) (C : Addr) (cl : List (Str × Addr)) (fp : List Addr), PG (X.blk s H scope (compEnvC scope cl C X.env) fp) tg (gOf X.K t))
    (ht : ∀ (s : Shared) (H : Hp) (C : Addr) (cl : List (Str × Addr)) (fp : List Addr), JTs (X.blk s H scope (compEnvC scope cl C X.env) fp) ifs ft)
    (he : ∀ (s : Shared) (H : Hp) (C : Addr) (cl : List (Str × Addr)) (fp : List Addr), J (X.blk s H scope (compEnvC scope cl C X.env) fp) E0x elt fe) (hs : ∀ x, foldedSetIterable iter X.env x = pure x) (hjs : ∀ j ∈ t.js, j ∈ own.map (·.2)) :
    JS X E (.Assign [.Name y py] (.ListComp elt [⟨tg, iter, ifs, 0⟩] scope pos) spos) (asgG (.nm i) (lcG (own.map (·.2)) fi t ft fe)) :=
  ⟨impS (ps_setLc hc hN hy hyl hsw hi.run ok hg (fun s H C cl fp => (ht s H C cl fp).run) (fun s H C cl fp => (he s H C cl fp).run) hs) fun D σ H q => by
    have q2 := asg_of q
    exact lc_read hjs q2⟩
/-- return -/
def retG (f : Ev → Option Res) : Ev → Option SRes := fun env => bndS env (f env) fun fl d => some (.rt fl d)
theorem JS_ret (he : J X E a fa) : JS X E (.Return (some a) pos) (retG fa) := ⟨impS (ps_ret he.run) fun D σ H q => by
  obtain ⟨H0, F, O, env, r, S, e, P⟩ := q
  refine tF_bndS S e P fun v H1 fl d e1 S1 h1 e => ?_
  cases e
  exact P v H1 S1.hs.ext (h1.out S.hs)⟩
/-- return x: the name's own list goes out as a new one -/
def retV (i : Nat) : Ev → Option SRes := fun env => match env[i]? with
  | some (some (.sh d)) => some (.rt false d)
  | some (some (.ow ds)) => some (.rt true (.lst ds))
  | _ => none
theorem JS_retV {i : Nat} (h : PE X (.Name x p) (tVar i)) : JS X E (.Return (some (.Name x p)) pos) (retV i) := ⟨impS (ps_ret h) fun D σ H q => by
  obtain ⟨H0, F, O, env, r, S, e, P⟩ := q
  unfold retV at e
  split at e
  · rename_i d q
    cases e
    obtain ⟨v, h1, h2⟩ := S.sl i _ q
    exact ⟨v, h1, P v H S.hs.ext (Val1.of (h2.up vis_none_le))⟩
  · rename_i ds q
    cases e
    obtain ⟨a, xs, h1, h2, h3, h4⟩ := S.sl i _ q
    refine ⟨_, h2, P _ H S.hs.ext ⟨a, xs, rfl, (S.hs.own a h1).1, h3, h4.up fun b o w => ?_⟩⟩
    unfold hid
    rw [if_neg (fun z => by
      unfold vis at w
      rw [if_pos (by rw [z]; exact h1)] at w
      cases w)]
    exact vis_none_le _ _ w
  · cases e⟩
def retN : Ev → Option SRes := fun _ => some (.rt false .non)
theorem JS_retN : JS X E (.Return none pos) retN := ⟨impS ps_retN fun D σ H q => by
  obtain ⟨H0, F, O, env, r, S, e, P⟩ := q
  cases e
  exact P .non H S.hs.ext .non⟩
/-- if -/
def ifG (f : Ev → Option Res) (g h : Ev → Option SRes) : Ev → Option SRes := fun env => bndS env (f env) fun _ d => match d with
  | .bl true => g env
  | .bl false => h env
  | _ => none
theorem JS_if {s1 s2 : List Stmt} (hc : JT X E c fc) (h1 : JSs X E s1 g) (h2 : JSs X E s2 h) : JS X E (.If c s1 s2 pos) (ifG fc g h) := ⟨impS (ps_if hc.run h1.run h2.run) fun D σ H q => by
  obtain ⟨H0, F, O, env, r, S, e, P⟩ := q
  refine tT_bndS S e P (fun fl d hn => ?_) fun b H1 fl e1 S1 e => ?_
  · cases d <;> first | rfl | exact absurd rfl (hn _)
  · cases b with
    | true =>
      rw [if_pos rfl]
      exact ⟨H0, F, O, env, r, S1, e, P.up (vis_mono e1)⟩
    | false =>
      rw [if_neg Bool.false_ne_true]
      exact ⟨H0, F, O, env, r, S1, e, P.up (vis_mono e1)⟩⟩
/-- an expression by itself -/
def dropG (f : Ev → Option Res) : Ev → Option SRes := fun env => bndS env (f env) fun _ _ => some (.nx env)
theorem JS_drop (he : J X E a fa) (hs : swapsWith a none pos.line X.env = pure false) : JS X E (.Expr a pos) (dropG fa) := ⟨impS (ps_expr he.run hs) fun D σ H q => by
  obtain ⟨H0, F, O, env, r, S, e, P⟩ := q
  refine tF_bndS S e P fun v H1 fl d e1 S1 h1 e => ?_
  cases e
  exact P σ H1 O S1 (vis_mono e1)⟩
theorem JS_doc {j : Nat} : JS X E (.Expr (.Constant (.str x) j p) pos) nxG := ⟨impS ps_doc fun D σ H q => by
  obtain ⟨H0, F, O, env, r, S, e, P⟩ := q
  cases e
  exact P σ H O S (Ex.refl _)⟩
/-- x.append(e), x's list its own -/
def appG (i : Nat) (f : Ev → Option Res) : Ev → Option SRes := fun env => match env[i]? with
  | some (some (.ow ds)) => bndS env (f env) fun _ d => if ds.length < 16777216 then some (.nx (env.set i (some (.ow (ds ++ [d]))))) else none
  | _ => none
theorem app_of {i : Nat} {D : Ends} {σ : L2.St} {H : Hp} (q : tS1 X.K X.mg E (appG i fa) D σ H) : tDrop (tBM X.K "list" rAppend (tVar i) (tCons (tF X.K X.mg E fa) tNil)) D σ H := by
  obtain ⟨H0, F, O, env, r, S, e, P⟩ := q
  unfold appG at e
  split at e
  · rename_i ds q
    obtain ⟨a, xs, oa, h2, h3, h4⟩ := S.sl i _ q
    refine ⟨_, h2, .inl ⟨rfl, xs, Or.inl (Or.inl h3)⟩, ?_⟩
    refine tF_bndS S e P fun v H1 fl d e1 S1 h1 e => ?_
    split at e
    · rename_i hl
      cases e
      have r1 : Reps X.K (vis H0 F O H1) (xs ++ [v]) (ds ++ [d]) := (h4.up (vis_mono e1)).append (.cons (h1.rep S.hs.seen) .nil)
      refine ⟨a, xs, v, rfl, rfl, e1 _ _ h3, by rw [sizeLine_eq, h4.length]; exact hl, ?_⟩
      refine P σ _ O (S1.mut q h2 oa r1) ?_
      rw [vis_upd oa]
      exact vis_mono e1
    · cases e
  · cases e
/-- x[k] = e -/
def setG (i : Nat) (fi f : Ev → Option Res) : Ev → Option SRes := fun env => bndS env (f env) fun _ d => match env[i]? with
  | some (some (.ow ds)) => bndS env (fi env) fun _ k => match k with
    | .int k => (ixN ds.length k).map fun j => .nx (env.set i (some (.ow (ds.set j d))))
    | _ => none
  | _ => none
theorem JS_setI {i : Nat} {o k : Expr} {spos : Pos} {fk : Ev → Option Res} (he : J X E a fa) (ho : PE X o (tVar i)) (hk : JB X E k fk) (hs : swapsWithSole [.Subscript o k p] a pos.line X.env = pure false) (hw : swappedStores [.Subscript o k p] a X.env = pure none)
    (h1 : (assignEach [.Subscript o k p] X.env).map (·.2) = [assign (.Subscript o k p) X.env])
    (ha : ∀ v, assign (.Subscript o k p) X.env v = (do
      let ov ← holding [v] (eval o X.env)
      let iv ← holding [v, ov] (eval k X.env)
      standAt p
      holding [v, ov, iv] (setItem ov iv v)
      release [v, ov, iv] [])) : JS X E (.Assign [.Subscript o k p] a pos) (setG i fk fa) := ⟨impS (ps_asg he.run (pg_sub ho hk.run set_list ha) hs hw h1) fun D σ H q => by
  obtain ⟨H0, F, O, env, r, S, e, P⟩ := q
  refine tF_bndS S e P fun v H1 fl d e1 S1 h1 e => ?_
  have rv := h1.rep S.hs.seen
  split at e
  · rename_i ds q
    obtain ⟨a, xs, oa, h2, h3, h4⟩ := S1.sl i _ q
    refine ⟨_, h2, ?_⟩
    refine tB_bndS S1 e (P.up (vis_mono e1)) fun u H2 _ d2 e2 S2 h5 e => ?_
    split at e
    · rename_i k
      cases h5
      cases qj : ixN ds.length k with
      | none => rw [qj] at e; cases e
      | some j =>
        rw [qj] at e
        cases e
        refine ⟨a, xs, k, j, rfl, rfl, e2 _ _ h3, by rw [h4.length]; exact qj, ?_⟩
        refine P σ _ O (S2.mut q h2 oa ((h4.up (vis_mono e2)).set j (rv.up (vis_mono e2)))) ?_
        rw [vis_upd oa]
        exact vis_mono (e1.trans e2)
    · cases e
  · cases e⟩
/-- for -/
def loopG (t : Tgt) (g : Ev → Option SRes) : List Dt → Ev → Option SRes
  | [], env => some (.nx env)
  | d :: ds, env => (bindE t d env).bind fun env1 => match g env1 with
    | some (.nx e) => loopG t g ds e
    | some (.ct e) => loopG t g ds e
    | some (.bk e) => some (.nx e)
    | r => r
def forG (t : Tgt) (f : Ev → Option Res) (g : Ev → Option SRes) : Ev → Option SRes := fun env => bndS env (f env) fun _ d => match d with
  | .lst ds => loopG t g ds env
  | _ => none
theorem for_run {H0 F : Hp} {ds : List Dt} {Jt : It} {D : Ends} {σ : L2.St} {H1 : Hp} {O : Addr → Prop} {env : Ev} {r : SRes} (S : SR X.K H0 F O σ H1 env) (hi : ItOk X.K H0 F (Ex (vis H0 F O H1)) (vis H0 F O H1) Jt ds) (e : loopG t g ds env = some r) (P : PostS X.K X.mg H0 F O H1 D E r) :
    ∃ W : Nat → Nat → L2.St → Hp → Prop, (∃ m, W 0 m σ H1) ∧ ∀ i m σ H, W i m σ H → (Jt.stop i H ∧ D.nx σ H) ∨ (Jt.go i H ∧ ∃ N : L2.St → Hp → Prop, (∀ σ' H', N σ' H' → ∃ m', m' < m ∧ W (i + 1) m' σ' H') ∧
      ∀ x H', Jt.yld i H x H' → gOf X.K t x σ H' fun σ2 H2 => tS1 X.K X.mg E g { D with nx := N, ct := N, bk := D.nx } σ2 H2) := by
  let Inv : Nat → L2.St → Hp → Prop := fun i σ' H' => ∃ O' env', SR X.K H0 F O' σ' H' env' ∧ Ex (vis H0 F O H1) (vis H0 F O' H') ∧ loopG t g (ds.drop i) env' = some r
  refine ⟨fun i m σ' H' => m = ds.length - i ∧ i ≤ ds.length ∧ Inv i σ' H', ⟨ds.length, by omega, Nat.zero_le _, O, env, S, Ex.refl _, e⟩, ?_⟩
  rintro i m σ' H' ⟨rfl, hle, O', env', S', ev, er⟩
  have eH : Ex (vis H0 F O H1) H' := ev.trans S'.hs.vis
  by_cases hlt : i < ds.length
  · refine .inr ⟨hi.go i H' eH hlt, Inv (i + 1), fun σ2 H2 z => ⟨ds.length - (i + 1), by omega, rfl, hlt, z⟩, fun x H2 y => ?_⟩
    obtain ⟨d, hd, e2, rd⟩ := hi.yld i H' O' x H2 hlt S'.hs eH ev y
    have ed : ds.drop i = d :: ds.drop (i + 1) := by
      rw [List.drop_eq_getElem_cons hlt]
      rw [List.getElem?_eq_getElem hlt] at hd
      rw [Option.some.inj hd]
    rw [ed] at er
    have S2 := S'.mono e2
    have er' : ((bindE t d env').bind fun env1 => match g env1 with
      | some (.nx e) => loopG t g (ds.drop (i + 1)) e
      | some (.ct e) => loopG t g (ds.drop (i + 1)) e
      | some (.bk e) => some (.nx e)
      | r => r) = some r := er
    cases qb : bindE t d env' with
    | none => rw [qb] at er'; cases er'
    | some env1 =>
      rw [qb] at er'
      have er2 : (match g env1 with
        | some (.nx e) => loopG t g (ds.drop (i + 1)) e
        | some (.ct e) => loopG t g (ds.drop (i + 1)) e
        | some (.bk e) => some (.nx e)
        | r => r) = some r := er'
      refine gOf_of S2 rd qb fun σ3 S3 _ => ?_
      have ev3 : Ex (vis H0 F O H1) (vis H0 F O' H2) := ev.trans (vis_mono e2)
      cases qg : g env1 with
      | none => rw [qg] at er2; cases er2
      | some s =>
        rw [qg] at er2
        refine ⟨H0, F, O', env1, s, S3, qg, ?_⟩
        cases s with
        | nx e4 => exact fun σ5 H5 O5 S5 w5 => ⟨O5, e4, S5, ev3.trans w5, er2⟩
        | ct e4 => exact fun σ5 H5 O5 S5 w5 => ⟨O5, e4, S5, ev3.trans w5, er2⟩
        | bk e4 =>
          cases er2
          exact fun σ5 H5 O5 S5 w5 => P σ5 H5 O5 S5 (ev3.trans w5)
        | rt fl d =>
          cases er2
          exact P
        | ex e4 c fs =>
          cases er2
          exact fun σ5 H5 O5 S5 w5 => P σ5 H5 O5 S5 (ev3.trans w5)
  · have ei : i = ds.length := by omega
    subst ei
    refine .inl ⟨hi.stop H' eH, ?_⟩
    rw [List.drop_length] at er
    cases er
    exact P σ' H' O' S' ev
theorem JS_for {iter : Expr} {body : List Stmt} {fi : Ev → Option Res} (hp : PassesOwn (model X.prog X.w) X.A X.env X.xe) (hc : X.calm = true) (hi : JI X E tg iter fi) (hg : PG X tg (gOf X.K t)) (hb : JSs X E body g) (hs : ∀ x, foldedSetIterable iter X.env x = pure x) :
    JS X E (.For tg iter body [] pos) (forG t fi g) := ⟨impS (ps_for hp hc hi.run hg hb.run hs) fun D σ H q => by
  obtain ⟨H0, F, O, env, r, S, e, P⟩ := q
  have e' : bndS env (fi env) (fun _ d => match d with
    | .lst ds => loopG t g ds env
    | _ => none) = some r := e
  cases q1 : fi env with
  | none => rw [q1] at e'; cases e'
  | some x =>
    rw [q1] at e'
    cases x with
    | ex c f => cases e'; exact ⟨H0, F, O, env, _, S, q1, P σ H O S (Ex.refl _)⟩
    | ok fl d =>
      cases d with
      | lst ds => exact ⟨H0, F, O, env, _, S, q1, fun Jt H1 e1 hi => for_run (S.mono e1) hi e' (P.up (vis_mono e1))⟩
      | _ => cases e'⟩
/-- while, by the number of turns -/
def whileL (f : Ev → Option Res) (g : Ev → Option SRes) : Nat → Ev → Option SRes
  | 0, _ => none
  | n + 1, env => bndS env (f env) fun _ d => match d with
    | .bl true => match g env with
      | some (.nx e) => whileL f g n e
      | some (.ct e) => whileL f g n e
      | some (.bk e) => some (.nx e)
      | r => r
    | .bl false => some (.nx env)
    | _ => none
theorem JS_while {body : List Stmt} {n : Nat} (hp : PassesOwn (model X.prog X.w) X.A X.env X.xe) (hc : JT X E c fc) (hb : JSs X E body g) : JS X E (.While c body [] pos) (fun env => whileL fc g n env) := ⟨impS (ps_while hp hc.run hb.run) fun D σ H q => by
  obtain ⟨H0, F, O, env, r, S, e, P⟩ := q
  refine ⟨fun m σ' H' => ∃ O' env', SR X.K H0 F O' σ' H' env' ∧ Ex (vis H0 F O H) (vis H0 F O' H') ∧ whileL fc g m env' = some r, ⟨n, O, env, S, Ex.refl _, e⟩, ?_⟩
  rintro m σ' H' ⟨O', env', S', ev, er⟩
  cases m with
  | zero => cases er
  | succ m =>
    refine tT_bndS S' er (P.up ev) (fun fl d hn => ?_) fun b H1 fl e1 S1 e => ?_
    · cases d <;> first | rfl | exact absurd rfl (hn _)
    · cases b with
      | false =>
        refine iteF ?_
        cases e
        exact P σ' H1 O' S1 (ev.trans (vis_mono e1))
      | true =>
        refine iteT ?_
        have ev1 := ev.trans (vis_mono e1)
        have e2 : (match g env' with
          | some (.nx e) => whileL fc g m e
          | some (.ct e) => whileL fc g m e
          | some (.bk e) => some (.nx e)
          | r => r) = some r := e
        refine ⟨fun σ5 H5 => ∃ O' env', SR X.K H0 F O' σ5 H5 env' ∧ Ex (vis H0 F O H) (vis H0 F O' H5) ∧ whileL fc g m env' = some r, fun σ5 H5 z => ⟨m, Nat.lt_succ_self m, z⟩, ?_⟩
        cases qg : g env' with
        | none => rw [qg] at e2; cases e2
        | some s =>
          rw [qg] at e2
          refine ⟨H0, F, O', env', s, S1, qg, ?_⟩
          cases s with
          | nx e4 => exact fun σ5 H5 O5 S5 w5 => ⟨O5, e4, S5, ev1.trans w5, e2⟩
          | ct e4 => exact fun σ5 H5 O5 S5 w5 => ⟨O5, e4, S5, ev1.trans w5, e2⟩
          | bk e4 =>
            cases e2
            exact fun σ5 H5 O5 S5 w5 => P σ5 H5 O5 S5 (ev1.trans w5)
          | rt fl d =>
            cases e2
            exact P
          | ex e4 c fs =>
            cases e2
            exact fun σ5 H5 O5 S5 w5 => P σ5 H5 O5 S5 (ev1.trans w5)⟩
end
end Dl

namespace Dl
open PySem PySem.Spec PyProof.Rows L2 Evl

/-! ### defs that raise nothing themselves, called where an error is handled -/
def cxQ (CX : CXT) (P : Program) (w : World) (K : PySem.W.Frag) (mg : Str → Option Value) (base : Heap) (N : List Str) (qual : Str) (scope : Scope) (f : Addr) (cd : Value) (A : Around) (outer : List Env) (s : Shared) (H : Hp) (E : XK) : Cx :=
  { cxOf CX P w K mg base N qual scope f cd A outer s H E with calm := false }
structure FnQ (P : Program) (w : World) (K : PySem.W.Frag) (mg : Str → Option Value) (base : Heap) (CX : CXT) (k : Nat) (f : Addr) (fd : FuncData) (ps : List Str) (sp : Sp) : Prop where
  len : ∀ vs H Q E, sp vs H Q E → vs.length = ps.length
  run : ∀ (A : Around) (outer : List Env) (s : Shared) (H : Hp) (args : Args) (us : List Value) (vs : List V) (Q : VK) (E : XK), L2H.RoomH k A → Env0 P w K mg base A outer s H → BindsTo s fd args (ps.zip us) → Vals vs us → sp vs H Q E →
    codeAny (model P w) A (.call (.ref f) args) (CR CX outer P w H s Q E) s
section
variable {CX : CXT} {P : Program} {w : World} {K : PySem.W.Frag} {mg : Str → Option Value} {base : Heap} {k : Nat} {f : Addr} {N ps : List Str} {sp : Sp}
theorem inv_cool {qual : Str} {scope : Scope} {cd : Value} {A A' : Around} {outer : List Env} {s s1 : Shared} {H H1 : Hp} {E : XK} {σ : L2.St} (hA : A.frames = some outer) (I : Inv (cxOf CX P w K mg base N qual scope f cd A' outer s H E) [] σ H1 s1) : Inv (cxQ CX P w K mg base N qual scope f cd A outer s H E) [] σ H1 s1 :=
  ⟨⟨I.ok.mod, I.ok.kind, I.ok.glob, I.ok.blt, I.ok.above, I.ok.inj, I.ok.has, I.ok.cab, fun z => (by cases z), Around.frames_deeper hA, I.ok.stk, I.ok.exf, I.ok.bs, I.ok.bsz, I.ok.noex, I.ok.exfs, I.ok.funs, I.ok.frf⟩,
    I.os, I.bare, I.base, I.loc, I.cell, I.free, I.freeC, I.pin, I.hok, I.len⟩
theorem fnQ_of {name qual : Str} {params : Arguments} {body : List Stmt} {scope : Scope} {dV kV doc pm cdv ct oc : Value} {an od : Option Addr} {osl : Array (Option Value)}
    (lk : K.lookup f = some ⟨oc, od, .func (PySem.W.fnOf name qual params body scope dV kV doc pm an cdv ct), osl⟩) (hcd : PySem.W.codeIn K cdv qual = true) (S : FnScope N ps scope) (len : ∀ vs H Q E, sp vs H Q E → vs.length = ps.length)
    (hbody : ∀ (A : Around) (outer : List Env) (s : Shared) (H : Hp) (vs : List V) (Q : VK) (E : XK), L2H.RoomH k (A.deeper (envOfC qual scope s.heap.objs.size f cdv)) → sp vs H Q E →
      ∃ t, PSs (cxQ CX P w K mg base N qual scope f cdv A outer s H E) body t ∧ t { nx := fun _ H' => Q .non H', rt := Q } (L2.start N vs) H) :
    FnQ P w K mg base CX (k + 1) f (PySem.W.fnOf name qual params body scope dV kV doc pm an cdv ct) ps sp := by
  refine ⟨len, fun A outer s H args us vs Q E hr e0 hbd r hsp => ?_⟩
  have old : ∀ b o, base.get? b = some o → s.heap.get? b = some o := fun b o e => (e0.bs b o e).1
  have KX : K.In s.heap := e0.mod.kin.keeps old
  have hkind : ∀ y ∈ ps.zip us, scope.names.lookup y.1 = some .local ∨ (scope.names.lookup y.1 = some .cell ∧ ((cellsFrom (s.heap.objs.size + 1) scope.names []).lookup y.1).isSome = true) := by
    intro ⟨n, v⟩ hy
    cases S.par n (List.of_mem_zip hy).1 with
    | inl q => exact .inl q
    | inr q => exact .inr ⟨q, PySem.W.cellsFrom_some _ _ _ (.inl q)⟩
  refine codeAny_call_function hr.depth (KX _ _ lk) rfl S.co S.gen rfl (PySem.W.codeRec_of KX hcd) (hbd _ _ _ _ (wpAny_newFunctionEnv_cells S.kind hkind fun env he s1 x => ?_))
  subst he
  refine ⟨(e0.mod.nolimit.keeps old).keeps x.toInCall.keep, codeAny_func ?_⟩
  obtain ⟨t, ht, hq⟩ := hbody A outer s H vs Q E (hr.deeper _) hsp
  have e1 : Env0 P w K mg base { A with handled := none } outer s H := ⟨e0.frames, e0.mod, e0.bs, e0.bsz, e0.funs, e0.frf, e0.hok, e0.bare⟩
  have I := inv_cool (CX := CX) (E := E) e0.frames (inv_start (CX := CX) (E := E) S (rfl : ({ A with handled := none } : Around).handled = none) e1 (len _ _ _ _ hsp) r x)
  refine wpAny_mono (ht.run [] s1 (L2.start N vs) H _ I hq) (fun fl s' hs => ?_) fun e s' hs => hs
  have fin : ∀ {σ' : L2.St} {H' : Hp} {v : V} {u : Value}, Inv (cxQ CX P w K mg base N qual scope f cdv A outer s H E) [] σ' H' s' → RelV v u → Q v H' → CE outer P w H s Q u s' :=
    fun {_ H' v _} J rv q => ⟨v, H', J.os, J.bare, J.base, J.hok, rv, q⟩
  cases fl with
  | ret u => obtain ⟨v, _, _, J, rv, q⟩ := hs; exact fin J rv q
  | next => obtain ⟨_, _, J, q⟩ := hs; exact fin (v := V.non) (u := Value.none) J rfl q
  | brk => obtain ⟨_, _, _, q⟩ := hs; exact q.elim
  | cont => obtain ⟨_, _, _, q⟩ := hs; exact q.elim
theorem FnQ.mono {j : Nat} {fd : FuncData} (F : FnQ P w K mg base CX j f fd ps sp) (h : j ≤ k) : FnQ P w K mg base CX k f fd ps sp := ⟨F.len, fun A outer s H args us vs Q E hr => F.run A outer s H args us vs Q E (hr.mono h)⟩
end
section
variable {X : Cx} {CX : CXT} {k : Nat} {f : Addr} {fd : FuncData} {ps : List Str} {sp : Sp} {E : SXK} {x : Str} {q pos : Pos} {e : Expr} {es : List Expr} {t : TA}
theorem pe_callQ (F : FnQ X.prog X.w X.K X.mg X.base CX k f fd ps sp) (hr : L2H.RoomH k X.A) (hg : Gl X x) (hm : X.mg x = some (.ref f)) (hk : PySem.W.keepIn X.K (.ref f) = true) (hb : Binds X.K fd ps []) (hx : ∀ σ, PassesAt CX X σ (E σ))
    (ha : PA X (e :: es) t) (hdb : (x == ("__debug__" : Str)) = false) (he : starEach (e :: es) X.env = (false, eval e X.env) :: starEach es X.env) (hpl : (backTo pos (starEach es X.env)).any (·.1) = false) :
    PE X (.Call (.Name x q) (e :: es) [] pos) (tCallS sp E t) := by
  refine ⟨fun pins s σ H Q I h => wpAny_Call_Name_kw (ld_glob I hg hm ?_ hdb)⟩
  refine PySem.W.callWith_K (h₀ := X.base) I.ok.mod.kin hk (L2.thn (ha.run pos pins s σ H _ I h) fun us s1 ⟨vs, H1, I1, r, q⟩ => ⟨I1.kIn, ?_⟩) he hpl
  have hl : us.length = ps.length := by rw [← r.length]; exact F.len _ _ _ _ q
  have b := hb s1 us I1.kIn (by rw [List.append_nil]; exact hl)
  rw [List.append_nil] at b
  refine wpAny_call (codeAny_mono (F.run X.A X.stack s1 H1 ⟨us, []⟩ us vs Q (E σ) hr I1.env0 b r q) fun r s' hq => ?_)
  cases r with
  | error e => exact hx σ pins H1 s1 e s' I1 hq
  | ok fl => cases fl with
    | ret u => exact I1.after hq
    | next => exact hq.elim
    | brk => exact hq.elim
    | cont => exact hq.elim
end
end Dl

namespace Dl
open PySem PySem.Spec PyProof.Rows L2 Evl NdefX

/-! ### super().__init__(m) ahead in an __init__, the class over ValueError -/
section
variable {X : Cx} {pins : List (Addr × Obj)} {σ : L2.St} {H : Hp} {s : Shared} {a C u : Addr} {A : Around} {E : Value → Shared → Prop}
/-- the bound ValueError.__init__, called: nothing of it is told -/
theorem sinit_ok {us : List Value} {Q : Value → Shared → Prop} (T : OexC X.K C) (I : Inv X pins σ H s) (e : H a = some (exo a C none)) (hu : s.heap.get? u = some (PySem.W.kxs_mw "ValueError.__init__" a)) (hl : us.length ≤ sizeLine) (h : ∀ s', Inv X pins σ H s' → Q .none s') :
    wpAny (model X.prog X.w) A (call (.ref u) us) Q E s := by
  obtain ⟨nm, q, N, bs, bm, sn, sub, ab, col, dd, k0, k1, k2, k3, k5, hC, hbm⟩ := T.cls
  obtain ⟨t1, ho⟩ := exo_at I.hok e
  have hCs := I.kIn _ _ hC
  obtain ⟨hp, g, d, t, os⟩ := s
  refine wpAny_call (codeAny_of_tree ?_)
  show wpAny _ A.in1 (callAny (.ref u) ⟨us, []⟩) _ _ _
  simp only [callAny]
  refine wpAny_bind (wpAny_load hu ?_)
  simp only [PySem.W.kxs_mw, show (Value.type "method-wrapper" == Value.type "method" || Value.type "method-wrapper" == Value.type "builtin_function_or_method" || Value.type "method-wrapper" == Value.type "method-wrapper") = true by decide, if_true]
  refine PySem.W.KFB.if_so (by decide) ?_
  refine wpAny_bind (PySem.W.check_bound_init F.excBase_ValueError.toExcCallFacts hCs ho rfl ?_)
  refine wpAny_bind (wpAny_pure (wpAny_pure ?_))
  refine ⟨plainId_quiet F.excBase_ValueError.init.plain _, codeAny_builtin F.excBase_ValueError.initEntry ?_⟩
  refine PySem.W.exc_init_tree (cls := .ref C) (t0 := t1) (dv := none) (c2 := .none) (c3 := .none) (b4 := .bool false) ho hl fun h' k hx _ => ?_
  have J := I.write (t' := t) (x := a) (e := a) (o := exo a C none) (by rw [e]; exact True.intro) (.inl rfl) k ⟨_, hx⟩ (exo_ok hx)
  have eu : upd H a (exo a C none) = H := by
    funext b
    by_cases hb : b = a
    · rw [hb, upd_same, e]
    · rw [upd_ne hb]
  rw [eu] at J
  exact h _ J
end
section
variable {P : Program} {w : World} {K : PySem.W.Frag} {mg : Str → Option Value} {base : Heap} {N ps : List Str} {F : NF} {f C cc : Addr} {k : Nat} {sp : Sp}
theorem init_fn {oc doc pm ctv ccl cl : Value} {od cdd cld : Option Addr} {osl ccs csl : Array (Option Value)} {p0 p1 p2 p3 p4 : Pos} {m : Expr} {rest : List Stmt} {ar : Arg} {qs : List Str} {vs0 : Array Value} {file : Str} {tf : Tok} {cdC : ClassData}
    (S : NScope N ps ["__class__"] F.scope) (lk : K.lookup f = some ⟨oc, od, .func (F.fd doc pm ctv), osl⟩) (hcd : PySem.W.codeIn K (.ref F.c) F.qual = true) (hcl : F.cl = [(("__class__" : Str), cc)])
    (hbody : F.body = .Expr (.Call (.Attribute (.Call (.Name "super" p0) [] [] p1) "__init__" p2) [m] [] p3) p4 :: rest) (hm1 : ∀ env, starEach [m] env = (false, eval m env) :: starEach [] env) (hev : ∀ env : Env, ∃ pl : Sem Bool, eval (.Call (.Attribute (.Call (.Name "super" p0) [] [] p1) "__init__" p2) [m] [] p3) env = (do
      let ov ← attributeBase (.Call (.Name "super" p0) [] [] p1) "__init__" env (eval (.Call (.Name "super" p0) [] [] p1) env)
      standAt p2.atName
      let (g, first) ← holding [ov] (getMethod ov "__init__" pl)
      callWith p3 g first (backTo p3 (starEach [m] env)) [])) (hself : (F.params.posonlyargs ++ F.params.args).head? = some ar) (hps : ps = ar.arg :: qs)
    (hsup : F.scope.names.lookup ("super" : Str) = some .globalImplicit) (hmg : mg "super" = none) (hcode : K.lookup F.c = some ⟨ccl, cdd, .fields vs0, ccs⟩) (hvs : vs0[2]? = some (.str file tf)) (hfile : ((P.main.file : Str) == file) = true)
    (hcell : K.lookup cc = some ⟨cl, cld, .cell (some (.ref C)), csl⟩) (hC : PySem.W.clsIn K C = some cdC) (hsub : PySem.W.mroIn K C (.ref C) = some true) (hany : PySem.W.nsIn K cStatics "thirdparty.any" = some none)
    (hm : PySem.W.ks_superIn K C C "__init__" = some (some (.builtin "ValueError.__init__"))) (hB : PySem.W.subIn K (.ref C) (.type "ValueError") = some true) (htop : (P.main.scope.names.lookup ("super" : Str)).isSome = false) (T : OexC K C)
    (len : ∀ vs H Q E, sp vs H Q E → vs.length = ps.length)
    (hb : ∀ (A : Around) (outer : List Env) (s : Shared) (H : Hp) (vs : List V) (Q : VK) (E : XK), Room k (A.deeper (envF F f s.heap.objs.size)) → sp vs H Q E → ∃ (a : Addr) (ys : List V) (tm : TE) (t : TS), vs = .ref a :: ys ∧ H a = some (exo a C none) ∧
      PE (ncx (L2.CX P w) P w K mg base N F f A outer s H E) m tm ∧ PSs (ncx (L2.CX P w) P w K mg base N F f A outer s H E) rest t ∧
      tm (startF N vs [none]) H fun x H1 => ([x] : List V).length = 1 ∧ H1 a = some (exo a C none) ∧ t { nx := fun _ H' => Q .non H', rt := Q } (startF N vs [none]) H1) : FnOk P w K mg base (L2.CX P w) (k + 1) f (F.fd doc pm ctv) ps sp := by
  refine ⟨len, fun A outer s H args us vs Q E hr e0 hbd r hsp => ?_⟩
  have hl := len _ _ _ _ hsp
  have kst : ∀ b o, base.get? b = some o → s.heap.get? b = some o := fun b o e => (e0.bs b o e).1
  have hK : K.In s.heap := e0.mod.kin.keeps kst
  have lim : s.heap.NoLimit := e0.mod.nolimit.keeps kst
  have hcc : H cc = none := (e0.bs cc _ (e0.mod.kin _ _ hcell)).2
  have CA : CellsAt F.cl ["__class__"] [none] s.heap H := by
    rw [hcl]
    refine ⟨rfl, fun y c e => ?_, fun x y c e1 e2 => ?_, fun i y e => ?_⟩
    · have : y = "__class__" ∧ cc = c := by
        rw [show List.lookup y [(("__class__" : Str), cc)] = if y = "__class__" then some cc else none by simp [List.lookup]; split <;> simp_all] at e
        split at e
        · rename_i h; cases e; exact ⟨h, rfl⟩
        · cases e
      rw [← this.2]
      exact ⟨hcc, _, ⟨_, hK _ _ hcell, rfl⟩⟩
    · have key : ∀ z, List.lookup z [(("__class__" : Str), cc)] = some c → z = "__class__" := fun z e => by
        rw [show List.lookup z [(("__class__" : Str), cc)] = if z = "__class__" then some cc else none by simp [List.lookup]; split <;> simp_all] at e
        split at e
        · rename_i h; exact h
        · cases e
      rw [key x e1, key y e2]
    · cases i with
      | zero =>
        cases e
        exact ⟨cc, by simp [List.lookup], fun v z => by cases z⟩
      | succ i => cases e
  refine PySem.ks_codeAny_call_defAt (fd := F.fd doc pm ctv) (body := F.body) (binds := ps.zip us) hr.depth (hK _ _ lk) rfl lim (PySem.W.codeRec_of hK hcd) rfl hbd S.nocell (fun x hx => S.par x.1 (List.of_mem_zip hx).1) (fun h₁ hns kp => ?_) S.co S.gen S.kind
  have clen : ∀ z, (envF F f s.heap.objs.size).cells.lookup z = if z = "__class__" then some cc else none := fun z => by
    show F.cl.lookup z = _
    rw [hcl]
    simp [List.lookup]
    split <;> simp_all
  obtain ⟨a, ys, tm, t, hv, ha, hm', hr', hq⟩ := hb A outer s H vs Q E (hr.deeper _) hsp
  have I : Inv (ncx (L2.CX P w) P w K mg base N F f A outer s H E) [] (startF N vs [none]) H { s with heap := h₁, toks := s.toks + (ps.zip us).length } := inv_startN S hr.hd e0 hl r CA hns kp
  obtain ⟨mb, hb1, hb2⟩ := I.mod.blt
  have hK1 : K.In h₁ := fun b o e => kp b o (hK b o e)
  rw [hbody]
  have hhead : (ps.zip us).reverse.lookup ar.arg = some (.ref a) := by
    have ndP : ps.Nodup := by
      have q := S.nd.sublist (List.take_sublist (ps.length + (["__class__"] : List Str).length) N)
      rw [S.pre] at q
      exact (List.nodup_append.mp q).1
    subst hv
    cases r with
    | @cons _ u0 _ ur ra rw' =>
      have hu0 : u0 = Value.ref a := ra
      refine zip_look (i := 0) ndP (by rw [hps]; rfl) ?_
      rw [hu0]
      rfl
  obtain ⟨pl, hpl⟩ := hev (callEnv (F.fd doc pm ctv) s.heap.objs.size f)
  refine PySem.ks_wpAt_execs_cons (PySem.ks_wpAt_Expr_any (PySem.ks_wpAt_MethodCall (pl := pl) ?_ hpl) I.quiet rfl)
  refine PySem.ks_wpAt_super_base (f := f) (ar := ar) (file := file) (tf := tf) hsup (S.frk _ (List.mem_singleton.mpr rfl)) (by decide) rfl (kp _ _ (hK _ _ lk)) rfl hself rfl (hK1 _ _ hcode) rfl hvs hfile htop ?_
  refine PySem.W.ks_loadName_global S.kind hsup (Calls.loadGlobal_builtin (I.mod.glob.keeps I.bk) hmg (hb1.keeps I.bk) ((hb2 _ (by decide)).trans PyProof.Rows.Boot.«super») ⟨rfl, ?_⟩)
  refine wpAny_loadName_free S.kind (S.frk _ (List.mem_singleton.mpr rfl)) (by rw [show (callEnv (F.fd doc pm ctv) s.heap.objs.size f).cells = (envF F f s.heap.objs.size).cells from rfl, clen, if_pos rfl]) ⟨_, hK1 _ _ hcell, rfl⟩ ?_
  refine wpAny_loadName_local S.kind (S.par _ (by rw [hps]; exact List.mem_cons_self)) hns hhead ?_
  obtain ⟨oC, hC1, hC2⟩ : ∃ oC, h₁.get? C = some oC ∧ oC.data = .cls cdC := by
    unfold PySem.W.clsIn at hC
    split at hC
    · rename_i c d cd' sl ho
      cases hC
      exact ⟨_, hK1 _ _ ho, rfl⟩
    · cases hC
  refine PySem.ks_wpAny_isType_cls hC1 hC2 ⟨rfl, ?_⟩
  obtain ⟨t1, ho⟩ := exo_at I.hok ha
  have ho' : h₁.get? a = some ({ cls := .ref C, dict := none, data := .fields #[.ref t1, .none, .none, .none, .bool false, .none] } : Obj) := ho
  refine PySem.ks_wpAny_call_super hC1 hC2 ho' rfl (fun c e => by cases e) (PySem.W.looks_mroIn hK1 hsub) (fun h2 e2 k2 => ?_)
  have I2 := I.kept (h' := h2) (t' := s.toks + (ps.zip us).length) k2
  have hK2 : K.In h2 := fun b o e => k2 b o (hK1 b o e)
  have IA : PySem.W.InstAt h2 a _ C none := ⟨k2 _ _ ho', rfl, rfl, trivial⟩
  have hne := PySem.W.ks_ne hK2 IA hC
  unfold PySem.W.ks_superIn at hm
  rw [hC] at hm
  refine PySem.W.kxs_getMethod PySem.W.kxs_ValueError e2 (PySem.W.looks_opaque hK2 hany) (l₀ := cdC.mro) (fun A Q E s k q => wpAny_bind ((PySem.W.looks_clsIn hK2 hC) A _ E s k (wpAny_pure q))) rfl hK2 hm (IA.type.andThen (PySem.W.looks_subIn hK2 hB)) hne (by decide) ?_
  have I3 := I2.kept (h' := h2.push (PySem.W.kxs_mw "ValueError.__init__" a)) (t' := s.toks + (ps.zip us).length + 1) (fun b o e => Heap.get?_push_of_some _ e)
  have hu3 : (h2.push (PySem.W.kxs_mw "ValueError.__init__" a)).get? h2.objs.size = some (PySem.W.kxs_mw "ValueError.__init__" a) := Heap.get?_push_at rfl rfl
  have nu : H h2.objs.size = none := I2.hok.fresh (Nat.le_refl _)
  have I3p : Inv (ncx (L2.CX P w) P w K mg base N F f A outer s H E) [(h2.objs.size, PySem.W.kxs_mw "ValueError.__init__" a)] (startF N vs [none]) H _ := I3.pins_of fun p hp => by
    rw [List.mem_singleton.mp hp]
    exact ⟨hu3, nu, Nat.ne_of_gt I2.lt, I2.nofs (Nat.le_refl _), fun v z => by cases z⟩
  have PAm := pa_cons hm' pa_nil (hm1 _)
  show wpAny _ _ (callWith p3 (.ref h2.objs.size) [] (backTo p3 (starEach [m] (envF F f s.heap.objs.size))) []) _ _ _
  refine PySem.W.kxs_callWith (i := "ValueError.__init__") (x := a) (by rw [hm1]; rfl) ?_
  rw [hm1]
  refine Calls.evalArgs_plain ?_
  have run := PAm.run p3 _ _ _ _ (fun vs' H1 => vs'.length = 1 ∧ H1 a = some (exo a C none) ∧ t { nx := fun _ H' => Q .non H', rt := Q } (startF N vs [none]) H1) I3p hq
  rw [hm1] at run
  refine L2.thn run fun us4 s4 h4 => ?_
  obtain ⟨vs4, H4, I4, r4, l4, a4, q4⟩ := h4
  have hu4 := (I4.pin _ (List.mem_append_right _ List.mem_cons_self)).1
  refine ⟨hu4, ?_⟩
  refine sinit_ok T I4 a4 hu4 (by show us4.length ≤ sizeLine; rw [← Paired.length r4, l4, sizeLine_eq]; omega) fun s5 I5 => ?_
  have I6 : Inv (ncx (L2.CX P w) P w K mg base N F f A outer s H E) [] (startF N vs [none]) H4 s5 := I5.pins_of fun p hp => by cases hp
  refine wpAt_of_wpAny ?_
  refine wpAny_mono (hr'.run [] _ (startF N vs [none]) H4 _ I6 q4) (fun fl s' hs => ?_) fun e s' hs => hs
  have fin : ∀ {σ' : L2.St} {H' : Hp} {v : V} {u : Value}, Inv (ncx (L2.CX P w) P w K mg base N F f A outer s H E) [] σ' H' s' → RelV v u → Q v H' → CE outer P w H s Q u s' :=
    fun {σ' H' v u} J rv q => ⟨v, H', J.os, J.bare, J.base, J.hok, rv, q⟩
  cases fl with
  | ret u =>
    obtain ⟨v, σ', H', J, rv, q⟩ := hs
    exact fin J rv q
  | next =>
    obtain ⟨σ', H', J, q⟩ := hs
    exact fin (v := V.non) (u := Value.none) J rfl q
  | brk =>
    obtain ⟨_, _, _, q⟩ := hs
    exact False.elim q
  | cont =>
    obtain ⟨_, _, _, q⟩ := hs
    exact False.elim q
end
end Dl

namespace Dl
open PySem PySem.Spec PyProof.Rows L2 Evl NdefX

/-! ### raise C(args): C's __init__ calls super().__init__ with a text and keeps arguments as fields -/
structure XD where
  nm : List Str
  js : List Nat
  sh : Option Nat
  n : Nat
def pickL {α : Type} : List Nat → List α → Option (List α)
  | [], _ => some []
  | j :: js, xs => xs[j]?.bind fun x => (pickL js xs).map (x :: ·)
theorem Reps.pick {K : PySem.W.Frag} {W : Hp} : ∀ {js : List Nat} {vs : List V} {ds es : List Dt}, Reps K W vs ds → pickL js ds = some es → ∃ us, pickL js vs = some us ∧ Reps K W us es
  | [], _, _, _, _, q => by cases q; exact ⟨[], rfl, .nil⟩
  | j :: js, vs, ds, es, r, q => by
    unfold pickL at q ⊢
    cases z : ds[j]? with
    | none => rw [z] at q; cases q
    | some d =>
      rw [z] at q
      obtain ⟨v, h1, h2⟩ := r.get z
      have q' : (pickL js ds).map (d :: ·) = some es := q
      cases z2 : pickL js ds with
      | none => rw [z2] at q'; cases q'
      | some es1 =>
        rw [z2] at q'
        cases q'
        obtain ⟨us, h3, h4⟩ := Reps.pick r z2
        exact ⟨v :: us, by rw [h1]; show (pickL js vs).map (v :: ·) = _; rw [h3]; rfl, .cons h2 h4⟩
theorem pickL_len {α : Type} : ∀ {js : List Nat} {xs es : List α}, pickL js xs = some es → es.length = js.length
  | [], _, _, q => by cases q; rfl
  | j :: js, xs, es, q => by
    unfold pickL at q
    cases z : xs[j]? with
    | none => rw [z] at q; cases q
    | some d =>
      rw [z] at q
      have q' : (pickL js xs).map (d :: ·) = some es := q
      cases z2 : pickL js xs with
      | none => rw [z2] at q'; cases q'
      | some es1 =>
        rw [z2] at q'
        cases q'
        exact congrArg (· + 1) (pickL_len z2)
def shInt : Dt → Bool
  | .int j => decide (0 ≤ j) && decide (j < 10 ^ 10)
  | _ => false
def shOk (sh : Option Nat) (ds : List Dt) : Bool := match sh with
  | none => true
  | some i => match ds[i]? with
    | some d => shInt d
    | none => false
def XSp (C : Addr) (xd : XD) : Sp := fun vs H Q _ => ∃ a ys us, vs = .ref a :: ys ∧ ys.length = xd.n ∧ (∀ i, xd.sh = some i → ∃ j : Int, ys[i]? = some (.int j) ∧ 0 ≤ j ∧ j < 10 ^ 10) ∧ pickL xd.js ys = some us ∧ H a = some (exo a C none) ∧
  ∀ dx H', H dx = none → dx ≠ a → H' a = some (exo a C (some dx)) → H' dx = some (exd dx (xd.nm.zip us)) → (∀ b, b ≠ a → b ≠ dx → H' b = H b) → Q .non H'
structure RaiseOk (X : Cx) (x : Str) (xd : XD) : Prop where
  ex : ∃ C fI k fd ps, OexC X.K C ∧ PySem.W.findIn X.K (.ref C) "__init__" = some (some (.ref fI)) ∧ PySem.W.typeIn X.K (.ref fI) = some (.type "function") ∧ FnOk X.prog X.w X.K X.mg X.base (L2.CX X.prog X.w) k fI fd ps (XSp C xd) ∧ Room (k + 1) X.A ∧ Binds X.K fd ps [] ∧ X.mg x = some (.ref C)
def raiseG (x : Str) (xd : XD) (fs : Ev → Option Res) : Ev → Option SRes := fun env => bndS env (fs env) fun _ d => match d with
  | .lst ds => if ds.length = xd.n ∧ shOk xd.sh ds = true ∧ xd.nm.length = xd.js.length ∧ xd.n ≤ 100 then (pickL xd.js ds).map fun es => .ex env x (xd.nm.zip es) else none
  | _ => none
section
variable {X : Cx} {E : SXK} {a : Expr} {es : List Expr} {fs : Ev → Option Res} {pos pos' p : Pos} {x : Str} {xd : XD}
theorem tA_bndS {K : PySem.W.Frag} {mg : Str → Option Value} {H0 F H : Hp} {O : Addr → Prop} {σ : L2.St} {env : Ev} {D : Ends} {r : SRes} {Q1 : List V → Hp → Prop} {k : Bool → Dt → Option SRes} (S : SR K H0 F O σ H env) (e : bndS env (fs env) k = some r) (P : PostS K mg H0 F O H D E r) (hb : ∀ fl d, (∀ ds, d ≠ .lst ds) → k fl d = none)
    (go : ∀ vs H1 fl ds, Ex H H1 → SR K H0 F O σ H1 env → Reps K (vis H0 F O H1) vs ds → k fl (.lst ds) = some r → Q1 vs H1) : tA1 K mg E fs σ H Q1 := by
  cases q : fs env with
  | none => rw [q] at e; cases e
  | some y =>
    rw [q] at e
    cases y with
    | ok fl d =>
      cases d with
      | lst ds => exact ⟨H0, F, O, env, _, S, q, fun vs H1 e1 h1 => go vs H1 fl ds e1 (S.mono e1) h1 e⟩
      | _ =>
        rw [show bndS env (some (Res.ok fl _)) k = k fl _ from rfl, hb fl _ (fun b z => by cases z)] at e
        cases e
    | ex c fs =>
      cases e
      exact ⟨H0, F, O, env, _, S, q, P σ H O S (Ex.refl _)⟩
theorem JS_raise (hc : X.calm = true) (tk : Takes X fun c d σ H => E σ c d H) (R : RaiseOk X x xd) (hg : Gl X x) (hdb : (x == ("__debug__" : Str)) = false) (ha : JA X E (a :: es) fs) (he : starEach (a :: es) X.env = (false, eval a X.env) :: starEach es X.env)
    (hpl : (backTo pos (starEach es X.env)).any (·.1) = false) : JS X E (.Raise (some (.Call (.Name x p) (a :: es) [] pos)) none pos') (raiseG x xd fs) := by
  obtain ⟨C, fI, k, fd, ps, T, iC, tI, F1, hr, hb, hm⟩ := R.ex
  refine ⟨impS (ps_raise hc tk (pmk_oex T iC tI F1 hr hb .nil (fun pins σ H s e s' I c => passL pins σ H s e s' I c) hg hm ha.run hdb he hpl)) fun D σ H q => ?_⟩
  obtain ⟨H0, F, O, env, r, S, e, P⟩ := q
  refine tA_bndS S e P (fun fl d hn => ?_) fun vs H1 fl ds e1 S1 h1 e => ?_
  · cases d <;> first | rfl | exact absurd rfl (hn _)
  · have e' : (if ds.length = xd.n ∧ shOk xd.sh ds = true ∧ xd.nm.length = xd.js.length ∧ xd.n ≤ 100 then (pickL xd.js ds).map fun es => SRes.ex env x (xd.nm.zip es) else none) = some r := e
    split at e'
    · rename_i hcond
      obtain ⟨hn, hsh, hnm, hn100⟩ := hcond
      cases hp : pickL xd.js ds with
      | none => rw [hp] at e'; cases e'
      | some es1 =>
        rw [hp] at e'
        cases e'
        obtain ⟨us, hu, ru⟩ := h1.pick hp
        have hlen : vs.length = xd.n := by rw [h1.length]; exact hn
        refine ⟨by omega, fun a' na => ?_⟩
        rw [List.append_nil]
        refine ⟨a', vs, us, rfl, hlen, fun i hi => ?_, hu, upd_same, fun dx H' ndx hne ha' hd' hoth => ?_⟩
        · unfold shOk at hsh
          rw [hi] at hsh
          cases z : ds[i]? with
          | none => simp only [z] at hsh; cases hsh
          | some d =>
            simp only [z] at hsh
            obtain ⟨v, h2, h3⟩ := h1.get z
            cases d with
            | int j =>
              cases h3
              unfold shInt at hsh
              rw [Bool.and_eq_true, decide_eq_true_eq, decide_eq_true_eq] at hsh
              exact ⟨j, h2, hsh⟩
            | _ => cases hsh
        · have ndx1 : H1 dx = none := by
            rw [upd_ne hne] at ndx
            exact ndx
          refine ⟨rfl, dx, _, ha', hd', ndx1, ?_⟩
          have ext : Ex H1 (upd (del H' a') dx (.xd (xd.nm.zip us))) := fun b o q => by
            have b1 : b ≠ a' := fun z => by rw [z, na] at q; cases q
            have b2 : b ≠ dx := fun z => by rw [z, ndx1] at q; cases q
            rw [upd_ne b2, del_ne b1, hoth b b1 b2, upd_ne b1]
            exact q
          refine P σ H1 O S1 (vis_mono e1) C dx _ hm ext ⟨us, ndx1, ?_, ?_⟩
          · rw [upd_same]
            have l1 : (xd.nm.zip es1).map (·.1) = xd.nm := by
              rw [List.map_fst_zip]
              rw [hnm, pickL_len hp]
              exact Nat.le_refl _
            rw [l1]
          · have l2 : (xd.nm.zip es1).map (·.2) = es1 := by
              rw [List.map_snd_zip]
              rw [hnm, pickL_len hp]
              exact Nat.le_refl _
            rw [l2]
            exact ru.up (vis_mono ext)
    · cases e'
end
/-! ### the __init__ of such a class -/
/-- what the written part says of the class at C and its __init__ at f -/
structure InitK (P : Program) (K : PySem.W.Frag) (mg : Str → Option Value) (N ps : List Str) (F : NF) (f C : Addr) : Prop where
  S : NScope N ps ["__class__"] F.scope
  lk : ∃ (oc doc pm ctv : Value) (od : Option Addr) (osl : Array (Option Value)), K.lookup f = some ⟨oc, od, .func (F.fd doc pm ctv), osl⟩ ∧ Binds K (F.fd doc pm ctv) ps []
  hcd : PySem.W.codeIn K (.ref F.c) F.qual = true
  cell : ∃ (cc : Addr) (cl : Value) (cld : Option Addr) (csl : Array (Option Value)), F.cl = [(("__class__" : Str), cc)] ∧ K.lookup cc = some ⟨cl, cld, .cell (some (.ref C)), csl⟩
  code : ∃ (ccl : Value) (cdd : Option Addr) (ccs : Array (Option Value)) (vs0 : Array Value) (file : Str) (tf : Tok), K.lookup F.c = some ⟨ccl, cdd, .fields vs0, ccs⟩ ∧ vs0[2]? = some (.str file tf) ∧ ((P.main.file : Str) == file) = true
  self : ∃ (ar : Arg) (qs : List Str), (F.params.posonlyargs ++ F.params.args).head? = some ar ∧ ps = ar.arg :: qs
  hsup : F.scope.names.lookup ("super" : Str) = some .globalImplicit
  hmg : mg "super" = none
  hC : ∃ cdC, PySem.W.clsIn K C = some cdC
  hsub : PySem.W.mroIn K C (.ref C) = some true
  hany : PySem.W.nsIn K cStatics "thirdparty.any" = some none
  hm : PySem.W.ks_superIn K C C "__init__" = some (some (.builtin "ValueError.__init__"))
  hB : PySem.W.subIn K (.ref C) (.type "ValueError") = some true
  htop : (P.main.scope.names.lookup ("super" : Str)).isSome = false
  T : OexC K C
/-- a message: it is a text, whatever the place is; t shows an int of few figures -/
def MsgOk (m : Expr) (N : List Str) (sc : Scope) (sh : Option Nat) : Prop := ∀ X : Cx, X.N = N → X.env.scope = sc → ∃ tm : TE, PE X m tm ∧ ∀ (σ : L2.St) (H : Hp) (Q : VK), (∀ i, sh = some i → ∃ j : Int, σ[i + 1]? = some (some (.int j)) ∧ 0 ≤ j ∧ j < 10 ^ 10) → (∀ v, Q v H) → tm σ H Q
theorem msg_str {N : List Str} {sc : Scope} {s : Str} {k : Nat} {p : Pos} : MsgOk (.Constant (.str s) k p) N sc none := fun X _ _ => ⟨tC (.str s), pe_str, fun σ H Q _ h => h _⟩
theorem len_fig {j : Int} (h0 : 0 ≤ j) (h1 : j < 10 ^ 10) : (Str.ofString (toString j)).length ≤ 10 := toString_length_le h0 (by decide) h1
theorem fmt_few {i : Nat} {σ : L2.St} {H : Hp} {Q : VK} {j : Int} (e : σ[i]? = some (some (.int j))) (h0 : 0 ≤ j) (h1 : j < 10 ^ 10) (h : Q (.str (Str.ofString (toString j))) H) : tFmt (tVar i) σ H Q := by
  refine ⟨_, e, .inr ⟨j, rfl, ?_, h⟩⟩
  by_cases z : j.natAbs = 0
  · rw [z]; decide
  · have : j.natAbs < 2 ^ 64 := by omega
    have := (Nat.log2_lt z).mpr this
    omega
theorem msg_fmt3 {N : List Str} {sc : Scope} {a b x : Str} {i k1 k2 : Nat} {p p1 p2 p3 p4 : Pos} (hN : N[i + 1]? = some x) (hv : Vis sc x) (hd : (x == ("__debug__" : Str)) = false) (hcd : (x == ("__classdict__" : Str)) = false) (la : a.length ≤ 1000) (lb : b.length ≤ 1000) :
    MsgOk (.JoinedStr [.Constant (.str a) k1 p1, .FormattedValue (.Name x p2) (-1) none p3, .Constant (.str b) k2 p4] p) N sc (some i) := fun X h1 h2 =>
  ⟨_, pe_joined (.cons pe_str (.cons (pe_fmt (pe_var (i := i + 1) (by rw [h1]; exact hN) (by rw [h2]; exact hv) hd hcd)) (.cons pe_str .nil))), fun σ H Q hs h => by
    obtain ⟨j, e, j0, j1⟩ := hs i rfl
    have lj := len_fig j0 j1
    have l0 : ∀ s : Str, (Str.empty ++ s).length = s.length := fun s => by rw [Str.length_append]; exact Nat.zero_add _
    refine ⟨a, rfl, ?_, fmt_few e j0 j1 ⟨_, rfl, ?_, b, rfl, ?_, h _⟩⟩
    · rw [Str.length_append, sizeLine_eq]; show 0 + a.length ≤ _; omega
    · rw [Str.length_append, Str.length_append, sizeLine_eq]; show 0 + a.length + _ ≤ _; omega
    · rw [Str.length_append, Str.length_append, Str.length_append, sizeLine_eq]; show 0 + a.length + _ + _ ≤ _; omega⟩
theorem msg_fmt2 {N : List Str} {sc : Scope} {a x : Str} {i k1 : Nat} {p p1 p2 p3 : Pos} (hN : N[i + 1]? = some x) (hv : Vis sc x) (hd : (x == ("__debug__" : Str)) = false) (hcd : (x == ("__classdict__" : Str)) = false) (la : a.length ≤ 1000) :
    MsgOk (.JoinedStr [.Constant (.str a) k1 p1, .FormattedValue (.Name x p2) (-1) none p3] p) N sc (some i) := fun X h1 h2 =>
  ⟨_, pe_joined (.cons pe_str (.cons (pe_fmt (pe_var (i := i + 1) (by rw [h1]; exact hN) (by rw [h2]; exact hv) hd hcd)) .nil)), fun σ H Q hs h => by
    obtain ⟨j, e, j0, j1⟩ := hs i rfl
    have lj := len_fig j0 j1
    refine ⟨a, rfl, ?_, fmt_few e j0 j1 ⟨_, rfl, ?_, h _⟩⟩
    · rw [Str.length_append, sizeLine_eq]; show 0 + a.length ≤ _; omega
    · rw [Str.length_append, Str.length_append, sizeLine_eq]; show 0 + a.length + _ ≤ _; omega⟩
section
variable {P : Program} {w : World} {K : PySem.W.Frag} {mg : Str → Option Value} {base : Heap} {F : NF} {f C : Addr} {k : Nat} {m : Expr} {p0 p1 p2 p3 p4 q0 q1 q2 q3 r0 r1 r2 r3 : Pos} {x0 x1 x2 f1 f2 : Str} {sh : Option Nat}
def mkInit (P : Program) (w : World) (K : PySem.W.Frag) (mg : Str → Option Value) (base : Heap) (k : Nat) (f C : Addr) (ps : List Str) (xd : XD) : Prop := ∃ fd, FnOk P w K mg base (L2.CX P w) (k + 1) f fd ps (XSp C xd) ∧ Binds K fd ps []
theorem init_one (I : InitK P K mg [x0, x1, "__class__"] [x0, x1] F f C) (hbody : F.body = [.Expr (.Call (.Attribute (.Call (.Name "super" p0) [] [] p1) "__init__" p2) [m] [] p3) p4, .Assign [.Attribute (.Name x0 q0) f1 q1] (.Name x1 q2) q3])
    (hm1 : ∀ env, starEach [m] env = (false, eval m env) :: starEach [] env) (hev : ∀ env : Env, ∃ pl : Sem Bool, eval (.Call (.Attribute (.Call (.Name "super" p0) [] [] p1) "__init__" p2) [m] [] p3) env = (do
      let ov ← attributeBase (.Call (.Name "super" p0) [] [] p1) "__init__" env (eval (.Call (.Name "super" p0) [] [] p1) env)
      standAt p2.atName
      let (g, first) ← holding [ov] (getMethod ov "__init__" pl)
      callWith p3 g first (backTo p3 (starEach [m] env)) [])) (hmsg : MsgOk m [x0, x1, "__class__"] F.scope sh) (hsh : ∀ i, sh = some i → i = 0) (hno : PySem.W.findIn K (.ref C) f1 = some none)
    (h0 : (x0 == ("__debug__" : Str)) = false ∧ (x0 == ("__classdict__" : Str)) = false) (h1 : (x1 == ("__debug__" : Str)) = false ∧ (x1 == ("__classdict__" : Str)) = false) : mkInit P w K mg base k f C [x0, x1] ⟨[f1], [0], sh, 1⟩ := by
  obtain ⟨oc, doc, pm, ctv, od, osl, lk, hb⟩ := I.lk
  obtain ⟨cc, cl, cld, csl, hcl, hcell⟩ := I.cell
  obtain ⟨ccl, cdd, ccs, vs0, file, tf, hcode, hvs, hfile⟩ := I.code
  obtain ⟨ar, qs, hself, hps⟩ := I.self
  obtain ⟨cdC, hC⟩ := I.hC
  refine ⟨_, init_fn I.S lk I.hcd hcl hbody hm1 hev hself hps I.hsup I.hmg hcode hvs hfile hcell hC I.hsub I.hany I.hm I.hB I.htop I.T (fun vs H Q E h => ?_) (fun A outer s H vs Q E hr h => ?_), hb⟩
  · obtain ⟨a, ys, us, rfl, hl, _⟩ := h
    show ys.length + 1 = 2
    have hl : ys.length = 1 := hl
    omega
  · obtain ⟨a, ys, us, rfl, hl, hs, hp, ha, q⟩ := h
    match ys, hl with
    | [y], _ =>
    cases hp
    obtain ⟨tm, hpe, htm⟩ := hmsg (ncx (L2.CX P w) P w K mg base [x0, x1, "__class__"] F f A outer s H E) rfl rfl
    refine ⟨a, [y], tm, _, rfl, ha, hpe, pss_one (ps_ost (pe_var (i := 0) rfl (.inl (I.S.par _ (by simp))) h0.1 h0.2) (pe_var (i := 1) rfl (.inl (I.S.par _ (by simp))) h1.1 h1.2)), ?_⟩
    refine htm _ _ _ (fun i hi => ?_) fun v => ⟨rfl, ha, ?_⟩
    · obtain ⟨j, e, j0⟩ := hs i hi
      have := hsh i hi
      subst this
      cases e
      exact ⟨j, rfl, j0⟩
    · refine ⟨y, rfl, .ref a, rfl, a, C, rfl, I.T, hno, .inl ⟨ha, fun dx n ne => ?_⟩⟩
      exact q dx _ n ne upd_same (by rw [upd_ne ne, upd_same]; rfl) fun b b1 b2 => by rw [upd_ne b1, upd_ne b2]
end
end Dl

namespace Dl
open PySem PySem.Spec PyProof.Rows L2 Evl

/-! ### try .. except C as e -/
def wipeS (i : Nat) : SRes → Option SRes
  | .nx e => some (.nx (e.set i none))
  | .bk e => some (.bk (e.set i none))
  | .ct e => some (.ct (e.set i none))
  | .rt fl d => some (.rt fl d)
  | .ex _ _ _ => none
open Classical in
/-- what does not depend on where the exception stands -/
noncomputable def pick (f : Addr → Addr → Option SRes) : Option SRes := if ∀ a dx, f a dx = f 0 0 then f 0 0 else none
theorem pick_at {f : Addr → Addr → Option SRes} {r : SRes} (h : pick f = some r) (a dx : Addr) : f a dx = some r := by
  unfold pick at h
  split at h
  · rename_i q
    exact (q a dx).trans h
  · cases h
theorem pick_of {f : Addr → Addr → Option SRes} {r : SRes} (h : ∀ a dx, f a dx = some r) : pick f = some r := by
  unfold pick
  rw [if_pos fun a dx => (h a dx).trans (h 0 0).symm]
  exact h 0 0
noncomputable def tryG (cl : Str → Option Bool) (i : Nat) (g : Ev → Option SRes) (h : Addr → Addr → Str → Ev → Option SRes) : Ev → Option SRes := fun env => match g env with
  | some (.ex env' c fs) => match cl c with
    | some true => pick fun a dx => (h a dx c (env'.set i (some (.xc a dx c fs)))).bind (wipeS i)
    | some false => some (.ex env' c fs)
    | none => none
  | r => r
section
variable {K : PySem.W.Frag} {mg : Str → Option Value} {H0 F H H1 H' : Hp} {O : Addr → Prop} {σ : L2.St} {env : Ev} {i : Nat} {a dx : Addr} {c : Str} {fs : List (Str × Dt)}
theorem SR.forget (S : SR K H0 F O σ H env) (i : Nat) : SR K H0 F O σ H (env.set i none) := by
  have at_ : ∀ (j : Nat) (s : Sl), (env.set i none)[j]? = some (some s) → env[j]? = some (some s) := fun j s q => by
    by_cases hj : i = j
    · subst hj
      rw [List.getElem?_set, if_pos rfl] at q
      split at q <;> cases q
    · rw [List.getElem?_set_ne hj] at q
      exact q
  exact ⟨S.hs, fun j s q => S.sl j s (at_ j s q), by simpa using S.len, fun j k ds es b h1 h2 => S.dis j k ds es b (at_ j _ h1) (at_ k _ h2)⟩
theorem SR.wipe1 (S : SR K H0 F O σ H env) (i : Nat) : SR K H0 F O (σ.set i none) H (env.set i none) := by
  have at_ : ∀ (j : Nat) (s : Sl), (env.set i none)[j]? = some (some s) → i ≠ j ∧ env[j]? = some (some s) := fun j s q => by
    by_cases hj : i = j
    · subst hj
      rw [List.getElem?_set, if_pos rfl] at q
      split at q <;> cases q
    · rw [List.getElem?_set_ne hj] at q
      exact ⟨hj, q⟩
  refine ⟨S.hs, fun j s q => ?_, by simpa using S.len, fun j k ds es b h1 h2 h3 h4 => ?_⟩
  · obtain ⟨n, q⟩ := at_ j s q
    have hh := S.sl j s q
    cases s with
    | sh d' => obtain ⟨u, h1, h2⟩ := hh; exact ⟨u, by rw [List.getElem?_set_ne n]; exact h1, h2⟩
    | ow ds' => obtain ⟨b, xs, h1, h2, h3⟩ := hh; exact ⟨b, xs, h1, by rw [List.getElem?_set_ne n]; exact h2, h3⟩
    | xc b dx c fs => exact ⟨by rw [List.getElem?_set_ne n]; exact hh.1, hh.2⟩
  · obtain ⟨n1, q1⟩ := at_ j _ h1
    obtain ⟨n2, q2⟩ := at_ k _ h2
    rw [List.getElem?_set_ne n1] at h3
    rw [List.getElem?_set_ne n2] at h4
    exact S.dis j k ds es b q1 q2 h3 h4
/-- the caught exception is kept by a name -/
theorem SR.catch (S : SR K H0 F O σ H1 env) (e : Ex H1 H') (x : Exc1 K (vis H0 F O H') H1 H' dx fs) : SR K H0 F O (σ.set i (some (.ref a))) H' (env.set i (some (.xc a dx c fs))) := by
  obtain ⟨vs, n, hx, r⟩ := x
  have S1 := S.mono e
  have hv : vis H0 F O H' dx = some (.xd ((fs.map (·.1)).zip vs)) := by
    unfold vis
    rw [if_neg (fun z => by obtain ⟨_, xs, y⟩ := S.hs.own dx z; rw [n] at y; cases y), if_pos (by
      cases q : H0 dx with
      | none => rfl
      | some o => have y := S.hs.ext _ _ q; rw [n] at y; cases y)]
    exact hx
  have at_ : ∀ (j : Nat) (ds : List Dt), (env.set i (some (.xc a dx c fs)))[j]? = some (some (.ow ds)) → i ≠ j ∧ env[j]? = some (some (.ow ds)) := fun j s q => by
    by_cases hj : i = j
    · subst hj
      rw [List.getElem?_set, if_pos rfl] at q
      split at q <;> cases q
    · rw [List.getElem?_set_ne hj] at q
      exact ⟨hj, q⟩
  refine ⟨S1.hs, fun j s q => ?_, by simpa using S1.len, fun j k ds es b h1 h2 h3 h4 => ?_⟩
  · by_cases hj : i = j
    · subst hj
      rw [List.getElem?_set, if_pos rfl] at q
      split at q
      · rename_i hlt
        cases q
        exact ⟨by rw [List.getElem?_set, if_pos rfl, if_pos (by rw [← S.len]; exact hlt)], vs, hv, r⟩
      · cases q
    · rw [List.getElem?_set_ne hj] at q
      have hh := S1.sl j s q
      cases s with
      | sh d' => obtain ⟨u, h1, h2⟩ := hh; exact ⟨u, by rw [List.getElem?_set_ne hj]; exact h1, h2⟩
      | ow ds' => obtain ⟨b, xs, h1, h2, h3⟩ := hh; exact ⟨b, xs, h1, by rw [List.getElem?_set_ne hj]; exact h2, h3⟩
      | xc b dx c fs => exact ⟨by rw [List.getElem?_set_ne hj]; exact hh.1, hh.2⟩
  · obtain ⟨n1, q1⟩ := at_ j _ h1
    obtain ⟨n2, q2⟩ := at_ k _ h2
    rw [List.getElem?_set_ne n1] at h3
    rw [List.getElem?_set_ne n2] at h4
    exact S1.dis j k ds es b q1 q2 h3 h4
end
section
variable {X : Cx} {E : SXK} {body suite : List Stmt} {b0 : Stmt} {np pos pos' : Pos} {x n : Str} {i : Nat} {g : Ev → Option SRes} {h : Addr → Addr → Str → Ev → Option SRes} {cl : Str → Option Bool} {cv : Value}
def EofW (W : WX) : SXK := fun σ c d H => W c d σ H
theorem JS_try (hs : X.stack = X.env :: X.outer) (hf : X.env.frame = some X.env.locals) (hN : X.N.Nodup) (hi : X.N[i]? = some n) (hln : X.env.kindOf n = some .local) (hc : L2.Names X x cv) (tk : Takes X fun c d σ H => E σ c d H)
    (hcl : ∀ c b, cl c = some b → ∀ C, X.mg c = some (.ref C) → PySem.W.exmOne X.K (.ref C) cv = some b)
    (hb : ∀ (W : WX) (pn : List (Addr × Obj)) (xe : Value → Shared → Prop), Takes (X.tr pn xe) W → PassesOwn (model X.prog X.w) X.A X.env xe → JSs (X.tr pn xe) (EofW W) body g)
    (hsu : ∀ (a : Addr) (oe : Obj) (c : Str) (C dx : Addr) (pn : List (Addr × Obj)), cl c = some true → X.mg c = some (.ref C) → Zc (.ref C) (some dx) oe → (∃ vs, oe.data = .fields vs) → JSs (X.suite a ((a, oe) :: pn)) (fun _ _ _ _ => False) (b0 :: suite) (h a dx c)) :
    JS X E (.Try body [.ExceptHandler (some (.Name x np)) (some n) (b0 :: suite) pos'] [] [] pos) (tryG cl i g h) := by
  refine ⟨impS (ps_try_as (tb := fun W => tS1 X.K X.mg (EofW W) g) (Wout := fun c d σ H => E σ c d H) (ts := fun a cls d D σ H => ∃ c C dx, cls = .ref C ∧ d = some dx ∧ cl c = some true ∧ X.mg c = some (.ref C) ∧ tS1 X.K X.mg (fun _ _ _ _ => False) (h a dx c) D σ H)
    hs hf hN hi hln hc tk (fun W pn xe t p => (hb W pn xe t p).run) (fun a oe cls d pn hz hv => ?_)) fun D σ H q => ?_⟩
  · refine ⟨fun pins s σ H D I q => ?_⟩
    obtain ⟨c, C, dx, rfl, rfl, q1, q2, q3⟩ := q
    exact (hsu a oe c C dx pn q1 q2 hz hv).run.run pins s σ H D I q3
  · obtain ⟨H0, F, O, env, r, S, e, P⟩ := q
    unfold tryG at e
    split at e
    · rename_i env' c fs qg
      refine ⟨H0, F, O, env, _, S, qg, fun σ' H1 O' S' e' C dx H' hm ext x => ?_⟩
      cases qc : cl c with
      | none => rw [qc] at e; cases e
      | some b =>
        rw [qc] at e
        refine ⟨b, hcl c b qc C hm, fun hbt a na => ?_, fun hbf => ?_⟩
        · subst hbt
          have e2 := pick_at e a dx
          cases qh : h a dx c (env'.set i (some (.xc a dx c fs))) with
          | none => rw [qh] at e2; cases e2
          | some r' =>
            rw [qh] at e2
            have e3 : wipeS i r' = some r := e2
            refine ⟨c, C, dx, rfl, rfl, qc, hm, H0, F, O', _, r', S'.catch ext x, qh, ?_⟩
            have ev : Ex (vis H0 F O H) (vis H0 F O' H') := e'.trans (vis_mono ext)
            cases r' with
            | nx e4 => cases e3; exact fun σ5 H5 O5 S5 w5 => P _ H5 O5 (S5.wipe1 i) (ev.trans w5)
            | bk e4 => cases e3; exact fun σ5 H5 O5 S5 w5 => P _ H5 O5 (S5.wipe1 i) (ev.trans w5)
            | ct e4 => cases e3; exact fun σ5 H5 O5 S5 w5 => P _ H5 O5 (S5.wipe1 i) (ev.trans w5)
            | rt fl d => cases e3; exact P
            | ex e4 c4 fs4 => cases e3
        · subst hbf
          cases e
          exact P σ' H1 O' S' e' C dx H' hm ext x
    · rename_i hn
      refine ⟨H0, F, O, env, r, S, e, ?_⟩
      cases r with
      | nx env' => exact P
      | bk env' => exact P
      | ct env' => exact P
      | rt fl d => exact P
      | ex env' c fs => exact absurd e (hn env' c fs)
end
end Dl

/-! ### isinstance of a caught error that has fields -/
namespace PySem.W
open PySem PySem.Spec PySem.Calls PyProof.Rows
section
variable {prog : Program} {w : World} {A : Around} {E : Value → Shared → Prop} {s : Shared} {K : Frag} {y G : Addr} {oy : Obj} {od : Option Obj}
theorem dl_findObj {name : Str} {a g : Value} (hc : (clsIn K G).isSome = true) (ha : findIn K (.ref G) name = some (some a)) (hg : specialIn K a "__get__" = some (some g)) (ht : takesIn K a = some true) : findObj K G od name = some (.bind g a) := by
  obtain ⟨cd, hc⟩ := Option.isSome_iff_exists.mp hc
  unfold findObj
  rw [hc, Option.bind_some, ha, Option.bind_some]
  simp [hg, ht]
theorem dl_class (C : L2.ExcC K G) (Y : K.In s.heap) (J : InstAt s.heap y oy G od) {R : Option Value → Shared → Prop} (r : R (some (.ref G)) { s with toks := s.toks + 1 }) : wpAny (model prog w) A (getAttr? (.ref y) "__class__") R E s := by
  have found : findObj K G od "__class__" = some (.bind (.builtin "getset_descriptor.__get__") (.builtin "object.__class__")) :=
    dl_findObj (by obtain ⟨cd, hc, _⟩ := any_some C.hd; rw [hc]; rfl) C.ha C.hn C.ht
  obtain ⟨hp, g, d, t, os⟩ := s
  have T0 := J.type (M := model prog w)
  have T1 := looks_findIn (M := model prog w) Y C.hg
  have T2 := looks_findIn (M := model prog w) Y C.hk
  have T3 := looks_find (M := model prog w) Y J found
  have isx : Looks (model prog w) hp (isInstance (.ref y) (.type "BaseException")) true := T0.andThen (looks_subIn Y C.hs)
  have z2 : (Value.builtin "BaseException.__getattribute__" == Value.builtin "object.__getattribute__") = false := by decide +kernel
  have z1 : (onTheHeap (Value.ref G) && Value.builtin "BaseException.__getattribute__" == Value.builtin "object.__getattribute__") = false := by rw [z2] <;> rfl
  unfold getAttr? getAttrBy? getAttrBy
  refine wpAny_bind (wpAny_mkText (wpAny_bind (wpAny_attempt (wpAny_holding (wpAny_bind (T0.at (wpAny_bind (T1.at ?_))))))))
  show wpAny _ _ (if (onTheHeap (Value.ref G) && Value.builtin "BaseException.__getattribute__" == Value.builtin "object.__getattribute__") = true then _ else _) _ _ _
  rw [z1, if_neg Bool.false_ne_true]
  unfold getAttrByItsOwn hookBefore
  refine wpAny_bind ?_
  rw [if_pos (show onTheHeap (Value.ref G) = true from rfl)]
  refine T2.at (wpAny_bind (wpAny_attempt (wpAny_holding ?_)))
  unfold callGetattribute
  rw [show (false && onTheHeap (Value.builtin "BaseException.__getattribute__")) = false from rfl, if_neg Bool.false_ne_true]
  unfold boundAndCalled
  rw [PySem.F.excAttr_ValueError.ga.bind (.ref y)]
  refine wpAny_bind (wpAny_pure ?_)
  show wpAny _ _ (call (.builtin "BaseException.__getattribute__") [.ref y, .str "__class__" t]) _ _ _
  refine wpAny_call (codeAny_call_builtin PySem.F.excAttr_ValueError.ga.plain PySem.F.entry_bexc_ga ?_)
  refine @check_slot (model prog w) _ _ ⟨hp, g, d, t + 1, os⟩ "BaseException.__getattribute__" "BaseException" "__getattribute__" (.ref y) [.str "__class__" t] [] _ (by decide +kernel) (by decide +kernel) isx (PySem.F.args_bexc_ga (.ref y) (.str "__class__" t)) ?_
  unfold Builtin.«object.__getattribute__»
  refine wpAny_bind (wpAny_of_eq (a := ((Value.ref y : Value), [Value.str "__class__" t])) (by first | rfl | (simp only [slotArgs]; rfl)) ?_)
  refine wpAny_bind (wpAny_pure (wpAny_bind (T0.at (wpAny_bind (T3.at ?_)))))
  show wpAny _ _ (holding [Value.builtin "object.__class__"] (call (.builtin "getset_descriptor.__get__") [.builtin "object.__class__", .ref y, .ref G]) >>= ret) _ _ _
  refine wpAny_bind (wpAny_holding (wpAny_call (class_get (s := ⟨hp, g, d, t + 1, os⟩) (ox := oy) (od := od) Y J C.hm ?_)))
  refine wpAny_pure ?_
  show wpAny _ _ (handedOut (.ref G)) _ _ _
  rw [handedOut_of (v := .ref G) rfl]
  first
    | exact wpAny_pure (wpAny_pure r)
    | exact wpAny_pure r
    | exact wpAny_pure (wpAny_bind (wpAny_pure (wpAny_pure r)))
theorem dl_kitx (C : L2.ExcC K G) : KitX K (.ref y) (.ref G) (fun h => InstAt h y oy G od) where
  ty := fun _ _ _ J => J.type
  it := fun _ _ Y _ => by
    obtain ⟨cdG, hcG, _⟩ := any_some C.hd
    unfold clsIn at hcG
    split at hcG
    · rename_i c' d' cd' sl' ho
      exact fun A' Q' E' s' k q => by
        unfold isType loadHead
        exact wpAny_bind (wpAny_loadPart (k _ _ (Y _ _ ho)) (wpAny_pure q))
    · cases hcG
  ne := fun h tp dd its n sl Y htp => by
    obtain ⟨cdG, hcG, _⟩ := any_some C.hd
    refine Bool.eq_false_iff.mpr fun q => ?_
    have e : G = tp := Value.ref.inj (beq_iff_eq.mp q)
    subst e
    unfold clsIn at hcG
    split at hcG
    · rename_i c' d' cd' sl' ho
      exact nomatch (Y _ _ ho).symm.trans htp
    · cases hcG
  ca := fun Y J k => dl_class C Y J k
end
end PySem.W
namespace Dl
open PySem PySem.Spec PyProof.Rows L2 Evl
section
variable {X : Cx} {a dx C D : Addr} {oe : Obj} {pn : List (Addr × Obj)} {E : SXK} {i : Nat} {e f c n : Str} {p p2 pos : Pos}
/-- the dict's object -/
theorem xd_obj {P : Program} {w : World} {H : Hp} {h : Heap} {fs : List (Str × V)} (hok : HOk P w H h) (e : H dx = some (.xd fs)) : ∃ od, h.get? dx = some od := by
  have hx : ObjOk P w H h dx (.xd fs) := hok dx _ e
  obtain ⟨mA, hns, hr⟩ := hx
  obtain ⟨od, ho, hl⟩ := lookIn_ns hns
  exact ⟨od, ho⟩
def rIsX (K : PySem.W.Frag) (C a dx : Addr) : List V → Hp → VK → Prop := fun xs H Q => ∃ (d : V) (cv : Value) (b : Bool) (fs : List (Str × V)), xs = [.ref a, d] ∧ H dx = some (.xd fs) ∧ (∀ u, RelV d u → u = cv) ∧ PySem.W.kitOne K (.ref C) cv = some b ∧ Q (.bl b) H
theorem call_isX (T : ExcC X.K C) (hz : Zc (.ref C) (some dx) oe) (hf : ∃ vs, oe.data = .fields vs) : CallR (X.suite a ((a, oe) :: pn)) (.builtin "isinstance") (rIsX X.K C a dx) := by
  intro pins s σ H xs us Q I r h
  obtain ⟨d, cv, b, fs, rfl, hd, hcv, e, q⟩ := h
  cases r with
  | cons rx rr =>
    cases rr with
    | cons rt rr =>
      cases rr
      cases rx
      have ec := hcv _ rt
      subst ec
      obtain ⟨hget, _⟩ := I.pin (a, oe) (List.mem_append.mpr (.inl List.mem_cons_self))
      obtain ⟨vs, hv⟩ := hf
      obtain ⟨od, ho⟩ := xd_obj I.hok hd
      have J : PySem.W.InstAt s.heap a oe C (some od) := ⟨hget, hz.1, by unfold PySem.W.notCls; rw [hv] <;> rfl, by rw [hz.2]; exact ho⟩
      exact PySem.W.kia_one (PySem.W.dl_kitx T) I.kIn J e (fun z => nomatch z) fun tk => ⟨.bl b, H, I.kept (t' := tk) fun _ _ z => z, rfl, q⟩
theorem xd_look {K : PySem.W.Frag} {W : Hp} {d : Dt} : ∀ {fs : List (Str × Dt)} {vs : List V}, Reps K W vs (fs.map (·.2)) → fs.lookup f = some d → ∃ v, ((fs.map (·.1)).zip vs).lookup f = some v ∧ Rep K W v d
  | [], _, _, h => by cases h
  | (g, d0) :: fs, vs, r, h => by
    cases r with
    | cons r1 rr =>
      rename_i v vs
      show ∃ u, List.lookup f ((g, v) :: ((fs.map (·.1)).zip vs)) = some u ∧ _
      rw [List.lookup_cons] at h ⊢
      split at h
      · cases h; exact ⟨v, rfl, r1⟩
      · exact xd_look rr h
def fldG (i : Nat) (a dx : Addr) (f : Str) : Ev → Option Res := fun env => match env[i]? with
  | some (some (.xc a' dx' _ fs)) => if a' = a ∧ dx' = dx then (fs.lookup f).map (.ok false) else none
  | _ => none
theorem J_fld (T : XfC X.K C) (hno : PySem.W.findIn X.K (.ref C) f = some none) (hz : Zc (.ref C) (some dx) oe) (hf : ∃ vs, oe.data = .fields vs) (he : PE (X.suite a ((a, oe) :: pn)) (.Name n p) (tVar i)) :
    J (X.suite a ((a, oe) :: pn)) E (.Attribute (.Name n p) f p2) (fldG i a dx f) := ⟨impE (pe_xf T hno hz hf he rfl) fun σ H Q q => by
  obtain ⟨H0, F, O, env, r, S, e, P⟩ := q
  unfold fldG at e
  split at e
  · rename_i a' dx' c' fs qe
    split at e
    · rename_i hc
      obtain ⟨rfl, rfl⟩ := hc
      cases ql : fs.lookup f with
      | none => rw [ql] at e; cases e
      | some d =>
        rw [ql] at e
        cases e
        obtain ⟨h1, vs, h2, h3⟩ := S.sl i _ qe
        obtain ⟨v, l1, l2⟩ := xd_look h3 ql
        exact ⟨_, h1, rfl, rfl, _, _, v, rfl, S.hs.vis _ _ h2, l1, P v H (Ex.refl H) (Val1.of l2)⟩
    · cases e
  · cases e⟩
def isxG (i : Nat) (a dx : Addr) (b : Bool) : Ev → Option Res := fun env => match env[i]? with
  | some (some (.xc a' dx' _ _)) => if a' = a ∧ dx' = dx then okB b else none
  | _ => none
theorem J_isx {d : V} {cv : Value} {b : Bool} {x2 : Str} {q0 q2 : Pos} (T : ExcC X.K C) (hz : Zc (.ref C) (some dx) oe) (hf : ∃ vs, oe.data = .fields vs) (he : PE (X.suite a ((a, oe) :: pn)) (.Name n p) (tVar i)) (hd : PE (X.suite a ((a, oe) :: pn)) (.Name x2 q2) (tC d)) (hcv : ∀ u, RelV d u → u = cv)
    (hk : PySem.W.kitOne X.K (.ref C) cv = some b) (hg : Gl (X.suite a ((a, oe) :: pn)) "isinstance") (hm : X.mg "isinstance" = none) : J (X.suite a ((a, oe) :: pn)) E (.Call (.Name "isinstance" q0) [.Name n p, .Name x2 q2] [] pos) (isxG i a dx b) :=
  ⟨impE (pe_callB (call_isX T hz hf) hg hm PyProof.Rows.boot_isinstance (pa_cons he (pa_cons hd pa_nil))) fun σ H Q q => by
  obtain ⟨H0, F, O, env, r, S, e, P⟩ := q
  unfold isxG at e
  split at e
  · rename_i a' dx' c' fs qe
    split at e
    · rename_i hc
      obtain ⟨rfl, rfl⟩ := hc
      cases e
      obtain ⟨h1, vs, h2, h3⟩ := S.sl i _ qe
      exact ⟨_, h1, d, cv, b, _, rfl, S.hs.vis _ _ h2, hcv, hk, P _ H (Ex.refl H) (.bl b)⟩
    · cases e
  · cases e⟩
end
end Dl

namespace Dl
open PySem PySem.Spec PyProof.Rows L2 Evl

/-! ### what the text's shape gives -/
def isStar : Expr → Bool
  | .Starred .. => true
  | _ => false
def isSl : Expr → Bool
  | .Slice .. => true
  | _ => false
def isSet : Expr → Bool
  | .Set .. => true
  | _ => false
def isLc : Expr → Bool
  | .ListComp .. | .SetComp .. | .DictComp .. => true
  | _ => false
def isCall : Expr → Bool
  | .Call .. => true
  | _ => false
def isTup : Expr → Bool
  | .Tuple .. => true
  | _ => false
theorem star_of {a : Expr} {es : List Expr} {env : Env} (h : isStar a = false) : starEach (a :: es) env = (false, eval a env) :: starEach es env := by
  cases a <;> first | rfl | (exact Bool.noConfusion h)
theorem plainSt {pos : Pos} {env : Env} : ∀ {es : List Expr}, es.all (fun e => !isStar e) = true → (backTo pos (starEach es env)).any (·.1) = false
  | [], _ => rfl
  | a :: es, h => by
    rw [List.all_cons, Bool.and_eq_true, Bool.not_eq_true'] at h
    rw [star_of h.1]
    show (false || (backTo pos (starEach es env)).any (·.1)) = false
    rw [plainSt h.2]
    rfl
theorem plainIx_of {b : Expr} (h : isSl b = false) : PlainIx b := by
  intro o i
  cases b <;> first | rfl | (exact Bool.noConfusion h)
theorem nofold_of {e : Expr} {env : Env} (h : isSet e = false) : ∀ x, foldedSetIterable e env x = pure x := by
  intro x
  cases e <;> first | rfl | (exact Bool.noConfusion h)
theorem nomarks_of {op : CmpOp} {e : Expr} (h : isSet e = false) : behindInMarks op e = false := by
  cases e <;> first | rfl | (exact Bool.noConfusion h)
theorem nolast_of {o1 o2 : CmpOp} {b c : Expr} (h : isSet c = false) : lastMarks [o1, o2] [b, c] = false := nomarks_of h
theorem noswap_of {e : Expr} {t : Option Expr} {l : Nat} {env : Env} (h : isLc e = false) : swapsWith e t l env = pure false := by
  cases e <;> first | rfl | (exact Bool.noConfusion h)
theorem base_of {o : Expr} {m : Str} {env : Env} {wh : Sem Value} (h : isCall o = false) : attributeBase o m env wh = wh := by
  cases o <;> first | rfl | (exact Bool.noConfusion h)
def plainT : Expr → Bool
  | .UnaryOp .Not _ _ => false
  | .BoolOp .. => false
  | .IfExp .. => false
  | .Compare .. => false
  | _ => true
theorem truth_of {a : Expr} {env : Env} (h : plainT a = true) : ∀ whole, isTrue a env whole = (do let v ← whole; standAt a.pos; holding [v] (truthy v)) := by
  intro whole
  cases a with
  | UnaryOp op x p => cases op <;> first | rfl | (exact Bool.noConfusion h)
  | _ => first | rfl | (exact Bool.noConfusion h)

/-! ### names -/
def ixOf : List Str → Str → Option Nat
  | [], _ => none
  | y :: r, x => if y = x then some 0 else (ixOf r x).map (· + 1)
theorem ixOf_get : ∀ {N : List Str} {x : Str} {i : Nat}, ixOf N x = some i → N[i]? = some x
  | [], _, _, e => by cases e
  | y :: r, x, i, e => by
    unfold ixOf at e
    split at e
    · rename_i h; cases e; rw [h]; rfl
    · cases q : ixOf r x with
      | none => rw [q] at e; cases e
      | some j => rw [q] at e; cases e; exact ixOf_get (N := r) q
def okName (x : Str) : Bool := !(x == ("__debug__" : Str)) && !(x == ("__classdict__" : Str)) && !decide (x = ("__name__" : Str))
def isVis (k : Option NameKind) : Bool := match k with
  | some .local | some .cell | some .free => true
  | _ => false
def isLoc (k : Option NameKind) : Bool := match k with
  | some .local | some .cell => true
  | _ => false
theorem vis_ofK {sc : Scope} {x : Str} (h : isVis (sc.names.lookup x) = true) : Vis sc x := by
  unfold Vis
  revert h
  cases sc.names.lookup x with
  | none => intro h; cases h
  | some k => cases k <;> intro h <;> first | (exact .inl rfl) | (exact .inr (.inl rfl)) | (exact .inr (.inr rfl)) | cases h
theorem loc_ofK {sc : Scope} {x : Str} (h : isLoc (sc.names.lookup x) = true) : L2.Loc sc x := by
  unfold L2.Loc
  revert h
  cases sc.names.lookup x with
  | none => intro h; cases h
  | some k => cases k <;> intro h <;> first | (exact .inl rfl) | (exact .inr rfl) | cases h
/-- the scope of a comprehension's block that runs within sc -/
def relab (scope sc : Scope) : Scope :=
  { scope with names := scope.names.map fun (n, k) => if (k == .free && sc.kind == .function && sc.names.lookup n == some .cell) then (n, .cell) else (n, k) }
theorem relab_eq {scope : Scope} {cl : List (Str × Addr)} {C : Addr} {env : Env} : (compEnvC scope cl C env).scope = relab scope env.scope := rfl

/-! ### a context -/
/-- a caught error: its name, its slot, where it and its dict stand, its class -/
structure XV where
  nm : Str
  i : Nat
  a : Addr
  dx : Addr
  c : Str
structure Cc where
  N : List Str
  fns : List Str
  fnq : List Str
  hnd : List Str
  scal : List Str
  consts : Str → Option Dt
  gcd : Bool
  frz : Nat → List Nat
  wf : Nat
  hot : Bool
  excs : List (Str × XD)
  ctch : Str → Str → Option Bool
  isx : Str → Str → Bool
  isxD : List Str
  xfl : List Str
  xv : Option XV
/-- within the suite of `except C as e` -/
def Cc.suite (C : Cc) (v : XV) : Cc := { C with hot := true, xv := some v, fns := C.fnq }
/-- what the suite may do with its error -/
structure XvOk (C : Cc) (X : Cx) (v : XV) : Prop where
  fld : ∀ {E : SXK} (f : Str) (p p2 : Pos), f ∈ C.xfl → J X E (.Attribute (.Name v.nm p) f p2) (fldG v.i v.a v.dx f)
  isx : ∀ {E : SXK} (D : Str) (p q0 q2 pos : Pos), Gl X "isinstance" → Gl X D → D ∈ C.isxD → J X E (.Call (.Name "isinstance" q0) [.Name v.nm p, .Name D q2] [] pos) (isxG v.i v.a v.dx (C.isx v.c D))
def bltNames : List Str := ["len", "int", "abs", "max", "min", "list", "tuple", "sum", "all", "any", "isinstance", "range", "enumerate", "zip", "bool", "str"]
structure XOk (C : Cc) (G : Str → List Dt → Option Res) (sc : Scope) (X : Cx) (E : SXK) : Prop where
  calm : C.hot = false → X.calm = true
  nd : X.N.Nodup
  hN : X.N = C.N
  sc : X.env.scope = sc
  pass : ∀ σ, PassesAt (L2.CX X.prog X.w) X σ (E σ)
  hu : X.A.units + 64 < cLine
  xvr : ∀ v, C.xv = some v → C.hot = true ∧ XvOk C X v
  fns : ∀ x ∈ C.fns, ∃ k f fd ps, ((C.hot = false ∧ FnOk X.prog X.w X.K X.mg X.base (L2.CX X.prog X.w) k f fd ps (PSp X.K X.mg (G x)) ∧ Room k X.A) ∨ (C.hot = true ∧ FnQ X.prog X.w X.K X.mg X.base (L2.CX X.prog X.w) k f fd ps (PSp X.K X.mg (G x)) ∧ L2H.RoomH k X.A)) ∧ X.mg x = some (.ref f) ∧ PySem.W.keepIn X.K (.ref f) = true ∧ Binds X.K fd ps []
  blt : ∀ x ∈ bltNames, X.mg x = none
  gcd : C.gcd = true → X.mg "gcd" = some (.builtin "math.gcd")
  cst : ∀ x d, C.consts x = some d → isCst d = true ∧ ∃ u, X.mg x = some u ∧ RelV (cstV d) u
theorem XOk.blk {C : Cc} {G : Str → List Dt → Option Res} {sc : Scope} {X : Cx} {E : SXK} (h : XOk C G sc X E) (hh : C.hot = false) (s : Shared) (H : Hp) (scope : Scope) (A : Addr) (cl : List (Str × Addr)) (fp : List Addr) :
    XOk C G (relab scope sc) (X.blk s H scope (compEnvC scope cl A X.env) fp) E0x :=
  ⟨h.calm, h.nd, h.hN, by rw [relab_eq, h.sc], fun σ pins H s e s' I c => passL pins σ H s e s' I c, h.hu, fun v z => absurd (hh.symm.trans (h.xvr v z).1) Bool.false_ne_true, h.fns, h.blt, h.gcd, h.cst⟩

/-! ### from the text to functions on data -/
def constD : Const → Option Dt
  | .none => some .non
  | .bool b => some (.bl b)
  | .int i => some (.int i)
  | .str x => some (.str x)
  | _ => none
def binD : Operator → Option (Dt → Dt → Option Res)
  | .Add => some addD
  | .Sub => some subD
  | .Mult => some mulD
  | .FloorDiv => some fdivD
  | .Mod => some modD
  | .Pow => some powD
  | _ => none
def cmpD : CmpOp → Option (Dt → Dt → Option Res)
  | .Eq => some eqD
  | .NotEq => some neD
  | .Lt => some ltD
  | .LtE => some leD
  | .Gt => some gtD
  | .GtE => some geD
  | .In => some inD
  | .NotIn => some notInD
  | .Is => some isD
  | .IsNot => some isNotD
/-- built-ins that are called by their names: a type or a function, the number of arguments -/
inductive BK where
  | ty (T : String) (g : List Dt → Option Res)
  | fn (id : String) (g : List Dt → Option Res)
def bltTab : List (Str × Nat × BK) := [("len", 1, .fn "len" lenD), ("int", 1, .ty "int" intD), ("abs", 1, .fn "abs" absD), ("max", 2, .fn "max" max2D), ("min", 2, .fn "min" min2D), ("list", 1, .ty "list" listD), ("tuple", 1, .ty "tuple" tupleD),
  ("sum", 1, .fn "sum" sumD), ("all", 1, .fn "all" allD), ("any", 1, .fn "any" anyD), ("isinstance", 2, .fn "isinstance" isiD)]
def bltD (x : Str) (n : Nat) : Option BK := (bltTab.find? fun r => r.1 == x && r.2.1 == n).map (·.2.2)
def hotTab : List (Str × Nat × BK) := [("len", 1, .fn "len" lenD), ("int", 1, .ty "int" intD), ("abs", 1, .fn "abs" absD), ("isinstance", 2, .fn "isinstance" isiD)]
def bltDh (hot : Bool) (x : Str) (n : Nat) : Option BK := if hot = true then (hotTab.find? fun r => r.1 == x && r.2.1 == n).map (·.2.2) else bltD x n
def tyTab : List (Str × String) := [("int", "int"), ("bool", "bool"), ("list", "list"), ("tuple", "tuple"), ("str", "str")]
def tyD (x : Str) : Option String := (tyTab.find? fun r => r.1 == x).map (·.2)
def ownOf (N : List Str) (scope : Scope) : List (Str × Nat) := scope.names.filterMap fun (n, k) => if k == .local then (ixOf N n).map fun i => (n, i) else none
/-- a target of names that are local -/
def tgtN (N : List Str) (sc : Scope) (ok : NameKind → Bool) : Expr → Option Nat
  | .Name x _ => match sc.names.lookup x with
    | some k => if ok k = true then ixOf N x else none
    | none => none
  | _ => none
def tgtNs (N : List Str) (sc : Scope) (ok : NameKind → Bool) : List Expr → Option (List Nat)
  | [] => some []
  | e :: es => (tgtN N sc ok e).bind fun j => (tgtNs N sc ok es).map (j :: ·)
def tgtOf (N : List Str) (sc : Scope) (ok : NameKind → Bool) : Expr → Option Tgt
  | .Name x p => (tgtN N sc ok (.Name x p)).map .nm
  | .Tuple es _ _ => (tgtNs N sc ok es).map .tp
  | _ => none
def isLk : NameKind → Bool
  | .local => true
  | _ => false
def isLc2 : NameKind → Bool
  | .local | .cell => true
  | _ => false
def fldOf (C : Cc) (x f : Str) : Option XV := C.xv.bind fun v => if x = v.nm ∧ f ∈ C.xfl then some v else none
def isxOf (C : Cc) (sc : Scope) (x : Str) : List Expr → Option (XV × Str)
  | [.Name y _, .Name D _] => C.xv.bind fun v => if x = ("isinstance" : Str) ∧ y = v.nm ∧ sc.names.lookup ("isinstance" : Str) = some .globalImplicit ∧ sc.names.lookup D = some .globalImplicit ∧ D ∈ C.isxD then some (v, D) else none
  | _ => none
variable (C : Cc) (G : Str → List Dt → Option Res)
def cmpName (sc : Scope) (x : Str) : Option (Nat ⊕ Dt) := if okName x = true then
    if isVis (sc.names.lookup x) = true then (ixOf C.N x).map .inl
    else if sc.names.lookup x = some .globalImplicit then match C.consts x with
      | some d => some (.inr d)
      | none => (tyD x).map fun T => .inr (.ty T)
    else none
  else none
def asStrs : List Dt → Option (List Str)
  | [] => some []
  | .str i :: r => (asStrs r).map (i :: ·)
  | _ => none
def joinD (a : Str) : Dt → Option Res
  | .lst ds => (asStrs ds).bind fun (ys : List Str) => if ((ys.map fun (y : Str) => y.length).sum + ys.length * a.length ≤ 16777216) then okS (Txt.join a ys) else none
  | _ => none
def findD (a : Str) : Dt → Option Res
  | .str b => okI (Txt.find a b)
  | _ => none
def methG (g : Str → Dt → Option Res) (f h : Ev → Option Res) : Ev → Option Res := fun env => bnd (f env) fun _ d => match d with
  | .str z => bnd (h env) fun _ x => g z x
  | _ => none
def methD (m : Str) : Option (Str → Dt → Option Res) := if m = ("join" : Str) then some joinD else if m = ("find" : Str) then some findD else none
/-- the name that is called, and what with -/
def nmOf : Expr → Option Str
  | .Call (.Name x _) _ [] _ => some x
  | _ => none
def agOf : Expr → List Expr
  | .Call _ as _ _ => as
  | _ => []
def boG : BoolOp → (Ev → Option Res) → (Ev → Option Res) → Ev → Option Res
  | .And, f, h => andG f h
  | .Or, f, h => orG f h
mutual
/-- an expression; an operand; a test; arguments; operands as arguments; what a loop, a comprehension walks; a comprehension's tests -/
def cmpE : Nat → Scope → Expr → Option (Ev → Option Res)
  | 0, _, _ => none
  | n + 1, sc, e => match e with
    | .Name x _ => (cmpName C sc x).map fun r => match r with
      | .inl i => varG i
      | .inr d => cstG d
    | .Constant c _ _ => (constD c).map cstG
    | .BinOp a op b _ => (binD op).bind fun g => (cmpB n sc a).bind fun f => (cmpB n sc b).map fun h => op2G g f h
    | .UnaryOp .USub a _ => (cmpB n sc a).map (op1G negD)
    | .UnaryOp .Not a _ => (cmpB n sc a).map (op1G notD)
    | .BoolOp _ [a] _ => cmpE n sc a
    | .BoolOp op (a :: b :: r) p => (cmpE n sc a).bind fun f => (cmpE n sc (.BoolOp op (b :: r) p)).map fun h => boG op f h
    | .Compare a [op] [b] _ => if isSet b = true then none else (cmpD op).bind fun g => (cmpB n sc a).bind fun f => (cmpB n sc b).map fun h => op2G g f h
    | .Compare a [o1, o2] [b, c] _ => if isSet c = true then none else (cmpD o1).bind fun g => (cmpD o2).bind fun g' => (cmpB n sc a).bind fun f => (cmpB n sc b).bind fun h => (cmpB n sc c).map fun k => chainG g g' f h k
    | .IfExp c a b _ => (cmpT n sc c).bind fun f => (cmpE n sc a).bind fun g => (cmpE n sc b).map fun h => selG f g h
    | .Subscript a (.Slice lo hi none _) _ => (cmpB n sc a).bind fun f => (cmpO n sc lo).bind fun l => (cmpO n sc hi).map fun h => slG f l h
    | .Subscript a b _ => if isSl b = true then none else (cmpB n sc a).bind fun f => (cmpB n sc b).map fun h => op2G ixD f h
    | .List es _ => (cmpA n sc es).map (onG lstD)
    | .Tuple es _ _ => (cmpA n sc es).map (onG tupD)
    | .ListComp elt [⟨tg, iter, ifs, 0⟩] scope _ =>
      if C.hot = false ∧ blkC C.N sc scope (ownOf C.N scope) = true ∧ isSet iter = false then (tgtOf C.N (relab scope sc) isLk tg).bind fun t => (cmpIC n sc tg iter).bind fun fi => (cmpTs n (relab scope sc) ifs).bind fun ft => (cmpE n (relab scope sc) elt).bind fun fe =>
        if t.js.all (fun j => decide (j ∈ (ownOf C.N scope).map (·.2))) = true then some (lcG ((ownOf C.N scope).map (·.2)) fi t ft fe) else none
      else none
    | .Attribute (.Name x _) f _ => (fldOf C x f).map fun v => fldG v.i v.a v.dx f
    | .Call (.Name x _) args [] _ => if (isxOf C sc x args).isSome = true then (isxOf C sc x args).map fun r => isxG r.1.i r.1.a r.1.dx (C.isx r.1.c r.2) else if okName x = true ∧ sc.names.lookup x = some .globalImplicit ∧ args.all (fun e => !isStar e) = true then
        if x ∈ C.fns then match args with
          | [] => if C.hot = true then none else some fun _ => G x []
          | a :: es => if x ∈ C.scal then (cmpAB n sc (a :: es)).map (onG (scD (G x))) else (cmpA n sc (a :: es)).map (onG (G x))
        else if x = ("gcd" : Str) ∧ C.gcd = true then match args with
          | a :: es => (cmpAB n sc (a :: es)).map (onG gcdD)
          | [] => none
        else match bltDh C.hot x args.length, args with
          | some (.ty _ g), a :: es => (cmpAB n sc (a :: es)).map (onG g)
          | some (.fn _ g), a :: es => (cmpAB n sc (a :: es)).map (onG g)
          | _, _ => none
      else none
    | .Call (.Attribute o m ap) [a] [] p => if isCall o = false ∧ (ap.endLine == p.line) = true ∧ isStar a = false then (methD m).bind fun g => (cmpB n sc o).bind fun f => (cmpB n sc a).map fun h => methG g f h else none
    | _ => none
def cmpB : Nat → Scope → Expr → Option (Ev → Option Res)
  | 0, _, _ => none
  | n + 1, sc, e => match e with
    | .Name x _ => (cmpName C sc x).map fun r => match r with
      | .inl i => varB i
      | .inr d => cstG d
    | e => cmpE n sc e
def cmpT : Nat → Scope → Expr → Option (Ev → Option Res)
  | 0, _, _ => none
  | n + 1, sc, e => match e with
    | .BoolOp _ [a] _ => cmpT n sc a
    | .BoolOp op (a :: b :: r) p => (cmpT n sc a).bind fun f => (cmpT n sc (.BoolOp op (b :: r) p)).map fun h => boG op f h
    | .UnaryOp .Not a _ => (cmpT n sc a).map notG
    | .Compare a [op] [b] _ => if isSet b = true then none else (cmpD op).bind fun g => (cmpB n sc a).bind fun f => (cmpB n sc b).map fun h => op2G g f h
    | .Compare a [o1, o2] [b, c] _ => if isSet c = true then none else (cmpD o1).bind fun g => (cmpD o2).bind fun g' => (cmpB n sc a).bind fun f => (cmpB n sc b).bind fun h => (cmpB n sc c).map fun k => chainG g g' f h k
    | e => if plainT e = true then (cmpB n sc e).map (op1G truD) else none
def cmpO : Nat → Scope → Option Expr → Option (Option (Ev → Option Res))
  | 0, _, _ => none
  | _ + 1, _, none => some none
  | n + 1, sc, some e => (cmpB n sc e).map some
def cmpA : Nat → Scope → List Expr → Option (Ev → Option Res)
  | 0, _, _ => none
  | _ + 1, _, [] => some argN
  | n + 1, sc, e :: es => if isStar e = true then none else (cmpE n sc e).bind fun f => (cmpA n sc es).map (argC f)
def cmpAB : Nat → Scope → List Expr → Option (Ev → Option Res)
  | 0, _, _ => none
  | _ + 1, _, [] => some argN
  | n + 1, sc, e :: es => if isStar e = true then none else (cmpB n sc e).bind fun f => (cmpAB n sc es).map (argC f)
def cmpIt : Nat → Scope → Expr → Expr → Option (Ev → Option Res)
  | 0, _, _, _ => none
  | n + 1, sc, tg, e =>
    if (nmOf e) = some ("range" : Str) ∧ sc.names.lookup ("range" : Str) = some .globalImplicit ∧ (agOf e).all (fun e => !isStar e) = true then
      if (agOf e).length = 1 then (cmpAB n sc (agOf e)).map (onG rng1D) else if (agOf e).length = 2 then (cmpAB n sc (agOf e)).map (onG rng2D) else none
    else if (nmOf e) = some ("enumerate" : Str) ∧ sc.names.lookup ("enumerate" : Str) = some .globalImplicit ∧ (agOf e).all (fun e => !isStar e) = true ∧ (agOf e).length = 1 ∧ isTup tg = true then (cmpA n sc (agOf e)).map (onG enumD)
    else if (nmOf e) = some ("zip" : Str) ∧ sc.names.lookup ("zip" : Str) = some .globalImplicit ∧ (agOf e).all (fun e => !isStar e) = true ∧ (agOf e).length = 2 ∧ isTup tg = true then (cmpA n sc (agOf e)).map (onG zip2D)
    else (cmpE n sc e).map itG
def cmpIC : Nat → Scope → Expr → Expr → Option (Ev → Option Res)
  | 0, _, _, _ => none
  | n + 1, sc, tg, e =>
    if (nmOf e) = some ("range" : Str) ∧ sc.names.lookup ("range" : Str) = some .globalImplicit ∧ (agOf e).all (fun e => !isStar e) = true then
      if (agOf e).length = 1 then (cmpAB n sc (agOf e)).map (onG rng1D) else if (agOf e).length = 2 then (cmpAB n sc (agOf e)).map (onG rng2D) else none
    else if (nmOf e) = some ("enumerate" : Str) ∧ sc.names.lookup ("enumerate" : Str) = some .globalImplicit ∧ (agOf e).all (fun e => !isStar e) = true ∧ (agOf e).length = 1 ∧ isTup tg = true then (cmpAB n sc (agOf e)).map (onG enumD)
    else if (nmOf e) = some ("zip" : Str) ∧ sc.names.lookup ("zip" : Str) = some .globalImplicit ∧ (agOf e).all (fun e => !isStar e) = true ∧ (agOf e).length = 2 ∧ isTup tg = true then (cmpAB n sc (agOf e)).map (onG zip2D)
    else (cmpB n sc e).map itG
def cmpTs : Nat → Scope → List Expr → Option (Ev → Option Res)
  | 0, _, _ => none
  | _ + 1, _, [] => some (bG true)
  | n + 1, sc, [c] => cmpT n sc c
  | _ + 1, _, _ => none
end
end Dl

namespace Dl
open PySem PySem.Spec PyProof.Rows L2 Evl

section
variable {X : Cx} {C : Cc} {G : Str → List Dt → Option Res} {sc : Scope} {E : SXK}
theorem bin_ok : ∀ {op : Operator} {g : Dt → Dt → Option Res}, binD op = some g → Op2 X (binaryOp op) g
  | .Add, _, h => Option.some.inj h ▸ o_add
  | .Sub, _, h => Option.some.inj h ▸ o_sub
  | .Mult, _, h => Option.some.inj h ▸ o_mul
  | .FloorDiv, _, h => Option.some.inj h ▸ o_fdiv
  | .Mod, _, h => Option.some.inj h ▸ o_mod
  | .Pow, _, h => Option.some.inj h ▸ o_pow
theorem cmp_okD (hu : X.A.units + 64 < cLine) : ∀ {op : CmpOp} {g : Dt → Dt → Option Res}, cmpD op = some g → Op2 X (compareOp op) g
  | .Eq, _, h => Option.some.inj h ▸ o_eq hu
  | .NotEq, _, h => Option.some.inj h ▸ o_ne hu
  | .Lt, _, h => Option.some.inj h ▸ o_lt
  | .LtE, _, h => Option.some.inj h ▸ o_le
  | .Gt, _, h => Option.some.inj h ▸ o_gt
  | .GtE, _, h => Option.some.inj h ▸ o_ge
  | .In, _, h => Option.some.inj h ▸ o_in
  | .NotIn, _, h => Option.some.inj h ▸ o_notIn
  | .Is, _, h => Option.some.inj h ▸ o_is
  | .IsNot, _, h => Option.some.inj h ▸ o_isnot
theorem gl_of (h : XOk C G sc X E) {x : Str} (k : sc.names.lookup x = some .globalImplicit) : Gl X x := by
  show X.env.scope.names.lookup x = _
  rw [h.sc]
  exact k
theorem okName_of {x : Str} (h : okName x = true) : (x == ("__debug__" : Str)) = false ∧ (x == ("__classdict__" : Str)) = false ∧ x ≠ "__name__" := by
  unfold okName at h
  rw [Bool.and_eq_true, Bool.and_eq_true, Bool.not_eq_true', Bool.not_eq_true', Bool.not_eq_true', decide_eq_false_iff_not] at h
  exact ⟨h.1.1, h.1.2, h.2⟩
def BKok (X : Cx) (x : Str) : BK → Prop
  | .ty T g => bootBuiltins x = some (.type T) ∧ CallD X (.type T) g
  | .fn id g => bootBuiltins x = some (.builtin id) ∧ CallD X (.builtin id) g
theorem tab_names : (bltTab.all fun r => bltNames.contains r.1) = true := by decide +kernel
theorem tyt_names : (tyTab.all fun r => bltNames.contains r.1) = true := by decide +kernel
theorem tab_ok (hc : X.calm = true) : ∀ r ∈ bltTab, BKok X r.1 r.2.2 := by
  unfold bltTab
  refine List.forall_mem_cons.mpr ⟨⟨PySem.boot_len, c_len⟩, ?_⟩
  refine List.forall_mem_cons.mpr ⟨⟨PyProof.Rows.boot_int, c_int⟩, ?_⟩
  refine List.forall_mem_cons.mpr ⟨⟨PyProof.Rows.boot_abs, c_abs⟩, ?_⟩
  refine List.forall_mem_cons.mpr ⟨⟨PyProof.Rows.boot_max, c_max2 hc⟩, ?_⟩
  refine List.forall_mem_cons.mpr ⟨⟨PyProof.Rows.boot_min, c_min2 hc⟩, ?_⟩
  refine List.forall_mem_cons.mpr ⟨⟨PyProof.Rows.boot_list, c_list⟩, ?_⟩
  refine List.forall_mem_cons.mpr ⟨⟨PyProof.Rows.boot_tuple, c_tuple⟩, ?_⟩
  refine List.forall_mem_cons.mpr ⟨⟨PyProof.Rows.boot_sum, c_sum hc⟩, ?_⟩
  refine List.forall_mem_cons.mpr ⟨⟨PyProof.Rows.boot_all, c_all hc⟩, ?_⟩
  refine List.forall_mem_cons.mpr ⟨⟨PyProof.Rows.boot_any, c_any hc⟩, ?_⟩
  refine List.forall_mem_cons.mpr ⟨⟨PyProof.Rows.boot_isinstance, c_isi⟩, ?_⟩
  exact fun r h => absurd h (List.not_mem_nil)
theorem hot_names : (hotTab.all fun r => bltNames.contains r.1) = true := by decide +kernel
theorem hot_ok : ∀ r ∈ hotTab, BKok X r.1 r.2.2 := by
  unfold hotTab
  refine List.forall_mem_cons.mpr ⟨⟨PySem.boot_len, c_len⟩, ?_⟩
  refine List.forall_mem_cons.mpr ⟨⟨PyProof.Rows.boot_int, c_int⟩, ?_⟩
  refine List.forall_mem_cons.mpr ⟨⟨PyProof.Rows.boot_abs, c_abs⟩, ?_⟩
  refine List.forall_mem_cons.mpr ⟨⟨PyProof.Rows.boot_isinstance, c_isi⟩, ?_⟩
  exact fun r h => absurd h (List.not_mem_nil)
theorem tyt_ok : ∀ r ∈ tyTab, bootBuiltins r.1 = some (.type r.2) := by
  unfold tyTab
  refine List.forall_mem_cons.mpr ⟨PyProof.Rows.boot_int, ?_⟩
  refine List.forall_mem_cons.mpr ⟨PyProof.Rows.boot_bool, ?_⟩
  refine List.forall_mem_cons.mpr ⟨PyProof.Rows.boot_list, ?_⟩
  refine List.forall_mem_cons.mpr ⟨PyProof.Rows.boot_tuple, ?_⟩
  refine List.forall_mem_cons.mpr ⟨PyProof.Rows.boot_str, ?_⟩
  exact fun r h => absurd h (List.not_mem_nil)
theorem ty_ok {x : Str} {T : String} (h : tyD x = some T) : bootBuiltins x = some (.type T) ∧ x ∈ bltNames := by
  unfold tyD at h
  cases q : tyTab.find? fun r => r.1 == x with
  | none => rw [q] at h; cases h
  | some r =>
    rw [q] at h
    cases h
    have hx : r.1 = x := by
      have z := List.find?_some q
      simpa using z
    have hm := List.mem_of_find?_eq_some q
    subst hx
    have z := List.all_eq_true.mp tyt_names r hm
    exact ⟨tyt_ok r hm, by simpa using z⟩
theorem blt_ok (hc : X.calm = true) {x : Str} {n : Nat} {b : BK} (h : bltD x n = some b) : x ∈ bltNames ∧ BKok X x b := by
  unfold bltD at h
  cases q : bltTab.find? fun r => r.1 == x && r.2.1 == n with
  | none => rw [q] at h; cases h
  | some r =>
    rw [q] at h
    cases h
    have hx : r.1 = x := by
      have z := List.find?_some q
      rw [Bool.and_eq_true] at z
      simpa using z.1
    have hm := List.mem_of_find?_eq_some q
    subst hx
    have z := List.all_eq_true.mp tab_names r hm
    exact ⟨by simpa using z, tab_ok hc r hm⟩
theorem blth_ok {hot : Bool} (hc : hot = false → X.calm = true) {x : Str} {n : Nat} {b : BK} (h : bltDh hot x n = some b) : x ∈ bltNames ∧ BKok X x b := by
  unfold bltDh at h
  cases hot with
  | false => exact blt_ok (hc rfl) h
  | true =>
    rw [if_pos rfl] at h
    cases q : hotTab.find? fun r => r.1 == x && r.2.1 == n with
    | none => rw [q] at h; cases h
    | some r =>
      rw [q] at h
      cases h
      have hx : r.1 = x := by
        have z := List.find?_some q
        rw [Bool.and_eq_true] at z
        simpa using z.1
      have hm := List.mem_of_find?_eq_some q
      subst hx
      have z := List.all_eq_true.mp hot_names r hm
      exact ⟨by simpa using z, hot_ok r hm⟩
theorem name_pe (h : XOk C G sc X E) {x : Str} {p : Pos} {i : Nat} (e : cmpName C sc x = some (.inl i)) : PE X (.Name x p) (tVar i) := by
  unfold cmpName at e
  split at e
  · rename_i hn
    obtain ⟨h1, h2, _⟩ := okName_of hn
    split at e
    · rename_i hv
      cases q : ixOf C.N x with
      | none => rw [q] at e; cases e
      | some j =>
        rw [q] at e
        cases e
        refine pe_var (by rw [h.hN]; exact ixOf_get q) ?_ h1 h2
        rw [h.sc]
        exact vis_ofK hv
    · split at e
      · split at e
        · cases e
        · cases q : tyD x with
          | none => rw [q] at e; cases e
          | some T => rw [q] at e; cases e
      · cases e
  · cases e
theorem name_cst (h : XOk C G sc X E) {x : Str} {p : Pos} {d : Dt} (e : cmpName C sc x = some (.inr d)) : J X E (.Name x p) (cstG d) := by
  unfold cmpName at e
  split at e
  · rename_i hn
    obtain ⟨h1, h2, h3⟩ := okName_of hn
    split at e
    · cases q : ixOf C.N x with
      | none => rw [q] at e; cases e
      | some j => rw [q] at e; cases e
    · split at e
      · rename_i hk
        have hg := gl_of h hk
        split at e
        · rename_i d' q
          cases e
          obtain ⟨c1, u, c2, c3⟩ := h.cst x d q
          exact J_cst (pe_glob hg c2 c3 h1) c1
        · cases q : tyD x with
          | none => rw [q] at e; cases e
          | some T =>
            rw [q] at e
            cases e
            obtain ⟨b1, b2⟩ := ty_ok q
            exact J_cst (pe_bltn (v := .ty T) hg (h.blt x b2) b1 rfl h3 h1) rfl
      · cases e
  · cases e
theorem J_const {c : Const} {k : Nat} {p : Pos} {d : Dt} (h : constD c = some d) : J X E (.Constant c k p) (cstG d) := by
  cases c <;> first
    | (cases h; done)
    | (cases h; first | exact J_cst pe_non rfl | exact J_cst pe_bl rfl | exact J_cst pe_int rfl | exact J_cst pe_str rfl)
/-- methods of texts -/
theorem asStrs_eq : ∀ {ds : List Dt} {ns : List Str}, asStrs ds = some ns → ds = ns.map Dt.str
  | [], ns, e => by cases e; rfl
  | d :: r, ns, e => by
    cases d with
    | str i =>
      have e' : (asStrs r).map (i :: ·) = some ns := e
      cases q : asStrs r with
      | none => rw [q] at e'; cases e'
      | some ms => rw [q] at e'; cases e'; rw [asStrs_eq q]; rfl
    | _ => cases e
theorem m_one {E : SXK} {m : Str} {id : String} {r : V → List V → Hp → VK → Prop} {g : Str → Dt → Option Res} (slot : Slot "str" m id) (ty : typeOf (.builtin id) = pure (.type "method_descriptor")) (rule : MtR X id r)
    (hr : ∀ (E : XK) (H0 F : Hp) (O : Addr → Prop) (H : Hp) (z : Str) (y : V) (d : Dt) (res : Res) (Q : VK), HS H0 F O H → RepB X.K (vis H0 F O H) H y d → g z d = some res → Post X.K X.mg (vis H0 F O) H Q E res → r (.str z) [y] H Q)
    {o a : Expr} {ap p : Pos} {f h : Ev → Option Res} (ho : isCall o = false) (hl : (ap.endLine == p.line) = true) (hs : isStar a = false) (jo : JB X E o f) (ja : JB X E a h) : J X E (.Call (.Attribute o m ap) [a] [] p) (methG g f h) := by
  refine ⟨impE (pe_m1 slot ty rule jo.run ja.run (by rw [star_of hs]; rfl) (base_of ho) hl) fun σ H Q q => ?_⟩
  obtain ⟨H0, F, O, env, res, S, e, P⟩ := q
  refine tB_bnd S e P fun v H1 _ d _ e1 S1 h1 e P => ?_
  cases d with
  | str z =>
    cases h1
    refine ⟨⟨z, rfl⟩, ?_⟩
    exact tB_bnd S1 e P fun u H2 _ d' _ e2 S2 h2 e P => hr (E σ) H0 F O H2 z u d' res Q S2.hs h2 e P
  | _ => cases e
theorem m_join {E : SXK} {o a : Expr} {ap p : Pos} {f h : Ev → Option Res} (ho : isCall o = false) (hl : (ap.endLine == p.line) = true) (hs : isStar a = false) (jo : JB X E o f) (ja : JB X E a h) : J X E (.Call (.Attribute o "join" ap) [a] [] p) (methG joinD f h) :=
  m_one F.slot_str_join F.type_str_join mt_join (fun E H0 F O H z y d res Q hs hy e P => by
    unfold joinD at e
    split at e
    · rename_i ds
      obtain ⟨b, xs, rfl, h1, h2⟩ := hy
      cases q : asStrs ds with
      | none => rw [q] at e; cases e
      | some ys =>
        rw [q] at e
        have e' : (if ((ys.map fun (y : Str) => y.length).sum + ys.length * z.length ≤ 16777216) then okS (Txt.join z ys) else none) = some res := e
        split at e'
        · rename_i hz
          cases e'
          rw [asStrs_eq q] at h2
          rw [h2.ofStrs] at h1
          exact ⟨z, b, ys, rfl, rfl, .inl (Or.inl (Or.inl h1)), hz, P.sc (.str _)⟩
        · cases e'
    · cases e) ho hl hs jo ja
theorem m_find {E : SXK} {o a : Expr} {ap p : Pos} {f h : Ev → Option Res} (ho : isCall o = false) (hl : (ap.endLine == p.line) = true) (hs : isStar a = false) (jo : JB X E o f) (ja : JB X E a h) : J X E (.Call (.Attribute o "find" ap) [a] [] p) (methG findD f h) :=
  m_one F.slot_str_find F.type_str_find mt_find (fun E H0 F O H z y d res Q hs hy e P => by
    unfold findD at e
    split at e
    · cases hy
      cases e
      exact ⟨z, _, rfl, rfl, P.sc (.int _)⟩
    · cases e) ho hl hs jo ja
theorem meth_ok {E : SXK} {m : Str} {g : Str → Dt → Option Res} (hm : methD m = some g) {o a : Expr} {ap p : Pos} {f h : Ev → Option Res} (ho : isCall o = false) (hl : (ap.endLine == p.line) = true) (hs : isStar a = false) (jo : JB X E o f) (ja : JB X E a h) :
    J X E (.Call (.Attribute o m ap) [a] [] p) (methG g f h) := by
  unfold methD at hm
  split at hm
  · rename_i z; cases hm; subst z; exact m_join ho hl hs jo ja
  · split at hm
    · rename_i z; cases hm; subst z; exact m_find ho hl hs jo ja
    · cases hm
end
end Dl

namespace Dl
open PySem PySem.Spec PyProof.Rows L2 Evl

section
variable {C : Cc} {G : Str → List Dt → Option Res}
theorem bs {α β : Type} {o : Option α} {f : α → Option β} {b : β} (h : o.bind f = some b) : ∃ a, o = some a ∧ f a = some b := by
  cases o with
  | none => cases h
  | some a => exact ⟨a, rfl, h⟩
theorem ms {α β : Type} {o : Option α} {f : α → β} {b : β} (h : o.map f = some b) : ∃ a, o = some a ∧ f a = b := by
  cases o with
  | none => cases h
  | some a => exact ⟨a, rfl, Option.some.inj h⟩
theorem notT {b : Bool} (h : ¬ b = true) : b = false := by cases b <;> first | rfl | exact absurd rfl h
/-- what the functions give -/
structure CmpOk (C : Cc) (G : Str → List Dt → Option Res) (n : Nat) : Prop where
  E : ∀ {sc X E}, XOk C G sc X E → ∀ {e f}, cmpE C G n sc e = some f → J X E e f
  B : ∀ {sc X E}, XOk C G sc X E → ∀ {e f}, cmpB C G n sc e = some f → JB X E e f
  T : ∀ {sc X E}, XOk C G sc X E → ∀ {e f}, cmpT C G n sc e = some f → JT X E e f ∧ ∀ op vs p, e = .BoolOp op vs p → JW X E e f
  O : ∀ {sc X E}, XOk C G sc X E → ∀ {e f}, cmpO C G n sc e = some f → JO X E e f
  A : ∀ {sc X E}, XOk C G sc X E → ∀ {e f}, cmpA C G n sc e = some f → JA X E e f
  AB : ∀ {sc X E}, XOk C G sc X E → ∀ {e f}, cmpAB C G n sc e = some f → JAB X E e f
  It : ∀ {sc X E}, XOk C G sc X E → ∀ {tg e f}, cmpIt C G n sc tg e = some f → JI X E tg e f
  IC : ∀ {sc X E}, XOk C G sc X E → ∀ {tg e f}, cmpIC C G n sc tg e = some f → JIC X E tg e f
  Ts : ∀ {sc X}, XOk C G sc X E0x → ∀ {e f}, cmpTs C G n sc e = some f → JTs X e f
theorem cmp_zero : CmpOk C G 0 := by
  constructor <;> (intros; rename_i q; cases q)
/-- targets of names -/
theorem tgtN_pg {X : Cx} {sc : Scope} {ok : NameKind → Bool} {e : Expr} {j : Nat} (hN : X.N = C.N) (nd : X.N.Nodup) (hs : X.env.scope = sc)
    (hok : ∀ x k, sc.names.lookup x = some k → ok k = true → L2.Loc sc x ∧ (X.fn x = true ∨ sc.names.lookup x = some .local)) (h : tgtN C.N sc ok e = some j) : PG X e (gName j) := by
  unfold tgtN at h
  split at h
  · rename_i x p
    split at h
    · rename_i k q
      split at h
      · rename_i hk
        obtain ⟨h1, h2⟩ := hok x k q hk
        exact pg_name nd (by rw [hN]; exact ixOf_get h) (by rw [hs]; exact h1) (by rw [hs]; exact h2)
      · cases h
    · cases h
  · cases h
theorem tgtN_name {N : List Str} {sc : Scope} {ok : NameKind → Bool} {e : Expr} {j : Nat} (h : tgtN N sc ok e = some j) : ∃ x p, e = .Name x p := by
  unfold tgtN at h
  split at h
  · exact ⟨_, _, rfl⟩
  · cases h
theorem each_name {x : Str} {p : Pos} {es : List Expr} {env : Env} : assignEach (.Name x p :: es) env = (false, assign (.Name x p) env) :: assignEach es env := rfl
theorem tgtNs_pg {X : Cx} {sc : Scope} {ok : NameKind → Bool} (hN : X.N = C.N) (nd : X.N.Nodup) (hs : X.env.scope = sc)
    (hok : ∀ x k, sc.names.lookup x = some k → ok k = true → L2.Loc sc x ∧ (X.fn x = true ∨ sc.names.lookup x = some .local)) : ∀ {es : List Expr} {js : List Nat}, tgtNs C.N sc ok es = some js →
    PGs X es (gAll js) ∧ (assignEach es X.env).length = js.length ∧ (assignEach es X.env).findIdx? (·.1) = none
  | [], js, h => by
    cases h
    exact ⟨pgs_nil, rfl, rfl⟩
  | e :: es, js, h => by
    obtain ⟨j, h1, h2⟩ := bs (show ((tgtN C.N sc ok e).bind fun j => (tgtNs C.N sc ok es).map (j :: ·)) = some js from h)
    obtain ⟨js', h3, rfl⟩ := ms h2
    obtain ⟨a, b, c⟩ := tgtNs_pg hN nd hs hok h3
    have pe := tgtN_pg hN nd hs hok h1
    obtain ⟨x, p, rfl⟩ := tgtN_name h1
    refine ⟨pgs_cons pe a (by rw [each_name]; rfl), ?_, ?_⟩
    · rw [each_name]
      show (assignEach es X.env).length + 1 = js'.length + 1
      rw [b]
    · rw [each_name, List.findIdx?_cons]
      show (if false = true then _ else _) = none
      rw [if_neg Bool.false_ne_true, c]
      rfl
theorem tgt_pg {X : Cx} {sc : Scope} {ok : NameKind → Bool} {e : Expr} {t : Tgt} (hc : X.calm = true) (hN : X.N = C.N) (nd : X.N.Nodup) (hs : X.env.scope = sc)
    (hok : ∀ x k, sc.names.lookup x = some k → ok k = true → L2.Loc sc x ∧ (X.fn x = true ∨ sc.names.lookup x = some .local)) (h : tgtOf C.N sc ok e = some t) : PG X e (gOf X.K t) := by
  unfold tgtOf at h
  split at h
  · obtain ⟨j, h1, rfl⟩ := ms h
    exact tgtN_pg hN nd hs hok h1
  · obtain ⟨js, h1, rfl⟩ := ms h
    obtain ⟨a, b, c⟩ := tgtNs_pg hN nd hs hok h1
    exact pg_tup hc a b c
  · cases h
theorem okLk {X : Cx} {sc : Scope} : ∀ x k, sc.names.lookup x = some k → isLk k = true → L2.Loc sc x ∧ (X.fn x = true ∨ sc.names.lookup x = some .local) := fun x k h1 h2 => by
  cases k <;> first | exact ⟨.inl h1, .inr h1⟩ | exact Bool.noConfusion h2

theorem call_ok {sc : Scope} {X : Cx} {E : SXK} (h : XOk C G sc X E) {x : Str} {q : Pos} {a : Expr} {es : List Expr} (h2 : (x == ("__debug__" : Str)) = false) (hx : x ≠ "__name__") (hg : Gl X x) (hs : (a :: es).all (fun e => !isStar e) = true) :
    starEach (a :: es) X.env = (false, eval a X.env) :: starEach es X.env ∧ (backTo q (starEach es X.env)).any (·.1) = false := by
  rw [List.all_cons, Bool.and_eq_true, Bool.not_eq_true'] at hs
  exact ⟨star_of hs.1, plainSt hs.2⟩

theorem fldOf_ok {x f : Str} {v : XV} (h : fldOf C x f = some v) : x = v.nm ∧ C.xv = some v ∧ f ∈ C.xfl := by
  unfold fldOf at h
  cases q : C.xv with
  | none => rw [q] at h; cases h
  | some u =>
    rw [q] at h
    have h' : (if x = u.nm ∧ f ∈ C.xfl then some u else none) = some v := h
    split at h'
    · rename_i hc
      cases h'
      exact ⟨hc.1, rfl, hc.2⟩
    · cases h'
theorem isxOf_ok {sc : Scope} {x : Str} {args : List Expr} {v : XV} {D : Str} (h : isxOf C sc x args = some (v, D)) : ∃ p1 p2, x = "isinstance" ∧ args = [.Name v.nm p1, .Name D p2] ∧ C.xv = some v ∧ sc.names.lookup ("isinstance" : Str) = some .globalImplicit ∧ sc.names.lookup D = some .globalImplicit ∧ D ∈ C.isxD := by
  unfold isxOf at h
  split at h
  · rename_i y p1 D' p2
    cases q : C.xv with
    | none => rw [q] at h; cases h
    | some u =>
      rw [q] at h
      have h' : (if x = ("isinstance" : Str) ∧ y = u.nm ∧ sc.names.lookup ("isinstance" : Str) = some .globalImplicit ∧ sc.names.lookup D' = some .globalImplicit ∧ D' ∈ C.isxD then some (u, D') else none) = some (v, D) := h
      split at h'
      · rename_i hc
        obtain ⟨rfl, rfl, k1, k2, k3⟩ := hc
        cases h'
        exact ⟨_, _, rfl, rfl, rfl, k1, k2, k3⟩
      · cases h'
  · cases h
theorem step_B {n : Nat} (ih : CmpOk C G n) {sc X E} (h : XOk C G sc X E) {e f} (q : cmpB C G (n + 1) sc e = some f) : JB X E e f := by
  unfold cmpB at q
  split at q
  · obtain ⟨r, h1, rfl⟩ := ms q
    cases r with
    | inl i => exact JB_var (name_pe h h1)
    | inr d => exact (name_cst h h1).b
  · exact (ih.E h q).b
theorem step_O {n : Nat} (ih : CmpOk C G n) {sc X E} (h : XOk C G sc X E) {e f} (q : cmpO C G (n + 1) sc e = some f) : JO X E e f := by
  cases e with
  | none => cases q; exact .none
  | some e =>
    obtain ⟨g, h1, rfl⟩ := ms (show (cmpB C G n sc e).map some = some f from q)
    exact .some (ih.B h h1)
theorem step_A {n : Nat} (ih : CmpOk C G n) {sc X E} (h : XOk C G sc X E) {e f} (q : cmpA C G (n + 1) sc e = some f) : JA X E e f := by
  cases e with
  | nil => cases q; exact JA_nil
  | cons a es =>
    have q' : (if isStar a = true then none else (cmpE C G n sc a).bind fun f => (cmpA C G n sc es).map (argC f)) = some f := q
    split at q'
    · cases q'
    · rename_i hs
      obtain ⟨g, h1, h2⟩ := bs q'
      obtain ⟨k, h3, rfl⟩ := ms h2
      exact JA_cons (ih.E h h1) (ih.A h h3) (star_of (notT hs))
theorem step_AB {n : Nat} (ih : CmpOk C G n) {sc X E} (h : XOk C G sc X E) {e f} (q : cmpAB C G (n + 1) sc e = some f) : JAB X E e f := by
  cases e with
  | nil => cases q; exact JAB_nil
  | cons a es =>
    have q' : (if isStar a = true then none else (cmpB C G n sc a).bind fun f => (cmpAB C G n sc es).map (argC f)) = some f := q
    split at q'
    · cases q'
    · rename_i hs
      obtain ⟨g, h1, h2⟩ := bs q'
      obtain ⟨k, h3, rfl⟩ := ms h2
      exact JAB_cons (ih.B h h1) (ih.AB h h3) (star_of (notT hs))
theorem step_Ts {n : Nat} (ih : CmpOk C G n) {sc X} (h : XOk C G sc X E0x) {e f} (q : cmpTs C G (n + 1) sc e = some f) : JTs X e f := by
  unfold cmpTs at q
  split at q
  · cases q
  · cases q; exact .nil
  · rename_i z; cases z; exact .one (ih.T h q).1
  · cases q
theorem step_T {n : Nat} (ih : CmpOk C G n) {sc X E} (h : XOk C G sc X E) {e f} (q : cmpT C G (n + 1) sc e = some f) : JT X E e f ∧ ∀ op vs p, e = .BoolOp op vs p → JW X E e f := by
  unfold cmpT at q
  split at q
  · rename_i op a p
    have h1 := (ih.T h q).1
    have w : JW X E (.BoolOp op [a] p) f := by
      cases op with
      | And => exact JW_and1 h1
      | Or => exact JW_or1 h1
    exact ⟨w.t, fun _ _ _ _ => w⟩
  · rename_i op a b r p
    obtain ⟨g, h1, h2⟩ := bs q
    obtain ⟨k, h3, rfl⟩ := ms h2
    have w1 := (ih.T h h1).1
    have w2 := (ih.T h h3).2 op _ p rfl
    have w : JW X E (.BoolOp op (a :: b :: r) p) (boG op g k) := by
      cases op with
      | And => exact JW_and w1 w2
      | Or => exact JW_or w1 w2
    exact ⟨w.t, fun _ _ _ _ => w⟩
  · obtain ⟨g, h1, rfl⟩ := ms q
    exact ⟨JT_not (ih.T h h1).1, fun _ _ _ z => by cases z⟩
  · split at q
    · cases q
    · rename_i hs
      obtain ⟨g, h1, q⟩ := bs q
      obtain ⟨k, h2, q⟩ := bs q
      obtain ⟨l, h3, rfl⟩ := ms q
      exact ⟨JT_cmp (cmp_okD h.hu h1) (ih.B h h2) (ih.B h h3) (nomarks_of (notT hs)), fun _ _ _ z => by cases z⟩
  · split at q
    · cases q
    · rename_i hs
      obtain ⟨g, h1, q⟩ := bs q
      obtain ⟨g', h1', q⟩ := bs q
      obtain ⟨k, h2, q⟩ := bs q
      obtain ⟨k', h2', q⟩ := bs q
      obtain ⟨l, h3, rfl⟩ := ms q
      exact ⟨JT_chain (cmp_okD h.hu h1) (cmp_okD h.hu h1') (ih.B h h2) (ih.B h h2') (ih.B h h3) (nolast_of (notT hs)), fun _ _ _ z => by cases z⟩
  · split at q
    · rename_i hp
      obtain ⟨g, h1, rfl⟩ := ms q
      exact ⟨JT_truth (ih.B h h1) (truth_of hp), fun _ _ _ z => by subst z; exact Bool.noConfusion hp⟩
    · cases q
theorem nmOf_eq {e : Expr} {x : Str} (h : nmOf e = some x) : ∃ p args r, e = .Call (.Name x p) args [] r := by
  unfold nmOf at h
  split at h
  · cases h; exact ⟨_, _, _, rfl⟩
  · cases h
theorem isTup_eq {e : Expr} (h : isTup e = true) : ∃ es k p, e = .Tuple es k p := by
  cases e <;> first | exact ⟨_, _, _, rfl⟩ | exact Bool.noConfusion h
theorem len1 {α : Type} {l : List α} (h : l.length = 1) : ∃ a, l = [a] := by
  match l, h with
  | [a], _ => exact ⟨a, rfl⟩
theorem len2 {α : Type} {l : List α} (h : l.length = 2) : ∃ a b, l = [a, b] := by
  match l, h with
  | [a, b], _ => exact ⟨a, b, rfl⟩
theorem blt_range : ("range" : Str) ∈ bltNames := by decide +kernel
theorem blt_enum : ("enumerate" : Str) ∈ bltNames := by decide +kernel
theorem blt_zip : ("zip" : Str) ∈ bltNames := by decide +kernel
theorem step_It {n : Nat} (ih : CmpOk C G n) {sc X E} (h : XOk C G sc X E) {tg e f} (q : cmpIt C G (n + 1) sc tg e = some f) : JI X E tg e f := by
  rw [cmpIt] at q
  split at q
  · rename_i hc
    obtain ⟨hn, hk, hst⟩ := hc
    obtain ⟨p, args, r, rfl⟩ := nmOf_eq hn
    have hg := gl_of h hk
    split at q
    · rename_i hl
      obtain ⟨a, rfl⟩ := len1 (show args.length = 1 from hl)
      obtain ⟨g, h1, rfl⟩ := ms q
      have hst' : (!isStar a) = true := List.all_eq_true.mp hst a List.mem_cons_self
      rw [Bool.not_eq_true'] at hst'
      exact JI_rng1 hg (h.blt _ blt_range) (ih.AB h h1) (by rw [star_of hst']; rfl)
    · split at q
      · rename_i hl
        obtain ⟨a, b, rfl⟩ := len2 (show args.length = 2 from hl)
        obtain ⟨g, h1, rfl⟩ := ms q
        have hst' : (!isStar a) = true := List.all_eq_true.mp hst a List.mem_cons_self
        have hst2 : (!isStar b) = true := List.all_eq_true.mp hst b (List.mem_cons_of_mem _ List.mem_cons_self)
        rw [Bool.not_eq_true'] at hst' hst2
        exact JI_rng2 hg (h.blt _ blt_range) (ih.AB h h1) (by rw [star_of hst', star_of hst2]; rfl) (by rw [star_of hst2]; rfl)
      · cases q
  · split at q
    · rename_i hc
      obtain ⟨hn, hk, hst, hl, ht⟩ := hc
      obtain ⟨p, args, r, rfl⟩ := nmOf_eq hn
      have hg := gl_of h hk
      obtain ⟨a, rfl⟩ := len1 (show args.length = 1 from hl)
      obtain ⟨g, h1, rfl⟩ := ms q
      have hst' : (!isStar a) = true := List.all_eq_true.mp hst a List.mem_cons_self
      rw [Bool.not_eq_true'] at hst'
      obtain ⟨es, k, p2, rfl⟩ := isTup_eq ht
      exact JI_enum hg (h.blt _ blt_enum) (ih.A h h1) (by rw [star_of hst']; rfl)
    · split at q
      · rename_i hc
        obtain ⟨hn, hk, hst, hl, ht⟩ := hc
        obtain ⟨p, args, r, rfl⟩ := nmOf_eq hn
        have hg := gl_of h hk
        obtain ⟨a, b, rfl⟩ := len2 (show args.length = 2 from hl)
        obtain ⟨g, h1, rfl⟩ := ms q
        have hst' : (!isStar a) = true := List.all_eq_true.mp hst a List.mem_cons_self
        have hst2 : (!isStar b) = true := List.all_eq_true.mp hst b (List.mem_cons_of_mem _ List.mem_cons_self)
        rw [Bool.not_eq_true'] at hst' hst2
        obtain ⟨es, k, p2, rfl⟩ := isTup_eq ht
        exact JI_zip hg (h.blt _ blt_zip) (ih.A h h1) (star_of hst') (by rw [star_of hst2]; rfl)
      · obtain ⟨g, h1, rfl⟩ := ms q
        exact JI_on (ih.E h h1)
theorem step_IC {n : Nat} (ih : CmpOk C G n) {sc X E} (h : XOk C G sc X E) {tg e f} (q : cmpIC C G (n + 1) sc tg e = some f) : JIC X E tg e f := by
  rw [cmpIC] at q
  split at q
  · rename_i hc
    obtain ⟨hn, hk, hst⟩ := hc
    obtain ⟨p, args, r, rfl⟩ := nmOf_eq hn
    have hg := gl_of h hk
    split at q
    · rename_i hl
      obtain ⟨a, rfl⟩ := len1 (show args.length = 1 from hl)
      obtain ⟨g, h1, rfl⟩ := ms q
      have hst' : (!isStar a) = true := List.all_eq_true.mp hst a List.mem_cons_self
      rw [Bool.not_eq_true'] at hst'
      exact (JI_rng1 hg (h.blt _ blt_range) (ih.AB h h1) (by rw [star_of hst']; rfl)).cc
    · split at q
      · rename_i hl
        obtain ⟨a, b, rfl⟩ := len2 (show args.length = 2 from hl)
        obtain ⟨g, h1, rfl⟩ := ms q
        have hst' : (!isStar a) = true := List.all_eq_true.mp hst a List.mem_cons_self
        have hst2 : (!isStar b) = true := List.all_eq_true.mp hst b (List.mem_cons_of_mem _ List.mem_cons_self)
        rw [Bool.not_eq_true'] at hst' hst2
        exact (JI_rng2 hg (h.blt _ blt_range) (ih.AB h h1) (by rw [star_of hst', star_of hst2]; rfl) (by rw [star_of hst2]; rfl)).cc
      · cases q
  · split at q
    · rename_i hc
      obtain ⟨hn, hk, hst, hl, ht⟩ := hc
      obtain ⟨p, args, r, rfl⟩ := nmOf_eq hn
      have hg := gl_of h hk
      obtain ⟨a, rfl⟩ := len1 (show args.length = 1 from hl)
      obtain ⟨g, h1, rfl⟩ := ms q
      have hst' : (!isStar a) = true := List.all_eq_true.mp hst a List.mem_cons_self
      rw [Bool.not_eq_true'] at hst'
      obtain ⟨es, k, p2, rfl⟩ := isTup_eq ht
      exact JIC_enum hg (h.blt _ blt_enum) (ih.AB h h1) (by rw [star_of hst']; rfl)
    · split at q
      · rename_i hc
        obtain ⟨hn, hk, hst, hl, ht⟩ := hc
        obtain ⟨p, args, r, rfl⟩ := nmOf_eq hn
        have hg := gl_of h hk
        obtain ⟨a, b, rfl⟩ := len2 (show args.length = 2 from hl)
        obtain ⟨g, h1, rfl⟩ := ms q
        have hst' : (!isStar a) = true := List.all_eq_true.mp hst a List.mem_cons_self
        have hst2 : (!isStar b) = true := List.all_eq_true.mp hst b (List.mem_cons_of_mem _ List.mem_cons_self)
        rw [Bool.not_eq_true'] at hst' hst2
        obtain ⟨es, k, p2, rfl⟩ := isTup_eq ht
        exact JIC_zip hg (h.blt _ blt_zip) (ih.AB h h1) (star_of hst') (by rw [star_of hst2]; rfl)
      · obtain ⟨g, h1, rfl⟩ := ms q
        exact JIC_on (ih.B h h1)
theorem step_E {n : Nat} (ih : CmpOk C G n) {sc X E} (h : XOk C G sc X E) {e f} (q : cmpE C G (n + 1) sc e = some f) : J X E e f := by
  unfold cmpE at q
  split at q
  · -- a name
    obtain ⟨r, h1, rfl⟩ := ms q
    cases r with
    | inl i => exact J_var (name_pe h h1)
    | inr d => exact name_cst h h1
  · obtain ⟨d, h1, rfl⟩ := ms q
    exact J_const h1
  · obtain ⟨g, h1, q⟩ := bs q
    obtain ⟨k, h2, q⟩ := bs q
    obtain ⟨l, h3, rfl⟩ := ms q
    exact J_op2 (bin_ok h1) (ih.B h h2) (ih.B h h3)
  · obtain ⟨k, h2, rfl⟩ := ms q
    exact J_neg (ih.B h h2)
  · obtain ⟨k, h2, rfl⟩ := ms q
    exact J_not (ih.B h h2)
  · exact J_one (ih.E h q)
  · rename_i op a b r p
    obtain ⟨g, h1, h2⟩ := bs q
    obtain ⟨k, h3, rfl⟩ := ms h2
    cases op with
    | And => exact J_and (ih.E h h1) (ih.E h h3)
    | Or => exact J_or (ih.E h h1) (ih.E h h3)
  · split at q
    · cases q
    · rename_i hs
      obtain ⟨g, h1, q⟩ := bs q
      obtain ⟨k, h2, q⟩ := bs q
      obtain ⟨l, h3, rfl⟩ := ms q
      exact J_cmp (cmp_okD h.hu h1) (ih.B h h2) (ih.B h h3) (nomarks_of (notT hs))
  · split at q
    · cases q
    · rename_i hs
      obtain ⟨g, h1, q⟩ := bs q
      obtain ⟨g', h1', q⟩ := bs q
      obtain ⟨k, h2, q⟩ := bs q
      obtain ⟨k', h2', q⟩ := bs q
      obtain ⟨l, h3, rfl⟩ := ms q
      exact J_chain (cmp_okD h.hu h1) (cmp_okD h.hu h1') (ih.B h h2) (ih.B h h2') (ih.B h h3) (nolast_of (notT hs))
  · obtain ⟨k, h2, q⟩ := bs q
    obtain ⟨k', h2', q⟩ := bs q
    obtain ⟨l, h3, rfl⟩ := ms q
    exact J_if (ih.T h h2).1 (ih.E h h2') (ih.E h h3)
  · obtain ⟨k, h2, q⟩ := bs q
    obtain ⟨k', h2', q⟩ := bs q
    obtain ⟨l, h3, rfl⟩ := ms q
    exact J_slice (ih.B h h2) (ih.O h h2') (ih.O h h3)
  · split at q
    · cases q
    · rename_i hs
      obtain ⟨k, h2, q⟩ := bs q
      obtain ⟨l, h3, rfl⟩ := ms q
      exact J_ix (ih.B h h2) (ih.B h h3) (plainIx_of (notT hs))
  · obtain ⟨k, h2, rfl⟩ := ms q
    exact J_lst (ih.A h h2)
  · obtain ⟨k, h2, rfl⟩ := ms q
    exact J_tup (ih.A h h2)
  · rename_i elt tg iter ifs scope p
    split at q
    · rename_i hc
      obtain ⟨t, h1, q⟩ := bs q
      obtain ⟨fi, h2, q⟩ := bs q
      obtain ⟨ft, h3, q⟩ := bs q
      obtain ⟨fe, h4, q⟩ := bs q
      split at q
      · rename_i hj
        cases q
        have hj' : ∀ j ∈ t.js, j ∈ (ownOf C.N scope).map (·.2) := fun j hm => of_decide_eq_true (List.all_eq_true.mp hj j hm)
        refine J_lc (h.calm hc.1) h.nd (ih.IC h h2) (blkOk_by (by rw [h.hN, h.sc]; exact hc.2.1)) (fun s H A cl fp => ?_) (fun s H A cl fp => ?_) (fun s H A cl fp => ?_) (nofold_of hc.2.2) hj'
        · exact tgt_pg (h.calm hc.1) h.hN h.nd (by rw [relab_eq, h.sc]) okLk h1
        · exact ih.Ts (h.blk hc.1 s H scope A cl fp) h3
        · exact ih.E (h.blk hc.1 s H scope A cl fp) h4
      · cases q
    · cases q
  · rename_i x p f p2
    obtain ⟨v, h1, rfl⟩ := ms q
    obtain ⟨rfl, h2, h3⟩ := fldOf_ok h1
    exact (h.xvr v h2).2.fld f _ _ h3
  · rename_i x p args r
    split at q
    · obtain ⟨⟨v, D⟩, h1, rfl⟩ := ms q
      obtain ⟨p1, p3, rfl, rfl, h2, k1, k2, h3⟩ := isxOf_ok h1
      exact (h.xvr v h2).2.isx D _ _ _ _ (gl_of h k1) (gl_of h k2) h3
    rename_i hnx
    clear hnx
    split at q
    · rename_i hc
      obtain ⟨h1, h2, h3⟩ := hc
      obtain ⟨o1, o2, o3⟩ := okName_of h1
      have hg := gl_of h h2
      split at q
      · rename_i hx
        obtain ⟨k, fa, fd, ps, F1, F3, F4, F5⟩ := h.fns x hx
        split at q
        · split at q
          · cases q
          · rename_i hh
            cases q
            rcases F1 with ⟨_, F1, F2⟩ | ⟨z, _⟩
            · exact J_call0 F1 F2 hg F3 F4 F5 h.pass o1
            · exact absurd z hh
        · rename_i a es
          obtain ⟨w1, w2⟩ := call_ok (q := r) h o1 o3 hg h3
          have rule : ∀ {t : TA}, PA X (a :: es) t → PE X (.Call (.Name x p) (a :: es) [] r) (tCallS (PSp X.K X.mg (G x)) E t) := fun {t} ha => by
            rcases F1 with ⟨_, F1, F2⟩ | ⟨z, F1, F2⟩
            · exact pe_callS F1 F2 hg F3 F4 F5 h.pass ha o1 w1 w2
            · exact pe_callQ F1 F2 hg F3 F4 F5 h.pass ha o1 w1 w2
          split at q
          · obtain ⟨l, q1, rfl⟩ := ms q
            exact J_callSR rule (ih.AB h q1)
          · obtain ⟨l, q1, rfl⟩ := ms q
            exact J_callR rule (ih.A h q1)
      · split at q
        · rename_i hx
          obtain ⟨rfl, hgc⟩ := hx
          split at q
          · rename_i a es
            obtain ⟨w1, w2⟩ := call_ok (q := r) h o1 o3 hg h3
            obtain ⟨l, q1, rfl⟩ := ms q
            exact J_callM c_gcd hg (h.gcd hgc) (ih.AB h q1) o1 w1 w2
          · cases q
        · split at q
          · rename_i T g a es hb
            obtain ⟨b1, b2⟩ := blth_ok h.calm hb
            obtain ⟨w1, w2⟩ := call_ok (q := r) h o1 o3 hg h3
            obtain ⟨l, q1, rfl⟩ := ms q
            exact J_callTy b2.2 hg (h.blt x b1) b2.1 (ih.AB h q1) o3 o1 w1 w2
          · rename_i T g a es hb
            obtain ⟨b1, b2⟩ := blth_ok h.calm hb
            obtain ⟨w1, w2⟩ := call_ok (q := r) h o1 o3 hg h3
            obtain ⟨l, q1, rfl⟩ := ms q
            exact J_callB b2.2 hg (h.blt x b1) b2.1 (ih.AB h q1) o3 o1 w1 w2
          · cases q
    · cases q
  · split at q
    · rename_i hc
      obtain ⟨g, h1, q⟩ := bs q
      obtain ⟨k, h2, q⟩ := bs q
      obtain ⟨l, h3, rfl⟩ := ms q
      exact meth_ok h1 hc.1 hc.2.1 hc.2.2 (ih.B h h2) (ih.B h h3)
    · cases q
  · cases q
theorem cmp_ok : ∀ n, CmpOk C G n
  | 0 => cmp_zero
  | n + 1 => have ih := cmp_ok n; ⟨step_E ih, step_B ih, step_T ih, step_O ih, step_A ih, step_AB ih, step_It ih, step_IC ih, step_Ts ih⟩
end
end Dl

namespace Dl
open PySem PySem.Spec PyProof.Rows L2 Evl

def lineS : Stmt → Nat
  | .Return _ p | .Assign _ _ p | .For _ _ _ _ p | .While _ _ _ p | .If _ _ _ p | .Expr _ p => p.line
  | _ => 0
def wrapF (js : List Nat) (g : Ev → Option SRes) : Ev → Option SRes := match js with
  | [] => g
  | js => frzG js g
variable (C : Cc) (G : Str → List Dt → Option Res)
/-- a comprehension's parts -/
def cmpLc (n : Nat) (sc : Scope) : Expr → Option (Ev → Option Res)
  | .ListComp elt [⟨tg, iter, ifs, 0⟩] scope _ =>
    if C.hot = false ∧ blkC C.N sc scope (ownOf C.N scope) = true ∧ isSet iter = false then (tgtOf C.N (relab scope sc) isLk tg).bind fun t => (cmpIC C G n sc tg iter).bind fun fi => (cmpTs C G n (relab scope sc) ifs).bind fun ft => (cmpE C G n (relab scope sc) elt).bind fun fe =>
      if t.js.all (fun j => decide (j ∈ (ownOf C.N scope).map (·.2))) = true then some (lcG ((ownOf C.N scope).map (·.2)) fi t ft fe) else none
    else none
  | _ => none
def scopeOf : Expr → Scope
  | .ListComp _ _ s _ => s
  | _ => { kind := .function, names := [], isGenerator := false, isCoroutine := false }
def asName : Expr → Option (Str × Pos)
  | .Name x p => some (x, p)
  | _ => none
def cmpAsg (n : Nat) (sc : Scope) (tg v : Expr) : Option (Ev → Option SRes) := match tg with
  | .Name x px => (tgtN C.N sc isLc2 (.Name x px)).bind fun j =>
    if isLc v = false then (cmpE C G n sc v).map (asgG (.nm j))
    else if sc.names.lookup x = some .local ∧ (px.line == v.pos.line) = true ∧ ((scopeOf v).names.any fun (n, k) => n == x && (k == .local || k == .cell)) = false then (cmpLc C G n sc v).map (asgG (.nm j))
    else none
  | .Tuple es k p => if C.hot = false ∧ isLc v = false ∧ isTup v = false then (tgtOf C.N sc isLc2 (.Tuple es k p)).bind fun t => (cmpE C G n sc v).map (asgG t) else none
  | .Subscript o k p => if isLc v = false ∧ isSl k = false then (asName o).bind fun (x, px) => match cmpName C sc x with
    | some (.inl i) => (cmpB C G n sc k).bind fun fk => (cmpE C G n sc v).map fun f => setG i fk f
    | _ => none else none
  | _ => none
def cmpRet (n : Nat) (sc : Scope) : Option Expr → Option (Ev → Option SRes)
  | none => some retN
  | some e => match (asName e).bind fun (x, p) => cmpName C sc x with
    | some (.inl i) => some (retV i)
    | _ => (cmpE C G n sc e).map retG
/-- x.append(e) -/
def appOf : Expr → Option (Str × Expr)
  | .Call (.Attribute (.Name x _) m ap) [a] [] cp => if m = ("append" : Str) ∧ (ap.endLine == cp.line) = true ∧ isStar a = false then some (x, a) else none
  | _ => none
def isDoc : Expr → Bool
  | .Constant (.str _) _ _ => true
  | _ => false
def cmpEx (n : Nat) (sc : Scope) (e : Expr) : Option (Ev → Option SRes) :=
  if isDoc e = true then some nxG
  else match appOf e with
    | some (x, a) => match cmpName C sc x with
      | some (.inl i) => (cmpE C G n sc a).map (appG i)
      | _ => none
    | none => if isLc e = false then (cmpE C G n sc e).map dropG else none
mutual
def cmpS0 : Nat → Scope → Stmt → Option (Ev → Option SRes)
  | 0, _, _ => none
  | n + 1, sc, st => match st with
    | .Assign [tg] v p => (cmpAsg C G n sc tg v).map (wrapF (C.frz p.line))
    | .Return e p => (cmpRet C G n sc e).map (wrapF (C.frz p.line))
    | .If c a b p => (cmpT C G n sc c).bind fun f => (cmpSs0 n sc a).bind fun g => (cmpSs0 n sc b).map fun h => wrapF (C.frz p.line) (ifG f g h)
    | .For tg iter body [] p => if C.hot = false ∧ isSet iter = false then (tgtOf C.N sc isLc2 tg).bind fun t => (cmpIt C G n sc tg iter).bind fun f => (cmpSs0 n sc body).map fun g => wrapF (C.frz p.line) (forG t f g) else none
    | .While c body [] p => (cmpT C G n sc c).bind fun f => (cmpSs0 n sc body).map fun g => wrapF (C.frz p.line) (fun env => whileL f g C.wf env)
    | .Expr e p => (cmpEx C G n sc e).map (wrapF (C.frz p.line))
    | .Pass _ => some nxG
    | .Break _ => some bkG
    | .Continue _ => some ctG
    | _ => none
def cmpSs0 : Nat → Scope → List Stmt → Option (Ev → Option SRes)
  | 0, _, _ => none
  | n + 1, sc, sts => match sts with
    | [] => some nxG
    | st :: r => (cmpS0 n sc st).bind fun g => (cmpSs0 n sc r).map fun h => seqG g h
end
structure XSt (C : Cc) (G : Str → List Dt → Option Res) (sc : Scope) (X : Cx) (E : SXK) : Prop where
  ok : XOk C G sc X E
  own : PassesOwn (model X.prog X.w) X.A X.env X.xe
  fnc : ∀ x, X.fn x = true
  fk : sc.kind = .function
  tk : Takes X fun c d σ H => E σ c d H
section
variable {C : Cc} {G : Str → List Dt → Option Res} {sc : Scope} {X : Cx} {E : SXK} {n : Nat}
theorem okLc2 (h : XSt C G sc X E) : ∀ x k, sc.names.lookup x = some k → isLc2 k = true → L2.Loc sc x ∧ (X.fn x = true ∨ sc.names.lookup x = some .local) := fun x k h1 h2 => by
  cases k <;> first | exact ⟨.inl h1, .inr h1⟩ | exact ⟨.inr h1, .inl (h.fnc x)⟩ | exact Bool.noConfusion h2
theorem JS_wrap {st : Stmt} {g : Ev → Option SRes} {js : List Nat} (h : JS X E st g) : JS X E st (wrapF js g) := by
  unfold wrapF
  split
  · exact h
  · exact JS_frz h
theorem lc_ok (h : XSt C G sc X E) {v : Expr} {x : Str} {px spos : Pos} {j : Nat} {f : Ev → Option Res} (hj : X.N[j]? = some x) (hl : sc.names.lookup x = some .local) (hln : (px.line == v.pos.line) = true) (ha : ((scopeOf v).names.any fun (n, k) => n == x && (k == .local || k == .cell)) = false)
    (q : cmpLc C G n sc v = some f) : JS X E (.Assign [.Name x px] v spos) (asgG (.nm j) f) := by
  unfold cmpLc at q
  split at q
  · rename_i elt tg iter ifs scope p
    split at q
    · rename_i hc
      obtain ⟨t, h1, q⟩ := bs q
      obtain ⟨fi, h2, q⟩ := bs q
      obtain ⟨ft, h3, q⟩ := bs q
      obtain ⟨fe, h4, q⟩ := bs q
      split at q
      · rename_i hjs
        cases q
        have o := h.ok
        have ih := cmp_ok (C := C) (G := G) n
        have hj' : ∀ j ∈ t.js, j ∈ (ownOf C.N scope).map (·.2) := fun j hm => of_decide_eq_true (List.all_eq_true.mp hjs j hm)
        refine JS_setLc (o.calm hc.1) o.nd hj (by rw [o.sc]; exact hl) (sw_true (by rw [o.sc]; exact h.fk) (by rw [o.sc]; exact hl) hln ha) (ih.IC o h2) (blkOk_by (by rw [o.hN, o.sc]; exact hc.2.1)) (fun s H A cl fp => ?_) (fun s H A cl fp => ?_) (fun s H A cl fp => ?_) (nofold_of hc.2.2) hj'
        · exact tgt_pg (o.calm hc.1) o.hN o.nd (by rw [relab_eq, o.sc]) okLk h1
        · exact ih.Ts (o.blk hc.1 s H scope A cl fp) h3
        · exact ih.E (o.blk hc.1 s H scope A cl fp) h4
      · cases q
    · cases q
  · cases q
theorem tgtN_ix {N : List Str} {sc : Scope} {ok : NameKind → Bool} {x : Str} {p : Pos} {j : Nat} (h : tgtN N sc ok (.Name x p) = some j) : N[j]? = some x ∧ ∃ k, sc.names.lookup x = some k ∧ ok k = true := by
  have h' : (match sc.names.lookup x with | some k => if ok k = true then ixOf N x else none | none => none) = some j := h
  split at h'
  · rename_i k q
    split at h'
    · rename_i hk
      exact ⟨ixOf_get h', k, q, hk⟩
    · cases h'
  · cases h'
theorem asg_ok (h : XSt C G sc X E) {tg v : Expr} {p : Pos} {g : Ev → Option SRes} (q : cmpAsg C G n sc tg v = some g) : JS X E (.Assign [tg] v p) g := by
  have o := h.ok
  have ih := cmp_ok (C := C) (G := G) n
  unfold cmpAsg at q
  split at q
  · rename_i x px
    obtain ⟨j, h1, q⟩ := bs q
    obtain ⟨h2, k, h3, h4⟩ := tgtN_ix h1
    obtain ⟨h5, h6⟩ := okLc2 h x k h3 h4
    split at q
    · rename_i hv
      obtain ⟨f, h7, rfl⟩ := ms q
      exact JS_set o.nd (by rw [o.hN]; exact h2) (by rw [o.sc]; exact h5) (ih.E o h7) (show _ from noswap_of hv) (by rw [o.sc]; exact h6)
    · split at q
      · rename_i hc
        obtain ⟨f, h7, rfl⟩ := ms q
        exact lc_ok h (by rw [o.hN]; exact h2) hc.1 hc.2.1 hc.2.2 h7
      · cases q
  · rename_i es k p2
    split at q
    · rename_i hc
      obtain ⟨t, h1, q⟩ := bs q
      obtain ⟨f, h2, rfl⟩ := ms q
      refine JS_asg (ih.E o h2) (tgt_pg (o.calm hc.1) o.hN o.nd o.sc (okLc2 h) h1) (by cases v <;> first | rfl | exact Bool.noConfusion hc.2.1) ?_ rfl
      cases v <;> first | rfl | exact Bool.noConfusion hc.2.2
    · cases q
  · rename_i ob k p2
    split at q
    · rename_i hc
      obtain ⟨⟨x, px⟩, h1, q⟩ := bs q
      have eo : ob = .Name x px := by
        cases ob <;> first | (cases h1; rfl) | cases h1
      subst eo
      have q' : (match cmpName C sc x with
        | some (.inl i) => (cmpB C G n sc k).bind fun fk => (cmpE C G n sc v).map fun f => setG i fk f
        | _ => none) = some g := q
      split at q'
      · rename_i i hn
        obtain ⟨fk, h2, q'⟩ := bs q'
        obtain ⟨f, h3, rfl⟩ := ms q'
        exact JS_setI (spos := p) (ih.E o h3) (name_pe o hn) (ih.B o h2) (by cases v <;> first | rfl | exact Bool.noConfusion hc.1) rfl rfl (fun _ => by cases k <;> first | rfl | exact Bool.noConfusion hc.2)
      · cases q'
    · cases q
  · cases q
theorem ret_ok (h : XSt C G sc X E) {e : Option Expr} {p : Pos} {g : Ev → Option SRes} (q : cmpRet C G n sc e = some g) : JS X E (.Return e p) g := by
  have o := h.ok
  have ih := cmp_ok (C := C) (G := G) n
  cases e with
  | none => cases q; exact JS_retN
  | some e =>
    have q' : (match (asName e).bind fun (x, p) => cmpName C sc x with
      | some (.inl i) => some (retV i)
      | _ => (cmpE C G n sc e).map retG) = some g := q
    split at q'
    · rename_i i hn
      obtain ⟨⟨x, px⟩, h1, hn⟩ := bs hn
      have eo : e = .Name x px := by
        cases e <;> first | (cases h1; rfl) | cases h1
      subst eo
      cases q'
      exact JS_retV (name_pe o hn)
    · obtain ⟨f, h1, rfl⟩ := ms q'
      exact JS_ret (ih.E o h1)
theorem appOf_eq {e a : Expr} {x : Str} (h : appOf e = some (x, a)) : ∃ px ap cp, e = .Call (.Attribute (.Name x px) "append" ap) [a] [] cp ∧ (ap.endLine == cp.line) = true ∧ isStar a = false := by
  unfold appOf at h
  split at h
  · split at h
    · rename_i hc
      cases h
      obtain ⟨rfl, h2, h3⟩ := hc
      exact ⟨_, _, _, rfl, h2, h3⟩
    · cases h
  · cases h
theorem ex_ok (h : XSt C G sc X E) {e : Expr} {p : Pos} {g : Ev → Option SRes} (q : cmpEx C G n sc e = some g) : JS X E (.Expr e p) g := by
  have o := h.ok
  have ih := cmp_ok (C := C) (G := G) n
  unfold cmpEx at q
  split at q
  · rename_i hd
    cases q
    cases e with
    | Constant c k p2 => cases c <;> first | exact JS_doc | exact Bool.noConfusion hd
    | _ => exact Bool.noConfusion hd
  · split at q
    · rename_i x a hap
      obtain ⟨px, ap, cp, rfl, h1, h2⟩ := appOf_eq hap
      split at q
      · rename_i i hn
        obtain ⟨f, h3, rfl⟩ := ms q
        have hs : starEach [a] X.env = [(false, eval a X.env)] := by rw [star_of h2]; rfl
        refine ⟨impS (ps_expr (pe_bm PySem.F.plainAttrs_list PySem.F.slot_list_append PySem.F.type_list_append mt_append (name_pe o hn) (pa_cons (ih.E o h3).run pa_nil (star_of h2)) rfl (by rw [hs]; rfl) h1 (star_of h2) rfl) rfl) fun D σ H q => app_of q⟩
      · cases q
    · split at q
      · rename_i hl
        obtain ⟨f, h3, rfl⟩ := ms q
        exact JS_drop (ih.E o h3) (noswap_of hl)
      · cases q
structure StOk0 (C : Cc) (G : Str → List Dt → Option Res) (n : Nat) : Prop where
  S : ∀ sc X E, XSt C G sc X E → ∀ st g, cmpS0 C G n sc st = some g → JS X E st g
  Ss : ∀ sc X E, XSt C G sc X E → ∀ sts g, cmpSs0 C G n sc sts = some g → JSs X E sts g
theorem cmpS0_ok : ∀ n, StOk0 C G n
  | 0 => ⟨fun sc X E h st g q => (by rw [cmpS0.eq_def] at q; cases q), fun sc X E h sts g q => (by rw [cmpSs0.eq_def] at q; cases q)⟩
  | n + 1 => by
    have ihS := fun {sc X E} h {st g} => (cmpS0_ok n).S sc X E h st g
    have ihSs := fun {sc X E} h {sts g} => (cmpS0_ok n).Ss sc X E h sts g
    have ih := cmp_ok (C := C) (G := G) n
    refine ⟨fun sc X E h st g q => ?_, fun sc X E h sts g q => ?_⟩
    · rw [cmpS0.eq_def] at q
      dsimp only at q
      split at q
      · obtain ⟨f, h1, rfl⟩ := ms q
        exact JS_wrap (asg_ok h h1)
      · obtain ⟨f, h1, rfl⟩ := ms q
        exact JS_wrap (ret_ok h h1)
      · obtain ⟨f, h1, q⟩ := bs q
        obtain ⟨f2, h2, q⟩ := bs q
        obtain ⟨f3, h3, rfl⟩ := ms q
        exact JS_wrap (JS_if (ih.T h.ok h1).1 (ihSs h h2) (ihSs h h3))
      · split at q
        · rename_i hs
          obtain ⟨t, h1, q⟩ := bs q
          obtain ⟨f2, h2, q⟩ := bs q
          obtain ⟨f3, h3, rfl⟩ := ms q
          exact JS_wrap (JS_for h.own (h.ok.calm hs.1) (ih.It h.ok h2) (tgt_pg (h.ok.calm hs.1) h.ok.hN h.ok.nd h.ok.sc (okLc2 h) h1) (ihSs h h3) (nofold_of hs.2))
        · cases q
      · obtain ⟨f2, h2, q⟩ := bs q
        obtain ⟨f3, h3, rfl⟩ := ms q
        exact JS_wrap (JS_while h.own (ih.T h.ok h2).1 (ihSs h h3))
      · obtain ⟨f, h1, rfl⟩ := ms q
        exact JS_wrap (ex_ok h h1)
      · cases q; exact JS_pass
      · cases q; exact JS_break
      · cases q; exact JS_continue
      · cases q
    · rw [cmpSs0.eq_def] at q
      dsimp only at q
      split at q
      · cases q; exact JSs_nil
      · obtain ⟨f2, h2, q⟩ := bs q
        obtain ⟨f3, h3, rfl⟩ := ms q
        exact JSs_cons (ihS h h2) (ihSs h h3)
end


/-! ### raise, try, what holds them -/
/-- what the written part says of the error classes -/
structure ExK (K : PySem.W.Frag) (mg : Str → Option Value) (C : Cc) : Prop where
  hnd : ∀ x ∈ C.hnd, (x == ("__debug__" : Str)) = false ∧ ∃ cv, (mg x = some cv ∨ (mg x = none ∧ bootBuiltins x = some cv ∧ x ≠ "__name__")) ∧ ∀ c b, C.ctch x c = some b → ∀ D, mg c = some (.ref D) → PySem.W.exmOne K (.ref D) cv = some b
  cls : ∀ x c, C.ctch x c = some true → ∀ D, mg c = some (.ref D) → XfC K D ∧ ExcC K D ∧ ∀ f ∈ C.xfl, PySem.W.findIn K (.ref D) f = some none
  isx : ∀ x c, C.ctch x c = some true → ∀ D ∈ C.isxD, ∀ A, mg c = some (.ref A) → (D == ("__debug__" : Str)) = false ∧ ∃ (d : V) (u : Value), (mg D = some u ∨ (mg D = none ∧ bootBuiltins D = some u ∧ D ≠ "__name__")) ∧ RelV d u ∧ (∀ u', RelV d u' → u' = u) ∧ PySem.W.kitOne K (.ref A) u = some (C.isx c D)
structure XSx (C : Cc) (G : Str → List Dt → Option Res) (sc : Scope) (X : Cx) (E : SXK) : Prop where
  st : XSt C G sc X E
  hot0 : C.hot = false
  stk : X.stack = X.env :: X.outer
  frm : X.env.frame = some X.env.locals
  exk : ExK X.K X.mg C
  exs : ∀ x xd, C.excs.lookup x = some xd → RaiseOk X x xd
  fnq : ∀ x ∈ C.fnq, ∃ k f fd ps, FnQ X.prog X.w X.K X.mg X.base (L2.CX X.prog X.w) k f fd ps (PSp X.K X.mg (G x)) ∧ L2H.RoomH k X.A ∧ X.mg x = some (.ref f) ∧ PySem.W.keepIn X.K (.ref f) = true ∧ Binds X.K fd ps []
noncomputable section
variable (C : Cc) (G : Str → List Dt → Option Res)
mutual
def cmpS : Nat → Scope → Stmt → Option (Ev → Option SRes)
  | 0, _, _ => none
  | n + 1, sc, st => match st with
    | .If c a b p => (cmpT C G n sc c).bind fun f => (cmpSs n sc a).bind fun g => (cmpSs n sc b).map fun h => wrapF (C.frz p.line) (ifG f g h)
    | .For tg iter body [] p => if isSet iter = false then (tgtOf C.N sc isLc2 tg).bind fun t => (cmpIt C G n sc tg iter).bind fun f => (cmpSs n sc body).map fun g => wrapF (C.frz p.line) (forG t f g) else none
    | .While c body [] p => (cmpT C G n sc c).bind fun f => (cmpSs n sc body).map fun g => wrapF (C.frz p.line) (fun env => whileL f g C.wf env)
    | .Raise (some (.Call (.Name x _) (a :: es) [] _)) none p => if okName x = true ∧ sc.names.lookup x = some .globalImplicit ∧ (a :: es).all (fun e => !isStar e) = true then (C.excs.lookup x).bind fun xd => (cmpA C G n sc (a :: es)).map fun fs => wrapF (C.frz p.line) (raiseG x xd fs) else none
    | .Try body [.ExceptHandler (some (.Name x _)) (some nm) (b0 :: suite) _] [] [] p => if x ∈ C.hnd ∧ sc.names.lookup x = some .globalImplicit ∧ sc.names.lookup nm = some .local ∧ okName nm = true then
        (ixOf C.N nm).bind fun i => (cmpSs n sc body).map fun g => wrapF (C.frz p.line) (tryG (C.ctch x) i g fun a dx c => (cmpSs0 (C.suite ⟨nm, i, a, dx, c⟩) G n sc (b0 :: suite)).getD fun _ => none)
      else none
    | st => cmpS0 C G (n + 1) sc st
def cmpSs : Nat → Scope → List Stmt → Option (Ev → Option SRes)
  | 0, _, _ => none
  | n + 1, sc, sts => match sts with
    | [] => some nxG
    | st :: r => (cmpS n sc st).bind fun g => (cmpSs n sc r).map fun h => seqG g h
end
end
section
variable {C : Cc} {G : Str → List Dt → Option Res} {sc : Scope} {X : Cx} {E : SXK} {n : Nat}
theorem XSx.tr (h : XSx C G sc X E) {W : WX} {pn : List (Addr × Obj)} {xe : Value → Shared → Prop} (tk : Takes (X.tr pn xe) W) (p : PassesOwn (model X.prog X.w) X.A X.env xe) : XSx C G sc (X.tr pn xe) (EofW W) :=
  ⟨⟨⟨h.st.ok.calm, h.st.ok.nd, h.st.ok.hN, h.st.ok.sc, fun σ => passAt tk σ, h.st.ok.hu, fun v z => absurd (h.hot0.symm.trans (h.st.ok.xvr v z).1) Bool.false_ne_true, h.st.ok.fns, h.st.ok.blt, h.st.ok.gcd, h.st.ok.cst⟩, p, h.st.fnc, h.st.fk, tk⟩,
    h.hot0, h.stk, h.frm, h.exk, fun x xd q => ⟨(h.exs x xd q).ex⟩, h.fnq⟩
theorem glob_pe {x : Str} {p : Pos} {d : V} {u : Value} (hg : Gl X x) (hd : (x == ("__debug__" : Str)) = false) (hm : X.mg x = some u ∨ (X.mg x = none ∧ bootBuiltins x = some u ∧ x ≠ "__name__")) (r : RelV d u) : PE X (.Name x p) (tC d) := by
  rcases hm with h | ⟨h1, h2, h3⟩
  · exact pe_glob hg h r hd
  · exact pe_bltn hg h1 h2 r h3 hd
theorem XSx.suite (h : XSx C G sc X E) {x nm : Str} {i : Nat} {a dx D : Addr} {c : Str} {oe : Obj} {pn : List (Addr × Obj)} (hn : okName nm = true) (hl : sc.names.lookup nm = some .local) (hi : ixOf C.N nm = some i)
    (hc : C.ctch x c = some true) (hm : X.mg c = some (.ref D)) (hz : Zc (.ref D) (some dx) oe) (hf : ∃ vs, oe.data = .fields vs) : XSt (C.suite ⟨nm, i, a, dx, c⟩) G sc (X.suite a ((a, oe) :: pn)) (fun _ _ _ _ => False) := by
  obtain ⟨k1, k2, k3⟩ := h.exk.cls x c hc D hm
  obtain ⟨o1, o2, _⟩ := okName_of hn
  have hpe : ∀ p, PE (X.suite a ((a, oe) :: pn)) (.Name nm p) (tVar i) := fun p => pe_var (X := X.suite a ((a, oe) :: pn)) (by show X.N[i]? = _; rw [h.st.ok.hN]; exact ixOf_get hi) (.inl (by show X.env.scope.names.lookup nm = _; rw [h.st.ok.sc]; exact hl)) o1 o2
  refine ⟨⟨fun z => (by cases z), h.st.ok.nd, h.st.ok.hN, h.st.ok.sc, fun σ pins H s e s' I c => ?_, h.st.ok.hu, fun v z => ?_, fun y hy => ?_, h.st.ok.blt, h.st.ok.gcd, h.st.ok.cst⟩, PassesOwn.never, h.st.fnc, h.st.fk, fun u s' z => ?_⟩
  · obtain ⟨_, _, _, _, _, _, _, _, _, _, _, _, z⟩ := c
    exact z.elim
  · cases z
    refine ⟨rfl, ⟨fun f p p2 hfl => J_fld k1 (k3 f hfl) hz hf (hpe p), fun D' p q0 q2 pos g1 g2 hb => ?_⟩⟩
    obtain ⟨d1, d, u, m1, r, ru, kk⟩ := h.exk.isx x c hc D' hb D hm
    exact J_isx k2 hz hf (hpe p) (glob_pe (X := X.suite a ((a, oe) :: pn)) g2 d1 m1 r) ru kk g1 (h.st.ok.blt _ (by decide))
  · obtain ⟨k, f, fd, ps, F1, F2, F3⟩ := h.fnq y hy
    exact ⟨k, f, fd, ps, .inr ⟨rfl, F1, ⟨F2.dp, F2.un⟩⟩, F3⟩
  · obtain ⟨_, _, _, _, _, _, _, _, _, _, _, _, _, _, _, _, z⟩ := z
    exact z.elim
theorem raise_ok (h : XSx C G sc X E) {x : Str} {q0 p1 p : Pos} {a : Expr} {es : List Expr} {xd : XD} {fs : Ev → Option Res} (h1 : okName x = true) (h2 : sc.names.lookup x = some .globalImplicit) (h3 : (a :: es).all (fun e => !isStar e) = true) (hx : C.excs.lookup x = some xd)
    (q : cmpA C G n sc (a :: es) = some fs) : JS X E (.Raise (some (.Call (.Name x q0) (a :: es) [] p1)) none p) (raiseG x xd fs) := by
  obtain ⟨o1, o2, o3⟩ := okName_of h1
  have hg := gl_of h.st.ok h2
  obtain ⟨w1, w2⟩ := call_ok (q := p1) h.st.ok o1 o3 hg h3
  exact JS_raise (h.st.ok.calm h.hot0) h.st.tk (h.exs x xd hx) hg o1 ((cmp_ok n).A h.st.ok q) w1 w2
structure StOk (C : Cc) (G : Str → List Dt → Option Res) (n : Nat) : Prop where
  S : ∀ sc X E, XSx C G sc X E → ∀ st g, cmpS C G n sc st = some g → JS X E st g
  Ss : ∀ sc X E, XSx C G sc X E → ∀ sts g, cmpSs C G n sc sts = some g → JSs X E sts g
theorem cmpS_ok : ∀ n, StOk C G n
  | 0 => ⟨fun sc X E h st g q => (by rw [cmpS.eq_def] at q; cases q), fun sc X E h sts g q => (by rw [cmpSs.eq_def] at q; cases q)⟩
  | n + 1 => by
    have ihS := fun {sc X E} h {st g} => (cmpS_ok n).S sc X E h st g
    have ihSs := fun {sc X E} h {sts g} => (cmpS_ok n).Ss sc X E h sts g
    have ih := cmp_ok (C := C) (G := G) n
    refine ⟨fun sc X E h st g q => ?_, fun sc X E h sts g q => ?_⟩
    · rw [cmpS.eq_def] at q
      dsimp only at q
      split at q
      · obtain ⟨f, h1, q⟩ := bs q
        obtain ⟨f2, h2, q⟩ := bs q
        obtain ⟨f3, h3, rfl⟩ := ms q
        exact JS_wrap (JS_if (ih.T h.st.ok h1).1 (ihSs h h2) (ihSs h h3))
      · split at q
        · rename_i hs
          obtain ⟨t, h1, q⟩ := bs q
          obtain ⟨f2, h2, q⟩ := bs q
          obtain ⟨f3, h3, rfl⟩ := ms q
          exact JS_wrap (JS_for h.st.own (h.st.ok.calm h.hot0) (ih.It h.st.ok h2) (tgt_pg (h.st.ok.calm h.hot0) h.st.ok.hN h.st.ok.nd h.st.ok.sc (okLc2 h.st) h1) (ihSs h h3) (nofold_of hs))
        · cases q
      · obtain ⟨f2, h2, q⟩ := bs q
        obtain ⟨f3, h3, rfl⟩ := ms q
        exact JS_wrap (JS_while h.st.own (ih.T h.st.ok h2).1 (ihSs h h3))
      · split at q
        · rename_i hc
          obtain ⟨xd, h1, q⟩ := bs q
          obtain ⟨fs, h2, rfl⟩ := ms q
          exact JS_wrap (raise_ok h hc.1 hc.2.1 hc.2.2 h1 h2)
        · cases q
      · split at q
        · rename_i body x np nm b0 suite pos' p hc
          obtain ⟨c1, c2, c3, c4⟩ := hc
          obtain ⟨i, h1, q⟩ := bs q
          obtain ⟨g1, h2, rfl⟩ := ms q
          obtain ⟨d1, cv, m1, m2⟩ := h.exk.hnd x c1
          refine JS_wrap (JS_try h.stk h.frm h.st.ok.nd (by rw [h.st.ok.hN]; exact ixOf_get h1) (by show X.env.scope.names.lookup nm = _; rw [h.st.ok.sc]; exact c3) ⟨gl_of h.st.ok c2, d1, m1⟩ h.st.tk m2 (fun W pn xe tk po => ihSs (h.tr tk po) h2) (fun a oe c D dx pn q1 q2 hz hv => ?_))
          cases z : cmpSs0 (C.suite ⟨nm, i, a, dx, c⟩) G n sc (b0 :: suite) with
          | none => exact ⟨⟨fun pins s σ H D I q => by obtain ⟨_, _, _, _, _, _, e, _⟩ := q; cases e⟩⟩
          | some g2 => exact (cmpS0_ok n).Ss _ _ _ (h.suite c4 c3 h1 q1 q2 hz hv) _ _ z
        · cases q
      · exact (cmpS0_ok (n + 1)).S _ _ _ h.st _ _ q
    · rw [cmpSs.eq_def] at q
      dsimp only at q
      split at q
      · cases q; exact JSs_nil
      · obtain ⟨f2, h2, q⟩ := bs q
        obtain ⟨f3, h3, rfl⟩ := ms q
        exact JSs_cons (ihS h h2) (ihSs h h3)
end
/-! ### a def -/
def startE (n : Nat) (ds : List Dt) : Ev := ds.map (fun d => some (Sl.sh d)) ++ List.replicate (n - ds.length) none
def endF : Option SRes → Option Res
  | some (.nx _) => some (.ok false .non)
  | some (.rt fl d) => some (.ok fl d)
  | some (.ex _ c fs) => some (.ex c fs)
  | _ => none
def runF (n m : Nat) (g : Ev → Option SRes) : List Dt → Option Res := fun ds => if ds.length = m then endF (g (startE n ds)) else none
theorem SR.start {K : PySem.W.Frag} {H F : Hp} {N : List Str} {vs : List V} {ds : List Dt} (e : Ex F H) (r : Reps K F vs ds) : SR K H F noO (L2.start N vs) H (startE N.length ds) := by
  have hv : Ex F (vis H F noO H) := fun a o q => by
    rw [vis_noO]
    split
    · exact e _ _ q
    · exact q
  refine ⟨⟨Ex.refl H, e, fun a z => z.elim⟩, fun i s q => ?_, ?_, fun i j ds1 ds2 a q => ?_⟩
  · unfold startE at q
    by_cases hi : i < ds.length
    · rw [List.getElem?_append_left (by rw [List.length_map]; exact hi), List.getElem?_map] at q
      cases z : ds[i]? with
      | none => rw [z] at q; cases q
      | some d =>
        rw [z] at q
        cases q
        obtain ⟨v, h1, h2⟩ := r.get z
        refine ⟨v, ?_, h2.up hv⟩
        unfold L2.start
        rw [List.getElem?_append_left (by rw [List.length_map, r.length]; exact hi), List.getElem?_map, h1]
        rfl
    · rw [List.getElem?_append_right (by rw [List.length_map]; omega), List.getElem?_replicate] at q
      split at q <;> cases q
  · unfold startE L2.start
    rw [List.length_append, List.length_append, List.length_map, List.length_map, List.length_replicate, List.length_replicate, r.length]
  · unfold startE at q
    exfalso
    by_cases hi : i < ds.length
    · rw [List.getElem?_append_left (by rw [List.length_map]; exact hi), List.getElem?_map] at q
      cases z : ds[i]? with
      | none => rw [z] at q; cases q
      | some d => rw [z] at q; cases q
    · rw [List.getElem?_append_right (by rw [List.length_map]; omega), List.getElem?_replicate] at q
      split at q <;> cases q
section
variable {P : Program} {w : World} {K : PySem.W.Frag} {mg : Str → Option Value} {base : Heap}
/-- the names that a context tells -/
structure Names (C : Cc) (mg : Str → Option Value) : Prop where
  blt : ∀ x ∈ bltNames, mg x = none
  gcd : C.gcd = true → mg "gcd" = some (.builtin "math.gcd")
  cst : ∀ x d, C.consts x = some d → isCst d = true ∧ ∃ u, mg x = some u ∧ RelV (cstV d) u
/-- a def that stands, at a level -/
def Stands (P : Program) (w : World) (K : PySem.W.Frag) (mg : Str → Option Value) (base : Heap) (k : Nat) (x : Str) (g : List Dt → Option Res) : Prop :=
  ∃ f fd ps, FnOk P w K mg base (L2.CX P w) k f fd ps (PSp K mg g) ∧ mg x = some (.ref f) ∧ PySem.W.keepIn K (.ref f) = true ∧ Binds K fd ps []
/-- an error class whose __init__ stands; a def that may be called where an error is handled -/
def StandsX (P : Program) (w : World) (K : PySem.W.Frag) (mg : Str → Option Value) (base : Heap) (k : Nat) (x : Str) (xd : XD) : Prop :=
  ∃ D fI fd ps j, j + 1 ≤ k ∧ OexC K D ∧ PySem.W.findIn K (.ref D) "__init__" = some (some (.ref fI)) ∧ PySem.W.typeIn K (.ref fI) = some (.type "function") ∧ FnOk P w K mg base (L2.CX P w) j fI fd ps (XSp D xd) ∧ Binds K fd ps [] ∧ mg x = some (.ref D)
def StandsQ (P : Program) (w : World) (K : PySem.W.Frag) (mg : Str → Option Value) (base : Heap) (k : Nat) (x : Str) (g : List Dt → Option Res) : Prop :=
  ∃ f fd ps, FnQ P w K mg base (L2.CX P w) k f fd ps (PSp K mg g) ∧ mg x = some (.ref f) ∧ PySem.W.keepIn K (.ref f) = true ∧ Binds K fd ps []
/-- what a def leans on, at a level -/
structure Ground (P : Program) (w : World) (K : PySem.W.Frag) (mg : Str → Option Value) (base : Heap) (k : Nat) (C : Cc) (G : Str → List Dt → Option Res) : Prop where
  nm : Names C mg
  hot : C.hot = false
  xv : C.xv = none
  fns : ∀ x ∈ C.fns, Stands P w K mg base k x (G x)
  ek : ExK K mg C
  exs : ∀ x xd, C.excs.lookup x = some xd → StandsX P w K mg base k x xd
  fnq : ∀ x ∈ C.fnq, StandsQ P w K mg base k x (G x)
/-- a context that knows no errors -/
theorem Ground.plain {k : Nat} {C : Cc} {G : Str → List Dt → Option Res} (nm : Names C mg) (hot : C.hot = false) (xv : C.xv = none) (fns : ∀ x ∈ C.fns, Stands P w K mg base k x (G x)) (h1 : C.hnd = []) (h2 : ∀ x c, C.ctch x c = none) (h4 : C.excs = []) (h5 : C.fnq = []) :
    Ground P w K mg base k C G :=
  ⟨nm, hot, xv, fns, ⟨fun x hx => (by rw [h1] at hx; cases hx), fun x c z => (by rw [h2] at z; cases z), fun x c z => (by rw [h2] at z; cases z)⟩, fun x xd z => (by rw [h4] at z; cases z), fun x hx => (by rw [h5] at hx; cases hx)⟩
theorem body_at {X : Cx} {st : List Stmt} {g : Ev → Option SRes} {n m : Nat} {H F : Hp} {vs : List V} {ds : List Dt} {r : Res} {Q : VK} {E : XK} (hK : X.K = K) (hM : X.mg = mg) (hN : X.N.length = n) (h : JSs X (fun _ => E) st g) (e : Ex F H) (r1 : Reps K F vs ds) (r2 : runF n m g ds = some r) (P' : Post K mg (vis H F noO) H Q E r) :
    ∃ t, PSs X st t ∧ t { nx := fun _ H' => Q .non H', rt := Q } (L2.start X.N vs) H := by
  subst hK hM hN
  refine ⟨_, h.run, ?_⟩
  unfold runF at r2
  split at r2
  · cases qg : g (startE X.N.length ds) with
    | none => rw [qg] at r2; cases r2
    | some z =>
      rw [qg] at r2
      refine ⟨H, F, noO, _, z, SR.start e r1, qg, ?_⟩
      cases z with
      | nx env' =>
        cases r2
        exact fun σ' H' O' S' e' => P' .non H' S'.hs.ext .non
      | rt fl d => cases r2; exact P'
      | ex env' c fs => cases r2; exact fun σ' H1 O' S' e' C dx H' hc e2 h => P' C dx H' hc (S'.hs.ext.trans e2) (h.out S'.hs)
      | bk env' => cases r2
      | ct env' => cases r2
  · cases r2
theorem psp_len {g : Ev → Option SRes} {n m : Nat} {vs : List V} {H : Hp} {Q : VK} {E : XK} (h : PSp K mg (runF n m g) vs H Q E) : vs.length = m := by
  obtain ⟨F', ds, r, e, r1, r2, P'⟩ := h
  unfold runF at r2
  split at r2
  · rename_i hl
    rw [r1.length]
    exact hl
  · cases r2
theorem def_fn {x : Str} {st : Stmt} {f : Addr} {fd : FuncData} {ps : List Str} {k : Nat} {C : Cc} {G : Str → List Dt → Option Res} {n : Nat} {g : Ev → Option SRes} (F : Fun K x x st f fd) (S : FnScope C.N ps (defScope st))
    (Gr : Ground P w K mg base k C G) (q : cmpSs C G n (defScope st) (defBody st) = some g) : FnOk P w K mg base (L2.CX P w) (k + 1) f fd ps (PSp K mg (runF C.N.length ps.length g)) := by
  refine F.okX S (fun vs H Q E h => psp_len h) (fun cdv A outer s H vs Q E hr h => ?_)
  obtain ⟨F', ds, r, e, r1, r2, P'⟩ := h
  refine body_at (X := cxOf (L2.CX P w) P w K mg base C.N x (defScope st) f cdv A outer s H E) rfl rfl rfl ((cmpS_ok (C := C) (G := G) n).Ss _ _ (fun _ => E) ⟨⟨⟨fun _ => rfl, S.nd, rfl, rfl, fun σ pins H s e s' I c => ?_, hr.units, fun v z => absurd (Gr.xv.symm.trans z) (by intro y; cases y), fun y hy => ?_, Gr.nm.blt, Gr.nm.gcd, Gr.nm.cst⟩, passes_of rfl, fun _ => rfl, S.kind, takes_of rfl rfl rfl rfl⟩,
    Gr.hot, rfl, rfl, Gr.ek, fun y yd hy => ?_, fun y hy => ?_⟩ _ _ q) e r1 r2 P'
  · exact passes_call (takes_of rfl rfl rfl rfl) (fun _ _ _ _ h => h) pins σ H s e s' I c
  · obtain ⟨f2, fd2, ps2, F1, F2, F3, F4⟩ := Gr.fns y hy
    exact ⟨k, f2, fd2, ps2, .inl ⟨Gr.hot, F1, hr⟩, F2, F3, F4⟩
  · obtain ⟨D, fI, fd2, ps2, j, hj, T, iC, tI, F1, hb, hm⟩ := Gr.exs y yd hy
    exact ⟨D, fI, j, fd2, ps2, T, iC, tI, F1, hr.mono hj, hb, hm⟩
  · obtain ⟨f2, fd2, ps2, F1, F2, F3, F4⟩ := Gr.fnq y hy
    exact ⟨k, f2, fd2, ps2, F1, L2H.roomH_of hr, F2, F3, F4⟩
theorem def_ok {x : Str} {st : Stmt} {f : Addr} {fd : FuncData} {ps : List Str} {k : Nat} {C : Cc} {G : Str → List Dt → Option Res} {n : Nat} {g : Ev → Option SRes} (F : Fun K x x st f fd) (S : FnScope C.N ps (defScope st)) (hb : Binds K fd ps []) (hm : mg x = some (.ref f))
    (Gr : Ground P w K mg base k C G) (q : cmpSs C G n (defScope st) (defBody st) = some g) : Stands P w K mg base (k + 1) x (runF C.N.length ps.length g) := ⟨f, fd, ps, def_fn F S Gr q, hm, F.kp, hb⟩
/-- the same def where an error is handled -/
theorem def_q {x : Str} {st : Stmt} {f : Addr} {fd : FuncData} {ps : List Str} {k : Nat} {C : Cc} {G : Str → List Dt → Option Res} {n : Nat} {g : Ev → Option SRes} (F : Fun K x x st f fd) (S : FnScope C.N ps (defScope st)) (hb : Binds K fd ps []) (hm : mg x = some (.ref f))
    (nm : Names C mg) (hot : C.hot = true) (xv : C.xv = none) (fns : ∀ x ∈ C.fns, StandsQ P w K mg base k x (G x)) (q : cmpSs0 C G n (defScope st) (defBody st) = some g) : StandsQ P w K mg base (k + 1) x (runF C.N.length ps.length g) := by
  obtain ⟨oc, od, kV, doc, pm, an, cdv, ct, osl, rfl, lk, hcd⟩ := F.ex
  refine ⟨f, _, ps, fnQ_of lk hcd S (fun vs H Q E h => psp_len h) (fun A outer s H vs Q E hr h => ?_), hm, F.kp, hb⟩
  obtain ⟨F', ds, r, e, r1, r2, P'⟩ := h
  refine body_at (X := cxQ (L2.CX P w) P w K mg base C.N x (defScope st) f cdv A outer s H E) rfl rfl rfl ((cmpS0_ok (C := C) (G := G) n).Ss _ _ (fun _ => E) ⟨⟨fun z => absurd (hot.symm.trans z) (by decide), S.nd, rfl, rfl, fun σ pins H s e s' I c => ?_, (by have := hr.un; show (A.deeper (envOfC x (defScope st) s.heap.objs.size f cdv)).units + 64 < cLine; omega), fun v z => absurd (xv.symm.trans z) (by intro y; cases y), fun y hy => ?_, nm.blt, nm.gcd, nm.cst⟩, passes_of rfl, fun _ => rfl, S.kind, takes_of rfl rfl rfl rfl⟩ _ _ q) e r1 r2 P'
  · exact passes_call (takes_of rfl rfl rfl rfl) (fun _ _ _ _ h => h) pins σ H s e s' I c
  · obtain ⟨f2, fd2, ps2, F1, F2, F3, F4⟩ := fns y hy
    exact ⟨k, f2, fd2, ps2, .inr ⟨hot, F1, hr⟩, F2, F3, F4⟩
end
end Dl

namespace Dl
open PySem PySem.Spec PyProof.Rows L2 Evl
theorem kit_ref {K : PySem.W.Frag} {C D : Addr} {cd : ClassData} {b : Bool} (h : PySem.W.subIn K (.ref C) (.ref D) = some b) (hs : PySem.W.subIn K (.ref C) (.ref C) = some true) (hc : PySem.W.clsIn K D = some cd) (ht : PySem.W.typeIn K (.ref D) = some (.type "type")) : PySem.W.kitOne K (.ref C) (.ref D) = some b := by
  unfold PySem.W.kitOne
  split
  · rename_i e
    have e2 : C = D := Value.ref.inj (beq_iff_eq.mp e)
    rw [← e2, hs] at h
    exact h
  · unfold PySem.W.kitCls
    dsimp only
    rw [if_pos (by rw [hc, ht] <;> rfl)]
    exact h
theorem kit_typ {K : PySem.W.Frag} {C : Addr} {T : String} {b : Bool} (h : PySem.W.subIn K (.ref C) (.type T) = some b) (hm : PySem.W.kitMeta T = true) : PySem.W.kitOne K (.ref C) (.type T) = some b := by
  unfold PySem.W.kitOne
  rw [if_neg (show ¬ (Value.ref C == Value.type T) = true from fun e => by cases beq_iff_eq.mp e)]
  unfold PySem.W.kitCls
  dsimp only
  rw [if_pos hm]
  exact h
/-! ### tables of defs, the law's end -/
def tabG (t : List (Str × (List Dt → Option Res))) (x : Str) : List Dt → Option Res := ((t.find? fun r => r.1 == x).map (·.2)).getD fun _ => none
theorem fa_nil {α : Type} {P : α → Prop} : ∀ x ∈ ([] : List α), P x := fun _ h => by cases h
theorem fa_cons {α : Type} {P : α → Prop} {a : α} {l : List α} (h : P a) (t : ∀ x ∈ l, P x) : ∀ x ∈ a :: l, P x := fun x hx => by
  cases hx with
  | head => exact h
  | tail _ hx => exact t x hx
section
variable {P : Program} {w : World} {K : PySem.W.Frag} {mg : Str → Option Value} {base : Heap}
theorem Stands.mono {j k : Nat} {x : Str} {g : List Dt → Option Res} (h : Stands P w K mg base j x g) (e : j ≤ k) : Stands P w K mg base k x g := by
  obtain ⟨f, fd, ps, F, r⟩ := h
  exact ⟨f, fd, ps, F.mono e, r⟩
theorem Stands.eq {k : Nat} {x : Str} {g g' : List Dt → Option Res} (h : Stands P w K mg base k x g) (e : g' = g) : Stands P w K mg base k x g' := e ▸ h
theorem ex_nil {Q : Str → XD → Prop} : ∀ x xd, ([] : List (Str × XD)).lookup x = some xd → Q x xd := fun _ _ h => by cases h
theorem ex_cons {Q : Str → XD → Prop} {c : Str} {xd0 : XD} {l : List (Str × XD)} (h : Q c xd0) (t : ∀ x xd, l.lookup x = some xd → Q x xd) : ∀ x xd, ((c, xd0) :: l).lookup x = some xd → Q x xd := fun x xd e => by
  rw [List.lookup_cons] at e
  split at e
  · rename_i hx
    cases e
    have : x = c := by simpa using hx
    rw [this]
    exact h
  · exact t x xd e
theorem StandsX.mono {j k : Nat} {x : Str} {xd : XD} (h : StandsX P w K mg base j x xd) (e : j ≤ k) : StandsX P w K mg base k x xd := by
  obtain ⟨D, fI, fd, ps, i, hi, r⟩ := h
  exact ⟨D, fI, fd, ps, i, Nat.le_trans hi e, r⟩
theorem StandsQ.mono {j k : Nat} {x : Str} {g : List Dt → Option Res} (h : StandsQ P w K mg base j x g) (e : j ≤ k) : StandsQ P w K mg base k x g := by
  obtain ⟨f, fd, ps, F, r⟩ := h
  exact ⟨f, fd, ps, F.mono e, r⟩
theorem StandsQ.eq {k : Nat} {x : Str} {g g' : List Dt → Option Res} (h : StandsQ P w K mg base k x g) (e : g' = g) : StandsQ P w K mg base k x g' := e ▸ h
theorem standsX_of {f C : Addr} {ps : List Str} {xd : XD} {x : Str} (h : mkInit P w K mg base 0 f C ps xd) (T : OexC K C) (iC : PySem.W.findIn K (.ref C) "__init__" = some (some (.ref f))) (tI : PySem.W.typeIn K (.ref f) = some (.type "function")) (m : mg x = some (.ref C)) : StandsX P w K mg base 2 x xd := by
  obtain ⟨fd, F, b⟩ := h
  exact ⟨C, f, fd, ps, 1, by decide, T, iC, tI, F, b, m⟩
/-- a def that nothing is promised of -/
theorem stands_none {x : Str} {st : Stmt} {f : Addr} {fd : FuncData} {ps N : List Str} {k : Nat} (F : Fun K x x st f fd) (S : FnScope N ps (defScope st)) (hb : Binds K fd ps []) (hm : mg x = some (.ref f)) : Stands P w K mg base (k + 1) x (fun _ => none) := by
  refine ⟨f, fd, ps, F.okX S (fun vs H Q E h => ?_) (fun cdv A outer s H vs Q E hr h => ?_), hm, F.kp, hb⟩
  · obtain ⟨F', ds, r, e, r1, r2, P'⟩ := h
    cases r2
  · obtain ⟨F', ds, r, e, r1, r2, P'⟩ := h
    cases r2
theorem noCX {P : Program} {w : World} {H : Hp} {s : Shared} {e : Value} {s' : Shared} (h : L2.CX P w [] H s (fun _ _ _ => False) e s') : False := by
  obtain ⟨_, _, _, _, _, _, _, _, _, _, _, _, z⟩ := h
  exact z
/-- the law's own promise: a value comes back -/
def PSO (K : PySem.W.Frag) (g : List Dt → Option Res) : Sp := fun vs H Q E => ∃ F ds fl d, Ex F H ∧ Reps K F vs ds ∧ g ds = some (.ok fl d) ∧ ∀ v H', Ex H H' → Val1 K (vis H F noO H') H H' v fl d → Q v H'
theorem pso {K : PySem.W.Frag} {mg : Str → Option Value} {g : List Dt → Option Res} {f : Addr} {fd : FuncData} {ps : List Str} {k : Nat} (F : FnOk P w K mg base (L2.CX P w) k f fd ps (PSp K mg g)) : FnOk P w K mg base (L2.CX P w) k f fd ps (PSO K g) :=
  F.imp fun vs H Q E h => let ⟨F', ds, fl, d, a, b, c, e⟩ := h; ⟨F', ds, .ok fl d, a, b, c, e⟩
theorem sp_law {K : PySem.W.Frag} {g : List Dt → Option Res} {H : Hp} {a : Addr} {ns : List Int} {fl : Bool} (hS : SqL K H a (ns.map V.int)) (h : g [.scr ns] = some (.ok fl (.bl true))) :
    PSO K g [.ref a] H (fun v _ => v = .bl true) fun _ _ _ => False := by
  refine ⟨H, [.scr ns], fl, .bl true, Ex.refl H, .cons (.scr hS) .nil, h, fun v H' e q => ?_⟩
  cases fl <;> (cases q; rfl)
end
end Dl

namespace Dl
open PySem PySem.Spec PyProof.Rows L2 Evl
/-! ### the data's own steps, as rewriting rules -/
def thn (r : Option SRes) (h : Ev → Option SRes) : Option SRes := match r with
  | some (.nx env1) => h env1
  | r => r
def rdV : Option (Option Sl) → Option Res
  | some (some (.sh d)) => some (.ok false d)
  | _ => none
def rdB : Option (Option Sl) → Option Res
  | some (some (.sh d)) => some (.ok false d)
  | some (some (.ow ds)) => some (.ok false (.lst ds))
  | _ => none
def selD (d : Dt) (a b : Option Res) : Option Res := match d with
  | .bl true => a
  | .bl false => b
  | _ => none
def ifD (d : Dt) (a b : Option SRes) : Option SRes := match d with
  | .bl true => a
  | .bl false => b
  | _ => none
def onD (g : List Dt → Option Res) : Dt → Option Res
  | .lst ds => g ds
  | _ => none
def forD (t : Tgt) (g : Ev → Option SRes) (d : Dt) (env : Ev) : Option SRes := match d with
  | .lst ds => loopG t g ds env
  | _ => none
def retD : Option (Option Sl) → Option SRes
  | some (some (.sh d)) => some (.rt false d)
  | some (some (.ow ds)) => some (.rt true (.lst ds))
  | _ => none
def appD (i : Nat) (env : Ev) (f : Option Res) : Option (Option Sl) → Option SRes
  | some (some (.ow ds)) => bndS env f fun _ d => if ds.length < 16777216 then some (.nx (env.set i (some (.ow (ds ++ [d]))))) else none
  | _ => none
def setDk (ds : List Dt) (i : Nat) (env : Ev) (d : Dt) : Dt → Option SRes
  | .int k => (ixN ds.length k).map fun j => .nx (env.set i (some (.ow (ds.set j d))))
  | _ => none
def setD (i : Nat) (env : Ev) (fk : Option Res) (d : Dt) : Option (Option Sl) → Option SRes
  | some (some (.ow ds)) => bndS env fk fun _ k => setDk ds i env d k
  | _ => none
def lcD (vs : List Nat) (t : Tgt) (ft fe : Ev → Option Res) (env : Ev) : Dt → Option Res
  | .lst ds => (lcL (wipeE env vs) t ft fe ds).bind fun r => if r.length ≤ 16777216 then okL r else none
  | _ => none
section
variable {f fa fb fc f0 f1 fs fi fk fe ft h : Ev → Option Res} {g g1 g2 : Ev → Option SRes} {env : Ev} {i j : Nat} {d : Dt} {t : Tgt} {js : List Nat} {o : Dt → Dt → Option Res} {u : Dt → Option Res} {gl : List Dt → Option Res} {b : Bool} {ds : List Dt} {s : Sl} {m : Str → Dt → Option Res}
theorem e_thn {e : Ev} : thn (some (.nx e)) g = g e := id rfl
theorem e_thnr {fl : Bool} : thn (some (.rt fl d)) g = some (.rt fl d) := id rfl
theorem e_thnb {e : Ev} : thn (some (.bk e)) g = some (.bk e) := id rfl
theorem e_thnc {e : Ev} : thn (some (.ct e)) g = some (.ct e) := id rfl
theorem e_seq : seqG g1 g2 env = thn (g1 env) g2 := id rfl
theorem e_nx : nxG env = some (.nx env) := id rfl
theorem e_bk : bkG env = some (.bk env) := id rfl
theorem e_ct : ctG env = some (.ct env) := id rfl
theorem e_frz : frzG js g env = g (frz env js) := id rfl
theorem e_frz0 : frz env [] = env := id rfl
theorem e_frz1 : frz env (j :: js) = match env[j]? with
    | some (some (.ow ds)) => frz (env.set j (some (.sh (.lst ds)))) js
    | _ => frz env js := id rfl
theorem e_bndS {k : Bool → Dt → Option SRes} {fl : Bool} : bndS env (some (.ok fl d)) k = k fl d := id rfl
theorem e_bnd {k : Bool → Dt → Option Res} {fl : Bool} : bnd (some (.ok fl d)) k = k fl d := id rfl
theorem e_asg : asgG t f env = bndS env (f env) fun fl d => asgD t env fl d := id rfl
theorem e_asgw : asgD (.nm j) env true (.lst ds) = some (.nx (env.set j (some (.ow ds)))) := id rfl
theorem e_asg0 : asgD (.nm j) env false d = some (.nx (env.set j (some (.sh d)))) := by cases d <;> rfl
theorem e_asgi {n : Int} {fl : Bool} : asgD (.nm j) env fl (.int n) = some (.nx (env.set j (some (.sh (.int n))))) := by cases fl <;> rfl
theorem e_asgt {fl : Bool} : asgD (.nm j) env fl (.tup ds) = some (.nx (env.set j (some (.sh (.tup ds))))) := by cases fl <;> rfl
theorem e_asgp {fl : Bool} : asgD (.tp js) env fl (.tup ds) = (setAll js ds env).map .nx := by cases fl <;> rfl
theorem e_sa0 : setAll [] [] env = some env := id rfl
theorem e_sa1 : setAll (j :: js) (d :: ds) env = setAll js ds (env.set j (some (.sh d))) := id rfl
theorem e_bdn : bindE (.nm j) d env = some (env.set j (some (.sh d))) := id rfl
theorem e_bdp : bindE (.tp js) (.tup ds) env = setAll js ds env := id rfl
theorem e_ret : retG f env = bndS env (f env) fun fl d => some (.rt fl d) := id rfl
theorem e_retv : retV i env = retD (env[i]?) := by unfold retV retD; generalize env[i]? = z; cases z with | none => rfl | some z => cases z with | none => rfl | some z => cases z <;> rfl
theorem e_retd0 : retD (some (some (.sh d))) = some (.rt false d) := id rfl
theorem e_retd1 : retD (some (some (.ow ds))) = some (.rt true (.lst ds)) := id rfl
theorem e_retn : retN env = some (.rt false .non) := id rfl
theorem e_if : ifG f g1 g2 env = bndS env (f env) fun _ d => ifD d (g1 env) (g2 env) := id rfl
theorem e_if1 {a c : Option SRes} : ifD (.bl true) a c = a := id rfl
theorem e_if0 {a c : Option SRes} : ifD (.bl false) a c = c := id rfl
theorem e_ifi {a c : Option SRes} : ifD (.bl b) a c = if b = true then a else c := by cases b <;> rfl
theorem e_drop : dropG f env = bndS env (f env) fun _ _ => some (.nx env) := id rfl
theorem e_app : appG i f env = appD i env (f env) (env[i]?) := by unfold appG appD; generalize env[i]? = z; cases z with | none => rfl | some z => cases z with | none => rfl | some z => cases z <;> rfl
theorem e_app1 {r : Option Res} : appD i env r (some (some (.ow ds))) = bndS env r fun _ d => if ds.length < 16777216 then some (.nx (env.set i (some (.ow (ds ++ [d]))))) else none := id rfl
theorem e_set : setG i fk f env = bndS env (f env) fun _ d => setD i env (fk env) d (env[i]?) := by
  unfold setG setD
  congr 1
theorem e_set1 {r : Option Res} : setD i env r d (some (some (.ow ds))) = bndS env r fun _ k => setDk ds i env d k := id rfl
theorem e_set2 {k : Int} : setDk ds i env d (.int k) = (ixN ds.length k).map fun j => .nx (env.set i (some (.ow (ds.set j d)))) := id rfl
theorem e_for : forG t f g env = bndS env (f env) fun _ d => forD t g d env := by
  unfold forG forD
  congr 1
theorem e_for1 : forD t g (.lst ds) env = loopG t g ds env := id rfl
theorem e_varG : varG i env = rdV (env[i]?) := by unfold varG rdV; generalize env[i]? = z; cases z with | none => rfl | some z => cases z with | none => rfl | some z => cases z <;> rfl
theorem e_varB : varB i env = rdB (env[i]?) := by unfold varB rdB; generalize env[i]? = z; cases z with | none => rfl | some z => cases z with | none => rfl | some z => cases z <;> rfl
theorem e_rdV : rdV (some (some (.sh d))) = some (.ok false d) := id rfl
theorem e_rdB : rdB (some (some (.sh d))) = some (.ok false d) := id rfl
theorem e_rdB1 : rdB (some (some (.ow ds))) = some (.ok false (.lst ds)) := id rfl
theorem e_cst : cstG d env = some (.ok false d) := id rfl
theorem e_op2 : op2G o fa fb env = bnd (fa env) fun _ x => bnd (fb env) fun _ y => o x y := id rfl
theorem e_op1 : op1G u fa env = bnd (fa env) fun _ x => u x := id rfl
theorem e_sel : selG fa f1 f0 env = bnd (fa env) fun _ x => selD x (f1 env) (f0 env) := id rfl
theorem e_sel1 {a c : Option Res} : selD (.bl true) a c = a := id rfl
theorem e_sel0 {a c : Option Res} : selD (.bl false) a c = c := id rfl
theorem e_seli {a c : Option Res} : selD (.bl b) a c = if b = true then a else c := by cases b <;> rfl
theorem e_bG : bG b env = some (.ok false (.bl b)) := id rfl
theorem e_and : andG fa fb env = bnd (fa env) fun _ x => selD x (fb env) (some (.ok false (.bl false))) := id rfl
theorem e_or : orG fa fb env = bnd (fa env) fun _ x => selD x (some (.ok false (.bl true))) (fb env) := id rfl
theorem e_not : notG fa env = bnd (fa env) fun _ x => selD x (some (.ok false (.bl false))) (some (.ok false (.bl true))) := id rfl
theorem e_chain {o2 : Dt → Dt → Option Res} : chainG o o2 fa fb fc env = bnd (fa env) fun _ x => bnd (fb env) fun _ y => bnd (o x y) fun _ z => selD z (bnd (fc env) fun _ w => o2 y w) (some (.ok false (.bl false))) := id rfl
theorem e_on : onG gl fs env = bnd (fs env) fun _ d => onD gl d := id rfl
theorem e_on1 : onD gl (.lst ds) = gl ds := id rfl
theorem e_argN : argN env = some (.ok false (.lst [])) := id rfl
theorem e_argC : argC f fs env = bnd (f env) fun _ d => bnd (fs env) fun _ ds => consD d ds := id rfl
theorem e_cons : consD d (.lst ds) = some (.ok false (.lst (d :: ds))) := id rfl
theorem e_itG : itG f env = bnd (f env) fun _ d => itemsD d := id rfl
theorem e_it1 : itemsD (.lst ds) = some (.ok false (.lst ds)) := id rfl
theorem e_it2 : itemsD (.tup ds) = some (.ok false (.lst ds)) := id rfl
theorem e_it3 {ns : List Int} : itemsD (.scr ns) = some (.ok false (.lst (ns.map Dt.int))) := id rfl
theorem e_lc {vs : List Nat} : lcG vs fi t ft fe env = bnd (fi env) fun _ d => lcD vs t ft fe env d := id rfl
theorem e_lc1 {vs : List Nat} : lcD vs t ft fe env (.lst ds) = (lcL (wipeE env vs) t ft fe ds).bind fun r => if r.length ≤ 16777216 then okL r else none := id rfl
theorem e_wipe0 : wipeE env [] = env := id rfl
theorem e_wipe1 : wipeE env (j :: js) = (wipeE env js).set j none := id rfl
theorem e_sl01 : slG f none (some h) env = bnd (f env) fun _ d => bnd (h env) fun _ i => (isInt i).bind fun i => slD d none (some i) := id rfl
theorem e_sl10 : slG f (some h) none env = bnd (f env) fun _ d => bnd (h env) fun _ i => (isInt i).bind fun i => slD d (some i) none := id rfl
theorem e_sl00 : slG f none none env = bnd (f env) fun _ d => slD d none none := id rfl
theorem e_sl11 : slG f (some f0) (some h) env = bnd (f env) fun _ d => bnd (f0 env) fun _ i => (isInt i).bind fun i => bnd (h env) fun _ j => (isInt j).bind fun j => slD d (some i) (some j) := id rfl
theorem e_isInt {n : Int} : isInt (.int n) = some n := id rfl
theorem e_sll {lo hi : Option Int} : slD (.lst ds) lo hi = some (.ok true (.lst (cutL ds lo hi))) := id rfl
-- values
variable {x y : Int} {ns : List Int} {xs ys : List Dt}
theorem e_add : addD (.int x) (.int y) = some (.ok false (.int (x + y))) := id rfl
theorem e_addl : addD (.lst xs) (.lst ys) = if xs.length + ys.length ≤ 16777216 then some (.ok true (.lst (xs ++ ys))) else none := id rfl
theorem e_sub : subD (.int x) (.int y) = some (.ok false (.int (x - y))) := id rfl
theorem e_mul : mulD (.int x) (.int y) = if mulOk x y = true then some (.ok false (.int (x * y))) else none := id rfl
theorem e_fdiv : fdivD (.int x) (.int y) = if divOk y = true then some (.ok false (.int (x.fdiv y))) else none := id rfl
theorem e_mod : modD (.int x) (.int y) = if y = 0 then none else some (.ok false (.int (x.fmod y))) := id rfl
theorem e_pow : powD (.int x) (.int y) = if powOk x y = true then some (.ok false (.int (x ^ y.toNat))) else none := id rfl
theorem e_neg : negD (.int x) = some (.ok false (.int (-x))) := id rfl
theorem e_lt : ltD (.int x) (.int y) = some (.ok false (.bl (decide (x < y)))) := id rfl
theorem e_le : leD (.int x) (.int y) = some (.ok false (.bl (decide (x ≤ y)))) := id rfl
theorem e_gt : gtD (.int x) (.int y) = some (.ok false (.bl (decide (y < x)))) := id rfl
theorem e_ge : geD (.int x) (.int y) = some (.ok false (.bl (decide (y ≤ x)))) := id rfl
theorem e_eq : eqD (.int x) (.int y) = some (.ok false (.bl (decide (x = y)))) := id rfl
theorem e_ne : neD (.int x) (.int y) = some (.ok false (.bl (!decide (x = y)))) := id rfl
theorem e_int : intD [.int x] = some (.ok false (.int x)) := id rfl
theorem e_abs : absD [.int x] = some (.ok false (.int (if x < 0 then -x else x))) := id rfl
theorem e_max : max2D [.int x, .int y] = some (.ok false (.int (if y > x then y else x))) := id rfl
theorem e_min : min2D [.int x, .int y] = some (.ok false (.int (if y < x then y else x))) := id rfl
theorem e_gcd : gcdD [.int x, .int y] = some (.ok false (.int ((Nat.gcd x.natAbs y.natAbs : Nat) : Int))) := id rfl
theorem e_len1 : lenD [.lst ds] = some (.ok false (.int ds.length)) := id rfl
theorem e_len2 : lenD [.tup ds] = some (.ok false (.int ds.length)) := id rfl
theorem e_len3 : lenD [.scr ns] = some (.ok false (.int ns.length)) := id rfl
theorem e_list1 : listD [.lst ds] = some (.ok true (.lst ds)) := id rfl
theorem e_tupD : tupD ds = if ds.length ≤ 16777216 then some (.ok false (.tup ds)) else none := id rfl
theorem e_lstD : lstD ds = if ds.length ≤ 16777216 then some (.ok true (.lst ds)) else none := id rfl
theorem e_ixl : ixD (.lst ds) (.int x) = (atI ds x).map fun d => .ok false d := id rfl
theorem e_ixt : ixD (.tup ds) (.int x) = (atI ds x).map fun d => .ok false d := id rfl
theorem e_ixs : ixD (.scr ns) (.int x) = (atI ns x).map fun d => .ok false (.int d) := id rfl
theorem e_atn {α : Type} {l : List α} {n : Nat} : atI l (n : Int) = l[n]? := by
  unfold atI
  simp only [ixN]
  by_cases h : n < l.length
  · simp [h]
  · simp [h, List.getElem?_eq_none (Nat.le_of_not_lt h)]
theorem e_at0 {α : Type} {l : List α} : atI l 0 = l[0]? := e_atn (n := 0)
theorem e_at1 {α : Type} {l : List α} : atI l 1 = l[1]? := e_atn (n := 1)
theorem e_at2 {α : Type} {l : List α} : atI l 2 = l[2]? := e_atn (n := 2)
theorem e_at3 {α : Type} {l : List α} : atI l 3 = l[3]? := e_atn (n := 3)
theorem e_at4 {α : Type} {l : List α} : atI l 4 = l[4]? := e_atn (n := 4)
theorem e_at5 {α : Type} {l : List α} : atI l 5 = l[5]? := e_atn (n := 5)
theorem e_at6 {α : Type} {l : List α} : atI l 6 = l[6]? := e_atn (n := 6)
theorem e_at7 {α : Type} {l : List α} : atI l 7 = l[7]? := e_atn (n := 7)
theorem e_at8 {α : Type} {l : List α} : atI l 8 = l[8]? := e_atn (n := 8)
theorem e_at9 {α : Type} {l : List α} : atI l 9 = l[9]? := e_atn (n := 9)
theorem e_at10 {α : Type} {l : List α} : atI l 10 = l[10]? := e_atn (n := 10)
theorem e_at11 {α : Type} {l : List α} : atI l 11 = l[11]? := e_atn (n := 11)
theorem e_at12 {α : Type} {l : List α} : atI l 12 = l[12]? := e_atn (n := 12)
theorem e_at13 {α : Type} {l : List α} : atI l 13 = l[13]? := e_atn (n := 13)
theorem e_at14 {α : Type} {l : List α} : atI l 14 = l[14]? := e_atn (n := 14)
theorem e_at15 {α : Type} {l : List α} : atI l 15 = l[15]? := e_atn (n := 15)
theorem e_rng : rng1D [.int y] = if -(2 ^ 62) ≤ y ∧ y < 2 ^ 62 then some (.ok false (.lst (rngD 0 y.toNat))) else none := id rfl
theorem e_rng2 : rng2D [.int x, .int y] = if -(2 ^ 62) ≤ x ∧ x < 2 ^ 62 ∧ -(2 ^ 62) ≤ y ∧ y < 2 ^ 62 then some (.ok false (.lst (rngD x (y - x).toNat))) else none := id rfl
theorem e_trui : truD (.int x) = some (.ok false (.bl (x != 0))) := id rfl
theorem e_trub : truD (.bl b) = some (.ok false (.bl b)) := id rfl
theorem e_notb : notD (.bl b) = some (.ok false (.bl (!b))) := id rfl
theorem e_noti : notD (.int x) = some (.ok false (.bl (!(x != 0)))) := id rfl
theorem e_sc {gl : List Dt → Option Res} {fl : Bool} (h : gl ds = some (.ok fl d)) (c : isCst d = true) : scD gl ds = some (.ok false d) := by
  unfold scD
  rw [h]
  show (if isCst d = true then _ else _) = _
  rw [if_pos c]
end
theorem kb_int_int : kitB "int" "int" = some true := by decide +kernel
theorem kb_int_bool : kitB "int" "bool" = some false := by decide +kernel
theorem kb_int_tuple : kitB "int" "tuple" = some false := by decide +kernel
theorem kb_int_list : kitB "int" "list" = some false := by decide +kernel
theorem kb_int_str : kitB "int" "str" = some false := by decide +kernel
theorem kb_str_int : kitB "str" "int" = some false := by decide +kernel
theorem kb_str_bool : kitB "str" "bool" = some false := by decide +kernel
theorem kb_str_tuple : kitB "str" "tuple" = some false := by decide +kernel
theorem kb_str_list : kitB "str" "list" = some false := by decide +kernel
theorem kb_str_str : kitB "str" "str" = some true := by decide +kernel
theorem kb_bool_int : kitB "bool" "int" = some true := by decide +kernel
theorem kb_bool_bool : kitB "bool" "bool" = some true := by decide +kernel
theorem kb_bool_tuple : kitB "bool" "tuple" = some false := by decide +kernel
theorem kb_bool_list : kitB "bool" "list" = some false := by decide +kernel
theorem kb_bool_str : kitB "bool" "str" = some false := by decide +kernel
theorem kb_NoneType_int : kitB "NoneType" "int" = some false := by decide +kernel
theorem kb_NoneType_bool : kitB "NoneType" "bool" = some false := by decide +kernel
theorem kb_NoneType_tuple : kitB "NoneType" "tuple" = some false := by decide +kernel
theorem kb_NoneType_list : kitB "NoneType" "list" = some false := by decide +kernel
theorem kb_NoneType_str : kitB "NoneType" "str" = some false := by decide +kernel
theorem kb_list_int : kitB "list" "int" = some false := by decide +kernel
theorem kb_list_bool : kitB "list" "bool" = some false := by decide +kernel
theorem kb_list_tuple : kitB "list" "tuple" = some false := by decide +kernel
theorem kb_list_list : kitB "list" "list" = some true := by decide +kernel
theorem kb_list_str : kitB "list" "str" = some false := by decide +kernel
theorem kb_tuple_int : kitB "tuple" "int" = some false := by decide +kernel
theorem kb_tuple_bool : kitB "tuple" "bool" = some false := by decide +kernel
theorem kb_tuple_tuple : kitB "tuple" "tuple" = some true := by decide +kernel
theorem kb_tuple_list : kitB "tuple" "list" = some false := by decide +kernel
theorem kb_tuple_str : kitB "tuple" "str" = some false := by decide +kernel
theorem e_isi_int_int {x : Int} : isiD [.int x, .ty "int"] = some (.ok false (.bl true)) := congrArg (Option.map fun b => Res.ok false (.bl b)) kb_int_int
theorem e_isi_int_bool {x : Int} : isiD [.int x, .ty "bool"] = some (.ok false (.bl false)) := congrArg (Option.map fun b => Res.ok false (.bl b)) kb_int_bool
theorem e_isi_int_tuple {x : Int} : isiD [.int x, .ty "tuple"] = some (.ok false (.bl false)) := congrArg (Option.map fun b => Res.ok false (.bl b)) kb_int_tuple
theorem e_isi_int_list {x : Int} : isiD [.int x, .ty "list"] = some (.ok false (.bl false)) := congrArg (Option.map fun b => Res.ok false (.bl b)) kb_int_list
theorem e_isi_int_str {x : Int} : isiD [.int x, .ty "str"] = some (.ok false (.bl false)) := congrArg (Option.map fun b => Res.ok false (.bl b)) kb_int_str
theorem e_isn_int {x : Int} : isD (.int x) .non = some (.ok false (.bl false)) := id rfl
theorem e_isnn_int {x : Int} : isNotD (.int x) .non = some (.ok false (.bl true)) := id rfl
theorem e_isi_str_int {x : Str} : isiD [.str x, .ty "int"] = some (.ok false (.bl false)) := congrArg (Option.map fun b => Res.ok false (.bl b)) kb_str_int
theorem e_isi_str_bool {x : Str} : isiD [.str x, .ty "bool"] = some (.ok false (.bl false)) := congrArg (Option.map fun b => Res.ok false (.bl b)) kb_str_bool
theorem e_isi_str_tuple {x : Str} : isiD [.str x, .ty "tuple"] = some (.ok false (.bl false)) := congrArg (Option.map fun b => Res.ok false (.bl b)) kb_str_tuple
theorem e_isi_str_list {x : Str} : isiD [.str x, .ty "list"] = some (.ok false (.bl false)) := congrArg (Option.map fun b => Res.ok false (.bl b)) kb_str_list
theorem e_isi_str_str {x : Str} : isiD [.str x, .ty "str"] = some (.ok false (.bl true)) := congrArg (Option.map fun b => Res.ok false (.bl b)) kb_str_str
theorem e_isn_str {x : Str} : isD (.str x) .non = some (.ok false (.bl false)) := id rfl
theorem e_isnn_str {x : Str} : isNotD (.str x) .non = some (.ok false (.bl true)) := id rfl
theorem e_isi_bl_int {b : Bool} : isiD [.bl b, .ty "int"] = some (.ok false (.bl true)) := congrArg (Option.map fun b => Res.ok false (.bl b)) kb_bool_int
theorem e_isi_bl_bool {b : Bool} : isiD [.bl b, .ty "bool"] = some (.ok false (.bl true)) := congrArg (Option.map fun b => Res.ok false (.bl b)) kb_bool_bool
theorem e_isi_bl_tuple {b : Bool} : isiD [.bl b, .ty "tuple"] = some (.ok false (.bl false)) := congrArg (Option.map fun b => Res.ok false (.bl b)) kb_bool_tuple
theorem e_isi_bl_list {b : Bool} : isiD [.bl b, .ty "list"] = some (.ok false (.bl false)) := congrArg (Option.map fun b => Res.ok false (.bl b)) kb_bool_list
theorem e_isi_bl_str {b : Bool} : isiD [.bl b, .ty "str"] = some (.ok false (.bl false)) := congrArg (Option.map fun b => Res.ok false (.bl b)) kb_bool_str
theorem e_isn_bl {b : Bool} : isD (.bl b) .non = some (.ok false (.bl false)) := id rfl
theorem e_isnn_bl {b : Bool} : isNotD (.bl b) .non = some (.ok false (.bl true)) := id rfl
theorem e_isi_non_int  : isiD [.non, .ty "int"] = some (.ok false (.bl false)) := congrArg (Option.map fun b => Res.ok false (.bl b)) kb_NoneType_int
theorem e_isi_non_bool  : isiD [.non, .ty "bool"] = some (.ok false (.bl false)) := congrArg (Option.map fun b => Res.ok false (.bl b)) kb_NoneType_bool
theorem e_isi_non_tuple  : isiD [.non, .ty "tuple"] = some (.ok false (.bl false)) := congrArg (Option.map fun b => Res.ok false (.bl b)) kb_NoneType_tuple
theorem e_isi_non_list  : isiD [.non, .ty "list"] = some (.ok false (.bl false)) := congrArg (Option.map fun b => Res.ok false (.bl b)) kb_NoneType_list
theorem e_isi_non_str  : isiD [.non, .ty "str"] = some (.ok false (.bl false)) := congrArg (Option.map fun b => Res.ok false (.bl b)) kb_NoneType_str
theorem e_isn_non  : isD (.non) .non = some (.ok false (.bl true)) := id rfl
theorem e_isnn_non  : isNotD (.non) .non = some (.ok false (.bl false)) := id rfl
theorem e_isi_lst_int {l : List Dt} : isiD [.lst l, .ty "int"] = some (.ok false (.bl false)) := congrArg (Option.map fun b => Res.ok false (.bl b)) kb_list_int
theorem e_isi_lst_bool {l : List Dt} : isiD [.lst l, .ty "bool"] = some (.ok false (.bl false)) := congrArg (Option.map fun b => Res.ok false (.bl b)) kb_list_bool
theorem e_isi_lst_tuple {l : List Dt} : isiD [.lst l, .ty "tuple"] = some (.ok false (.bl false)) := congrArg (Option.map fun b => Res.ok false (.bl b)) kb_list_tuple
theorem e_isi_lst_list {l : List Dt} : isiD [.lst l, .ty "list"] = some (.ok false (.bl true)) := congrArg (Option.map fun b => Res.ok false (.bl b)) kb_list_list
theorem e_isi_lst_str {l : List Dt} : isiD [.lst l, .ty "str"] = some (.ok false (.bl false)) := congrArg (Option.map fun b => Res.ok false (.bl b)) kb_list_str
theorem e_isn_lst {l : List Dt} : isD (.lst l) .non = some (.ok false (.bl false)) := id rfl
theorem e_isnn_lst {l : List Dt} : isNotD (.lst l) .non = some (.ok false (.bl true)) := id rfl
theorem e_isi_tup_int {l : List Dt} : isiD [.tup l, .ty "int"] = some (.ok false (.bl false)) := congrArg (Option.map fun b => Res.ok false (.bl b)) kb_tuple_int
theorem e_isi_tup_bool {l : List Dt} : isiD [.tup l, .ty "bool"] = some (.ok false (.bl false)) := congrArg (Option.map fun b => Res.ok false (.bl b)) kb_tuple_bool
theorem e_isi_tup_tuple {l : List Dt} : isiD [.tup l, .ty "tuple"] = some (.ok false (.bl true)) := congrArg (Option.map fun b => Res.ok false (.bl b)) kb_tuple_tuple
theorem e_isi_tup_list {l : List Dt} : isiD [.tup l, .ty "list"] = some (.ok false (.bl false)) := congrArg (Option.map fun b => Res.ok false (.bl b)) kb_tuple_list
theorem e_isi_tup_str {l : List Dt} : isiD [.tup l, .ty "str"] = some (.ok false (.bl false)) := congrArg (Option.map fun b => Res.ok false (.bl b)) kb_tuple_str
theorem e_isn_tup {l : List Dt} : isD (.tup l) .non = some (.ok false (.bl false)) := id rfl
theorem e_isnn_tup {l : List Dt} : isNotD (.tup l) .non = some (.ok false (.bl true)) := id rfl
theorem e_isi_scr_int {l : List Int} : isiD [.scr l, .ty "int"] = some (.ok false (.bl false)) := congrArg (Option.map fun b => Res.ok false (.bl b)) kb_list_int
theorem e_isi_scr_bool {l : List Int} : isiD [.scr l, .ty "bool"] = some (.ok false (.bl false)) := congrArg (Option.map fun b => Res.ok false (.bl b)) kb_list_bool
theorem e_isi_scr_tuple {l : List Int} : isiD [.scr l, .ty "tuple"] = some (.ok false (.bl false)) := congrArg (Option.map fun b => Res.ok false (.bl b)) kb_list_tuple
theorem e_isi_scr_list {l : List Int} : isiD [.scr l, .ty "list"] = some (.ok false (.bl true)) := congrArg (Option.map fun b => Res.ok false (.bl b)) kb_list_list
theorem e_isi_scr_str {l : List Int} : isiD [.scr l, .ty "str"] = some (.ok false (.bl false)) := congrArg (Option.map fun b => Res.ok false (.bl b)) kb_list_str
theorem e_isn_scr {l : List Int} : isD (.scr l) .non = some (.ok false (.bl false)) := id rfl
theorem e_isnn_scr {l : List Int} : isNotD (.scr l) .non = some (.ok false (.bl true)) := id rfl
theorem e_isb {a b : Bool} : isD (.bl a) (.bl b) = some (.ok false (.bl (decide (a = b)))) := id rfl
theorem e_neb {a b : Bool} : neD (.bl a) (.bl b) = some (.ok false (.bl (!decide (a = b)))) := id rfl
theorem e_eqb {a b : Bool} : eqD (.bl a) (.bl b) = some (.ok false (.bl (decide (a = b)))) := id rfl
theorem e_eqs {a b : Str} : eqD (.str a) (.str b) = some (.ok false (.bl (decide (a = b)))) := id rfl
theorem e_nes {a b : Str} : neD (.str a) (.str b) = some (.ok false (.bl (!decide (a = b)))) := id rfl
/-! ### text -/
section
variable {f fs h : Ev → Option Res} {g : Ev → Option SRes} {env : Ev} {ds : List Dt} {m : Str → Dt → Option Res} {x : Int} {z z2 : Str} {lo hi : Option Int} {c : Str} {xd : XD} {ch : Nat}
theorem e_adds : addD (.str z) (.str z2) = if z.length + z2.length ≤ 16777216 then some (.ok false (.str (z ++ z2))) else none := id rfl
theorem e_muls : mulD (.str z) (.int x) = if repOk z x = true then some (.ok false (.str (Txt.mul z x))) else none := id rfl
theorem e_lens : lenD [.str z] = if z.length ≤ 16777216 then some (.ok false (.int z.length)) else none := id rfl
theorem e_ixz : ixD (.str z) (.int x) = if z.length ≤ 16777216 then (atI z.cps.toList x).map (fun c => .ok false (.str ⟨#[c]⟩)) else none := id rfl
theorem e_slz : slD (.str z) lo hi = if z.length ≤ 16777216 then some (.ok false (.str (cutS z lo hi))) else none := id rfl
theorem e_itz : itemsD (.str z) = some (.ok false (.lst (Dl.signs z))) := id rfl
theorem e_inz : inD (.str ⟨#[ch]⟩) (.str z) = some (.ok false (.bl (decide (ch ∈ z.cps.toList)))) := id rfl
theorem e_ninz : notInD (.str ⟨#[ch]⟩) (.str z) = some (.ok false (.bl (!decide (ch ∈ z.cps.toList)))) := id rfl
theorem e_all : allD [.lst ds] = (asBls ds).map fun ns => .ok false (.bl (ns.all id)) := id rfl
theorem e_intz : intD [.str z] = if z.length ≤ 640 then (PySem.intText? z).map (fun n => .ok false (.int n)) else none := id rfl
def methX (m : Str → Dt → Option Res) (r : Option Res) : Dt → Option Res
  | .str z => bnd r fun _ x => m z x
  | _ => none
theorem e_meth : methG m f h env = bnd (f env) fun _ d => methX m (h env) d := by
  unfold methG methX
  rfl
theorem e_meth1 {r : Option Res} : methX m r (.str z) = bnd r fun _ x => m z x := id rfl
def raiseX (x : Str) (xd : XD) (env : Ev) : Dt → Option SRes
  | .lst ds => if ds.length = xd.n ∧ shOk xd.sh ds = true ∧ xd.nm.length = xd.js.length ∧ xd.n ≤ 100 then (pickL xd.js ds).map fun es => .ex env x (xd.nm.zip es) else none
  | _ => none
theorem e_raise : raiseG c xd fs env = bndS env (fs env) fun _ d => raiseX c xd env d := by
  unfold raiseG raiseX
  rfl
theorem e_thnx {e : Ev} {fl : List (Str × Dt)} : thn (some (.ex e c fl)) g = some (.ex e c fl) := id rfl
end
/-! ### loops -/
/-- how a loop goes: a step goes on, ends it, or leaves the def -/
def Turn (I J : Ev → Prop) (R : Bool → Dt → Prop) : Option SRes → Prop
  | some (.nx e) => I e
  | some (.ct e) => I e
  | some (.bk e) => J e
  | some (.rt fl d) => R fl d
  | _ => False
def Over (J : Ev → Prop) (R : Bool → Dt → Prop) : Option SRes → Prop
  | some (.nx e) => J e
  | some (.rt fl d) => R fl d
  | _ => False
theorem loop_inv {t : Tgt} {g : Ev → Option SRes} {J : Ev → Prop} {R : Bool → Dt → Prop} (I : Nat → Ev → Prop) : ∀ (ds : List Dt) (i : Nat) (env : Ev), I i env →
    (∀ k d e, ds[k]? = some d → I (i + k) e → ∃ e1, bindE t d e = some e1 ∧ Turn (I (i + k + 1)) J R (g e1)) → (∀ e, I (i + ds.length) e → J e) → Over J R (loopG t g ds env)
  | [], i, env, h, _, he => he env h
  | d :: ds, i, env, h, hs, he => by
    obtain ⟨e1, h1, h2⟩ := hs 0 d env rfl h
    unfold loopG
    rw [h1]
    show Over J R (match g e1 with
      | some (.nx e) => loopG t g ds e
      | some (.ct e) => loopG t g ds e
      | some (.bk e) => some (.nx e)
      | r => r)
    have go : ∀ e, I (i + 1) e → Over J R (loopG t g ds e) := fun e hi => loop_inv I ds (i + 1) e hi (fun k d e hk hI => by
      have := hs (k + 1) d e hk (by rw [show i + (k + 1) = i + 1 + k by omega]; exact hI)
      rw [show i + (k + 1) + 1 = i + 1 + k + 1 by omega] at this
      exact this) (fun e hI => he e (by rw [List.length_cons, show i + (ds.length + 1) = i + 1 + ds.length by omega]; exact hI))
    cases q : g e1 with
    | none => rw [q] at h2; exact h2.elim
    | some r =>
      rw [q] at h2
      cases r with
      | nx e => exact go e h2
      | ct e => exact go e h2
      | bk e => exact h2
      | rt fl d => exact h2
      | ex c fs => exact h2.elim
theorem over_nx {J : Ev → Prop} {r : Option SRes} (h : Over J (fun _ _ => False) r) : ∃ e, r = some (.nx e) ∧ J e := by
  cases r with
  | none => exact h.elim
  | some r => cases r <;> first | exact ⟨_, rfl, h⟩ | exact h.elim
theorem over_or {J : Ev → Prop} {R : Bool → Dt → Prop} {r : Option SRes} (h : Over J R r) : (∃ e, r = some (.nx e) ∧ J e) ∨ ∃ fl d, r = some (.rt fl d) ∧ R fl d := by
  cases r with
  | none => exact h.elim
  | some r => cases r <;> first | exact .inl ⟨_, rfl, h⟩ | exact .inr ⟨_, _, rfl, h⟩ | exact h.elim
/-- a comprehension without a test -/
theorem lc_map {envw : Ev} {t : Tgt} {fe : Ev → Option Res} {F : Dt → Dt} : ∀ {ds : List Dt}, (∀ d ∈ ds, ∃ e1, bindE t d envw = some e1 ∧ ∃ fl, fe e1 = some (.ok fl (F d))) → lcL envw t (bG true) fe ds = some (ds.map F)
  | [], _ => rfl
  | d :: ds, h => by
    obtain ⟨e1, h1, fl, h2⟩ := h d List.mem_cons_self
    unfold lcL
    rw [h1]
    show (match bG true e1 with
      | some (.ok _ (.bl true)) => match fe e1 with
        | some (.ok _ x) => (lcL envw t (bG true) fe ds).map (x :: ·)
        | _ => none
      | some (.ok _ (.bl false)) => lcL envw t (bG true) fe ds
      | _ => none) = _
    rw [h2, lc_map fun d' hd => h d' (List.mem_cons_of_mem d hd)]
    rfl
/-- a comprehension with a test -/
theorem lc_filt {envw : Ev} {t : Tgt} {ft fe : Ev → Option Res} {p : Dt → Bool} {F : Dt → Dt} : ∀ {ds : List Dt}, (∀ d ∈ ds, ∃ e1, bindE t d envw = some e1 ∧ (∃ fl, ft e1 = some (.ok fl (.bl (p d)))) ∧ (p d = true → ∃ fl, fe e1 = some (.ok fl (F d)))) → lcL envw t ft fe ds = some ((ds.filter p).map F)
  | [], _ => rfl
  | d :: ds, h => by
    obtain ⟨e1, h1, ⟨f2, h2⟩, h3⟩ := h d List.mem_cons_self
    have ih := lc_filt (envw := envw) (t := t) (ft := ft) (fe := fe) (p := p) (F := F) fun d' hd => h d' (List.mem_cons_of_mem d hd)
    unfold lcL
    rw [h1]
    show (match ft e1 with
      | some (.ok _ (.bl true)) => match fe e1 with
        | some (.ok _ x) => (lcL envw t ft fe ds).map (x :: ·)
        | _ => none
      | some (.ok _ (.bl false)) => lcL envw t ft fe ds
      | _ => none) = _
    cases hp : p d with
    | true =>
      obtain ⟨f4, h4⟩ := h3 hp
      rw [h2, hp, h4, ih, List.filter_cons, hp]
      rfl
    | false =>
      rw [h2, hp, ih, List.filter_cons, hp]
      rfl
theorem rng_get {lo : Int} {n k : Nat} {d : Dt} (h : (rngD lo n)[k]? = some d) : k < n ∧ d = .int (lo + k) := by
  unfold rngD at h
  rw [List.getElem?_map] at h
  cases q : (List.range n)[k]? with
  | none => rw [q] at h; cases h
  | some m =>
    rw [q] at h
    cases h
    obtain ⟨h1, h2⟩ := List.getElem?_eq_some_iff.mp q
    rw [List.length_range] at h1
    rw [List.getElem_range] at h2
    exact ⟨h1, by rw [h2]⟩
theorem rng_len {lo : Int} {n : Nat} : (rngD lo n).length = n := by
  unfold rngD
  rw [List.length_map, List.length_range]
theorem rng_nat {n : Nat} (h : n ≤ 1000000) : rng1D [.int (n : Int)] = some (.ok false (.lst (rngD 0 n))) := by
  rw [e_rng, if_pos ⟨by omega, by omega⟩, Int.toNat_natCast]
theorem rng_int {i : Int} (h : i ≤ 1000000) (h0 : 0 ≤ i) : rng1D [.int i] = some (.ok false (.lst (rngD 0 i.toNat))) := by
  rw [e_rng, if_pos ⟨by omega, by omega⟩]
/-! ### sizes -/
theorem divOk_of {j : Int} (h0 : j ≠ 0) (h : j.natAbs < 2 ^ 9000) : divOk j = true := by
  unfold divOk
  rw [Bool.and_eq_true, decide_eq_true_eq, decide_eq_true_eq]
  exact ⟨h0, (Nat.log2_lt (by omega)).mpr h⟩
theorem mulOk_of {i j : Int} (h1 : i.natAbs < 2 ^ 9000) (h2 : j.natAbs < 2 ^ 9000) : mulOk i j = true := by
  unfold mulOk
  rw [Bool.or_eq_true, Bool.or_eq_true, decide_eq_true_eq, decide_eq_true_eq, decide_eq_true_eq]
  by_cases a : i.natAbs = 0
  · exact .inl (.inl (by rw [a]; decide))
  by_cases b : j.natAbs = 0
  · exact .inl (.inr (by rw [b]; decide))
  have e1 := (Nat.log2_lt a).mpr h1
  have e2 := (Nat.log2_lt b).mpr h2
  exact .inr (by omega)
theorem mulOk_l {i j : Int} (h : i.natAbs < 2 ^ 64) : mulOk i j = true := by
  unfold mulOk
  rw [decide_eq_true h]
  rfl
theorem mulOk_r {i j : Int} (h : j.natAbs < 2 ^ 64) : mulOk i j = true := by
  unfold mulOk
  rw [decide_eq_true h, Bool.or_true]
  rfl
theorem pow9000 {n k : Nat} (h : n < 2 ^ k) (hk : k ≤ 9000) : n < 2 ^ 9000 := Nat.lt_of_lt_of_le h (Nat.pow_le_pow_right (by decide) hk)
theorem divOk_31 {j : Int} (h0 : 0 < j) (h : j < 2147483648) : divOk j = true := divOk_of (by omega) (pow9000 (show j.natAbs < 2 ^ 31 by omega) (by decide))
end Dl

namespace K00
open PySem PySem.Spec PyProof.Rows L2 Evl Dl
def topS (i : Nat) : Stmt := PySem.Challenge.pw_scalesfound_k00_names_and_whole_numbers.main.body.getD i (.Pass ⟨0, 0, 0, 0⟩)
abbrev i_BadText : Stmt := match topS 2 with | .ClassDef _ _ _ b _ _ _ _ _ _ _ => b.getD 0 (.Pass ⟨0, 0, 0, 0⟩) | _ => .Pass ⟨0, 0, 0, 0⟩
theorem nsc_BadText : NdefX.nscB ["self", "place", "__class__"] ["self", "place"] ["__class__"] (defScope i_BadText) = true := by decide +kernel
theorem vis_BadText : (defScope i_BadText).names.lookup ("place" : Str) = some .local := by decide +kernel
abbrev i_BadName : Stmt := match topS 3 with | .ClassDef _ _ _ b _ _ _ _ _ _ _ => b.getD 0 (.Pass ⟨0, 0, 0, 0⟩) | _ => .Pass ⟨0, 0, 0, 0⟩
theorem nsc_BadName : NdefX.nscB ["self", "name", "__class__"] ["self", "name"] ["__class__"] (defScope i_BadName) = true := by decide +kernel
theorem vis_BadName : (defScope i_BadName).names.lookup ("name" : Str) = some .local := by decide +kernel
abbrev i_BadLine : Stmt := match topS 4 with | .ClassDef _ _ _ b _ _ _ _ _ _ _ => b.getD 0 (.Pass ⟨0, 0, 0, 0⟩) | _ => .Pass ⟨0, 0, 0, 0⟩
theorem nsc_BadLine : NdefX.nscB ["self", "place", "__class__"] ["self", "place"] ["__class__"] (defScope i_BadLine) = true := by decide +kernel
theorem vis_BadLine : (defScope i_BadLine).names.lookup ("place" : Str) = some .local := by decide +kernel
abbrev i_TooMany : Stmt := match topS 5 with | .ClassDef _ _ _ b _ _ _ _ _ _ _ => b.getD 0 (.Pass ⟨0, 0, 0, 0⟩) | _ => .Pass ⟨0, 0, 0, 0⟩
theorem nsc_TooMany : NdefX.nscB ["self", "most", "__class__"] ["self", "most"] ["__class__"] (defScope i_TooMany) = true := by decide +kernel
theorem vis_TooMany : (defScope i_TooMany).names.lookup ("most" : Str) = some .local := by decide +kernel
def tC (x c : Str) : Option Bool := if x = "BadText" ∧ c = "BadText" then some true else none
theorem tC_of {x c : Str} {b : Bool} (h : tC x c = some b) : (x = "BadText" ∧ c = "BadText" ∧ b = true) := by
  unfold tC at h
  split at h
  · rename_i e; cases h; exact ⟨e.1, e.2, rfl⟩
  cases h
def tI (c D : Str) : Bool := (decide (c = "BadText") && decide (D = "Fault")) || (decide (c = "BadText") && decide (D = "BadText")) || (decide (c = "BadText") && decide (D = "ValueError"))
def tD : List Str := ["Fault", "BadText", "BadName", "BadLine", "TooMany", "ValueError"]
def tF : List Str := ["place"]
/-! ### is_name -/
abbrev s_is_name : Stmt := topS 10
theorem sc_is_name : FnScope ["word", ".0", "sign"] ["word"] (defScope s_is_name) := ⟨rfl, rfl, rfl, by decide +kernel, rfl, by decide +kernel, by decide +kernel⟩
def C_is_name : Cc := { N := ["word", ".0", "sign"], fns := [], fnq := [], hnd := [], scal := [], consts := fun x => if x = "SMALL" then some (.str "abcdefghijklmnopqrstuvwxyz") else if x = "FIGURES" then some (.str "0123456789") else if x = "LONGEST" then some (.int 200) else none, gcd := false, frz := fun l => [], wf := 1000, excs := [], ctch := fun _ _ => none, isx := fun _ _ => false, isxD := [], xfl := [], xv := none, hot := false }
noncomputable def g_is_name : Ev → Option SRes :=
  (seqG (ifG (orG (notG (chainG leD leD (cstG (.int 1)) (onG lenD (argC (varB 0) argN)) (cstG (.int 8)))) (op2G notInD (op2G ixD (varB 0) (cstG (.int 0))) (cstG (.str "abcdefghijklmnopqrstuvwxyz")))) (seqG (retG (cstG (.bl false)))
  nxG) nxG)
  (seqG (retG (onG allD (argC (lcG [1, 2] (itG (varB 0)) (.nm 2) (bG true) (orG (op2G inD (varB 2) (cstG (.str "abcdefghijklmnopqrstuvwxyz"))) (op2G inD (varB 2) (cstG (.str "0123456789"))))) argN)))
  nxG))
theorem q_is_name (G : Str → List Dt → Option Res) : cmpSs C_is_name G 60 (defScope s_is_name) (defBody s_is_name) = some (g_is_name) := by rfl
noncomputable def F_is_name : List Dt → Option Res := runF 3 1 (g_is_name)
/-! ### is_whole -/
abbrev s_is_whole : Stmt := topS 11
theorem sc_is_whole : FnScope ["word", "figures", ".0", "sign"] ["word"] (defScope s_is_whole) := ⟨rfl, rfl, rfl, by decide +kernel, rfl, by decide +kernel, by decide +kernel⟩
def C_is_whole : Cc := { N := ["word", "figures", ".0", "sign"], fns := [], fnq := [], hnd := [], scal := [], consts := fun x => if x = "SMALL" then some (.str "abcdefghijklmnopqrstuvwxyz") else if x = "FIGURES" then some (.str "0123456789") else if x = "LONGEST" then some (.int 200) else none, gcd := false, frz := fun l => [], wf := 1000, excs := [], ctch := fun _ _ => none, isx := fun _ _ => false, isxD := [], xfl := [], xv := none, hot := false }
noncomputable def g_is_whole : Ev → Option SRes :=
  (seqG (asgG (.nm 1) (selG (op2G eqD (slG (varB 0) none (some (cstG (.int 1)))) (cstG (.str "-"))) (slG (varB 0) (some (cstG (.int 1))) none) (varG 0)))
  (seqG (ifG (notG (chainG leD leD (cstG (.int 1)) (onG lenD (argC (varB 1) argN)) (cstG (.int 200)))) (seqG (retG (cstG (.bl false)))
  nxG) nxG)
  (seqG (ifG (notG (op1G truD (onG allD (argC (lcG [2, 3] (itG (varB 1)) (.nm 3) (bG true) (op2G inD (varB 3) (cstG (.str "0123456789")))) argN)))) (seqG (retG (cstG (.bl false)))
  nxG) nxG)
  (seqG (retG (orG (op2G neD (op2G ixD (varB 1) (cstG (.int 0))) (cstG (.str "0"))) (op2G eqD (varB 0) (cstG (.str "0")))))
  nxG))))
theorem q_is_whole (G : Str → List Dt → Option Res) : cmpSs C_is_whole G 60 (defScope s_is_whole) (defBody s_is_whole) = some (g_is_whole) := by rfl
noncomputable def F_is_whole : List Dt → Option Res := runF 4 1 (g_is_whole)
/-! ### read_whole -/
abbrev s_read_whole : Stmt := topS 12
theorem sc_read_whole : FnScope ["word", "place"] ["word", "place"] (defScope s_read_whole) := ⟨rfl, rfl, rfl, by decide +kernel, rfl, by decide +kernel, by decide +kernel⟩
def C_read_whole : Cc := { N := ["word", "place"], fns := ["is_whole"], fnq := [], hnd := [], scal := ["is_whole"], consts := fun x => if x = "SMALL" then some (.str "abcdefghijklmnopqrstuvwxyz") else if x = "FIGURES" then some (.str "0123456789") else if x = "LONGEST" then some (.int 200) else none, gcd := false, frz := fun l => [], wf := 1000, excs := [("BadText", ⟨["place"], [0], some 0, 1⟩)], ctch := fun _ _ => none, isx := fun _ _ => false, isxD := [], xfl := [], xv := none, hot := false }
noncomputable def g_read_whole (f_is_whole : List Dt → Option Res) : Ev → Option SRes :=
  (seqG (ifG (notG (op1G truD (onG (scD f_is_whole) (argC (varB 0) argN)))) (seqG (raiseG "BadText" ⟨["place"], [0], some 0, 1⟩ (argC (varG 1) argN))
  nxG) nxG)
  (seqG (retG (onG intD (argC (varB 0) argN)))
  nxG))
theorem q_read_whole (G : Str → List Dt → Option Res) : cmpSs C_read_whole G 60 (defScope s_read_whole) (defBody s_read_whole) = some (g_read_whole (G "is_whole")) := by rfl
noncomputable def F_read_whole : List Dt → Option Res := runF 2 2 (g_read_whole (F_is_whole))
/-! ### _law_is_whole -/
abbrev s__law_is_whole : Stmt := topS 14
theorem sc__law_is_whole : FnScope ["x"] ["x"] (defScope s__law_is_whole) := ⟨rfl, rfl, rfl, by decide +kernel, rfl, by decide +kernel, by decide +kernel⟩
def C__law_is_whole : Cc := { N := ["x"], fns := [], fnq := [], hnd := [], scal := [], consts := fun x => if x = "SMALL" then some (.str "abcdefghijklmnopqrstuvwxyz") else if x = "FIGURES" then some (.str "0123456789") else if x = "LONGEST" then some (.int 200) else none, gcd := false, frz := fun l => [], wf := 1000, excs := [], ctch := fun _ _ => none, isx := fun _ _ => false, isxD := [], xfl := [], xv := none, hot := false }
noncomputable def g__law_is_whole : Ev → Option SRes :=
  (seqG (retG (andG (onG isiD (argC (varB 0) (argC (cstG (.ty "int")) argN))) (op1G notD (onG isiD (argC (varB 0) (argC (cstG (.ty "bool")) argN))))))
  nxG)
theorem q__law_is_whole (G : Str → List Dt → Option Res) : cmpSs C__law_is_whole G 60 (defScope s__law_is_whole) (defBody s__law_is_whole) = some (g__law_is_whole) := by rfl
noncomputable def F__law_is_whole : List Dt → Option Res := runF 1 1 (g__law_is_whole)
/-! ### _law_cell -/
abbrev s__law_cell : Stmt := topS 15
theorem sc__law_cell : FnScope ["script", "k"] ["script", "k"] (defScope s__law_cell) := ⟨rfl, rfl, rfl, by decide +kernel, rfl, by decide +kernel, by decide +kernel⟩
def C__law_cell : Cc := { N := ["script", "k"], fns := [], fnq := [], hnd := [], scal := [], consts := fun x => if x = "SMALL" then some (.str "abcdefghijklmnopqrstuvwxyz") else if x = "FIGURES" then some (.str "0123456789") else if x = "LONGEST" then some (.int 200) else none, gcd := false, frz := fun l => [], wf := 1000, excs := [], ctch := fun _ _ => none, isx := fun _ _ => false, isxD := [], xfl := [], xv := none, hot := false }
noncomputable def g__law_cell : Ev → Option SRes :=
  (seqG (ifG (op2G ltD (varB 1) (onG lenD (argC (varB 0) argN))) (seqG (retG (op2G ixD (varB 0) (varB 1)))
  nxG) nxG)
  (seqG (ifG (op2G gtD (onG lenD (argC (varB 0) argN)) (cstG (.int 0))) (seqG (retG (op2G addD (op2G ixD (varB 0) (op2G modD (onG intD (argC (varB 1) argN)) (onG lenD (argC (varB 0) argN)))) (op2G mulD (cstG (.int 1000003)) (varB 1))))
  nxG) nxG)
  (seqG (retV 1)
  nxG)))
theorem q__law_cell (G : Str → List Dt → Option Res) : cmpSs C__law_cell G 60 (defScope s__law_cell) (defBody s__law_cell) = some (g__law_cell) := by rfl
noncomputable def F__law_cell : List Dt → Option Res := runF 2 2 (g__law_cell)
/-! ### _law_many -/
abbrev s__law_many : Stmt := topS 16
theorem sc__law_many : FnScope ["script", "k", "many", "limit", "cell", "left", "found", "turn", "mixed"] ["script", "k", "many", "limit"] (defScope s__law_many) := ⟨rfl, rfl, rfl, by decide +kernel, rfl, by decide +kernel, by decide +kernel⟩
def C__law_many : Cc := { N := ["script", "k", "many", "limit", "cell", "left", "found", "turn", "mixed"], fns := ["_law_cell"], fnq := [], hnd := [], scal := ["_law_cell"], consts := fun x => if x = "SMALL" then some (.str "abcdefghijklmnopqrstuvwxyz") else if x = "FIGURES" then some (.str "0123456789") else if x = "LONGEST" then some (.int 200) else none, gcd := false, frz := fun l => [], wf := 1000, excs := [], ctch := fun _ _ => none, isx := fun _ _ => false, isxD := [], xfl := [], xv := none, hot := false }
noncomputable def g__law_many (f__law_cell : List Dt → Option Res) : Ev → Option SRes :=
  (seqG (asgG (.nm 4) (onG (scD f__law_cell) (argC (varB 0) (argC (varB 1) argN))))
  (seqG (asgG (.nm 5) (onG absD (argC (varB 4) argN)))
  (seqG (asgG (.nm 6) (onG lstD argN))
  (seqG (forG (.nm 7) (onG rng1D (argC (varB 2) argN)) (seqG (ifG (andG (op2G geD (onG absD (argC (varB 4) argN)) (op2G powD (cstG (.int 10)) (cstG (.int 18)))) (op2G gtD (varB 5) (cstG (.int 0)))) (seqG (appG 6 (op2G modD (onG intD (argC (varB 5) argN)) (varB 3)))
  (seqG (asgG (.nm 5) (op2G fdivD (varB 5) (varB 3)))
  nxG)) (seqG (asgG (.nm 8) (op2G modD (onG intD (argC (op2G addD (op2G addD (op2G addD (op2G mulD (varB 4) (cstG (.int 48271))) (op2G mulD (varB 7) (cstG (.int 69621)))) (op2G mulD (cstG (.int 17)) (varB 1))) (cstG (.int 11))) argN)) (cstG (.int 2147483647))))
  (seqG (asgG (.nm 8) (op2G modD (onG intD (argC (op2G addD (op2G addD (op2G mulD (varB 8) (varB 8)) (op2G mulD (varB 7) (cstG (.int 40692)))) (cstG (.int 3))) argN)) (cstG (.int 2147483399))))
  (seqG (asgG (.nm 8) (op2G modD (onG intD (argC (op2G addD (op2G addD (op2G mulD (varB 8) (varB 8)) (op2G mulD (varB 7) (cstG (.int 7)))) (varB 1)) argN)) (cstG (.int 2147483579))))
  (seqG (appG 6 (op2G modD (onG intD (argC (op2G fdivD (varB 8) (cstG (.int 64))) argN)) (varB 3)))
  nxG)))))
  nxG))
  (seqG (retV 6)
  nxG)))))
theorem q__law_many (G : Str → List Dt → Option Res) : cmpSs C__law_many G 60 (defScope s__law_many) (defBody s__law_many) = some (g__law_many (G "_law_cell")) := by rfl
noncomputable def F__law_many : List Dt → Option Res := runF 9 4 (g__law_many (F__law_cell))
/-! ### _law_says -/
abbrev s__law_says : Stmt := topS 17
theorem sc__law_says : FnScope ["told", "due"] ["told", "due"] (defScope s__law_says) := ⟨rfl, rfl, rfl, by decide +kernel, rfl, by decide +kernel, by decide +kernel⟩
def C__law_says : Cc := { N := ["told", "due"], fns := [], fnq := [], hnd := [], scal := [], consts := fun x => if x = "SMALL" then some (.str "abcdefghijklmnopqrstuvwxyz") else if x = "FIGURES" then some (.str "0123456789") else if x = "LONGEST" then some (.int 200) else none, gcd := false, frz := fun l => [], wf := 1000, excs := [], ctch := fun _ _ => none, isx := fun _ _ => false, isxD := [], xfl := [], xv := none, hot := false }
noncomputable def g__law_says : Ev → Option SRes :=
  (seqG (ifG (op1G truD (varB 1)) (seqG (retG (op2G isD (varB 0) (cstG (.bl true))))
  nxG) nxG)
  (seqG (retG (op2G isD (varB 0) (cstG (.bl false))))
  nxG))
theorem q__law_says (G : Str → List Dt → Option Res) : cmpSs C__law_says G 60 (defScope s__law_says) (defBody s__law_says) = some (g__law_says) := by rfl
noncomputable def F__law_says : List Dt → Option Res := runF 2 2 (g__law_says)
/-! ### _law_sign -/
abbrev s__law_sign : Stmt := topS 18
theorem sc__law_sign : FnScope ["x", "signs"] ["x"] (defScope s__law_sign) := ⟨rfl, rfl, rfl, by decide +kernel, rfl, by decide +kernel, by decide +kernel⟩
def C__law_sign : Cc := { N := ["x", "signs"], fns := [], fnq := [], hnd := [], scal := [], consts := fun x => if x = "SMALL" then some (.str "abcdefghijklmnopqrstuvwxyz") else if x = "FIGURES" then some (.str "0123456789") else if x = "LONGEST" then some (.int 200) else none, gcd := false, frz := fun l => [], wf := 1000, excs := [], ctch := fun _ _ => none, isx := fun _ _ => false, isxD := [], xfl := [], xv := none, hot := false }
noncomputable def g__law_sign : Ev → Option SRes :=
  (seqG (asgG (.nm 1) (cstG (.str " !\"#$&'()*+,-./0123456789:;<=>?@ABCDEFGHIJKLMNOPQRSTUVWXYZ[\\]^_`")))
  (seqG (asgG (.nm 1) (op2G addD (varB 1) (cstG (.str "abcdefghijklmnopqrstuvwxyz{|}~\n"))))
  (seqG (retG (op2G ixD (varB 1) (op2G modD (onG intD (argC (varB 0) argN)) (cstG (.int 95)))))
  nxG)))
theorem q__law_sign (G : Str → List Dt → Option Res) : cmpSs C__law_sign G 60 (defScope s__law_sign) (defBody s__law_sign) = some (g__law_sign) := by rfl
noncomputable def F__law_sign : List Dt → Option Res := runF 2 1 (g__law_sign)
/-! ### _law_is_name -/
abbrev s__law_is_name : Stmt := topS 19
theorem sc__law_is_name : FnScope ["word", ".0", "sign"] ["word"] (defScope s__law_is_name) := ⟨rfl, rfl, rfl, by decide +kernel, rfl, by decide +kernel, by decide +kernel⟩
def C__law_is_name : Cc := { N := ["word", ".0", "sign"], fns := [], fnq := [], hnd := [], scal := [], consts := fun x => if x = "SMALL" then some (.str "abcdefghijklmnopqrstuvwxyz") else if x = "FIGURES" then some (.str "0123456789") else if x = "LONGEST" then some (.int 200) else none, gcd := false, frz := fun l => [], wf := 1000, excs := [], ctch := fun _ _ => none, isx := fun _ _ => false, isxD := [], xfl := [], xv := none, hot := false }
noncomputable def g__law_is_name : Ev → Option SRes :=
  (seqG (ifG (orG (op2G ltD (onG lenD (argC (varB 0) argN)) (cstG (.int 1))) (op2G gtD (onG lenD (argC (varB 0) argN)) (cstG (.int 8)))) (seqG (retG (cstG (.bl false)))
  nxG) nxG)
  (seqG (ifG (op2G notInD (op2G ixD (varB 0) (cstG (.int 0))) (cstG (.str "abcdefghijklmnopqrstuvwxyz"))) (seqG (retG (cstG (.bl false)))
  nxG) nxG)
  (seqG (retG (op2G eqD (onG lenD (argC (lcG [1, 2] (itG (varB 0)) (.nm 2) (op2G notInD (varB 2) (cstG (.str "abcdefghijklmnopqrstuvwxyz0123456789"))) (varG 2)) argN)) (cstG (.int 0))))
  nxG)))
theorem q__law_is_name (G : Str → List Dt → Option Res) : cmpSs C__law_is_name G 60 (defScope s__law_is_name) (defBody s__law_is_name) = some (g__law_is_name) := by rfl
noncomputable def F__law_is_name : List Dt → Option Res := runF 3 1 (g__law_is_name)
/-! ### _law_is_written -/
abbrev s__law_is_written : Stmt := topS 20
theorem sc__law_is_written : FnScope ["word", "figures", ".0", "sign"] ["word"] (defScope s__law_is_written) := ⟨rfl, rfl, rfl, by decide +kernel, rfl, by decide +kernel, by decide +kernel⟩
def C__law_is_written : Cc := { N := ["word", "figures", ".0", "sign"], fns := [], fnq := [], hnd := [], scal := [], consts := fun x => if x = "SMALL" then some (.str "abcdefghijklmnopqrstuvwxyz") else if x = "FIGURES" then some (.str "0123456789") else if x = "LONGEST" then some (.int 200) else none, gcd := false, frz := fun l => [], wf := 1000, excs := [], ctch := fun _ _ => none, isx := fun _ _ => false, isxD := [], xfl := [], xv := none, hot := false }
noncomputable def g__law_is_written : Ev → Option SRes :=
  (seqG (asgG (.nm 1) (varG 0))
  (seqG (ifG (op2G eqD (slG (varB 0) none (some (cstG (.int 1)))) (cstG (.str "-"))) (seqG (asgG (.nm 1) (slG (varB 0) (some (cstG (.int 1))) none))
  nxG) nxG)
  (seqG (ifG (orG (op2G ltD (onG lenD (argC (varB 1) argN)) (cstG (.int 1))) (op2G gtD (onG lenD (argC (varB 1) argN)) (cstG (.int 200)))) (seqG (retG (cstG (.bl false)))
  nxG) nxG)
  (seqG (ifG (op2G gtD (onG lenD (argC (lcG [2, 3] (itG (varB 1)) (.nm 3) (op2G notInD (varB 3) (cstG (.str "0123456789"))) (varG 3)) argN)) (cstG (.int 0))) (seqG (retG (cstG (.bl false)))
  nxG) nxG)
  (seqG (retG (orG (op2G neD (op2G ixD (varB 1) (cstG (.int 0))) (cstG (.str "0"))) (op2G eqD (varB 0) (cstG (.str "0")))))
  nxG)))))
theorem q__law_is_written (G : Str → List Dt → Option Res) : cmpSs C__law_is_written G 60 (defScope s__law_is_written) (defBody s__law_is_written) = some (g__law_is_written) := by rfl
noncomputable def F__law_is_written : List Dt → Option Res := runF 4 1 (g__law_is_written)
/-! ### _law_number -/
abbrev s__law_number : Stmt := topS 21
theorem sc__law_number : FnScope ["word", "total", "sign"] ["word"] (defScope s__law_number) := ⟨rfl, rfl, rfl, by decide +kernel, rfl, by decide +kernel, by decide +kernel⟩
def C__law_number : Cc := { N := ["word", "total", "sign"], fns := [], fnq := [], hnd := [], scal := [], consts := fun x => if x = "SMALL" then some (.str "abcdefghijklmnopqrstuvwxyz") else if x = "FIGURES" then some (.str "0123456789") else if x = "LONGEST" then some (.int 200) else none, gcd := false, frz := fun l => [], wf := 1000, excs := [], ctch := fun _ _ => none, isx := fun _ _ => false, isxD := [], xfl := [], xv := none, hot := false }
noncomputable def g__law_number : Ev → Option SRes :=
  (seqG (asgG (.nm 1) (cstG (.int 0)))
  (seqG (forG (.nm 2) (itG (varG 0)) (seqG (ifG (op2G neD (varB 2) (cstG (.str "-"))) (seqG (asgG (.nm 1) (op2G addD (op2G mulD (varB 1) (cstG (.int 10))) (methG findD (cstG (.str "0123456789")) (varB 2))))
  nxG) nxG)
  nxG))
  (seqG (ifG (op2G eqD (slG (varB 0) none (some (cstG (.int 1)))) (cstG (.str "-"))) (seqG (retG (op1G negD (varB 1)))
  nxG) nxG)
  (seqG (retV 1)
  nxG))))
theorem q__law_number (G : Str → List Dt → Option Res) : cmpSs C__law_number G 60 (defScope s__law_number) (defBody s__law_number) = some (g__law_number) := by rfl
noncomputable def F__law_number : List Dt → Option Res := runF 3 1 (g__law_number)
/-! ### _law_free -/
abbrev s__law_free : Stmt := topS 22
theorem sc__law_free : FnScope ["script", "k", "many", ".0", "x"] ["script", "k", "many"] (defScope s__law_free) := ⟨rfl, rfl, rfl, by decide +kernel, rfl, by decide +kernel, by decide +kernel⟩
def C__law_free : Cc := { N := ["script", "k", "many", ".0", "x"], fns := ["_law_many", "_law_sign"], fnq := [], hnd := [], scal := ["_law_sign"], consts := fun x => if x = "SMALL" then some (.str "abcdefghijklmnopqrstuvwxyz") else if x = "FIGURES" then some (.str "0123456789") else if x = "LONGEST" then some (.int 200) else none, gcd := false, frz := fun l => [], wf := 1000, excs := [], ctch := fun _ _ => none, isx := fun _ _ => false, isxD := [], xfl := [], xv := none, hot := false }
noncomputable def g__law_free (f__law_many f__law_sign : List Dt → Option Res) : Ev → Option SRes :=
  (seqG (retG (methG joinD (cstG (.str "")) (lcG [3, 4] (itG (onG f__law_many (argC (varG 0) (argC (varG 1) (argC (varG 2) (argC (cstG (.int 95)) argN)))))) (.nm 4) (bG true) (onG (scD f__law_sign) (argC (varB 4) argN)))))
  nxG)
theorem q__law_free (G : Str → List Dt → Option Res) : cmpSs C__law_free G 60 (defScope s__law_free) (defBody s__law_free) = some (g__law_free (G "_law_many") (G "_law_sign")) := by rfl
noncomputable def F__law_free : List Dt → Option Res := runF 5 3 (g__law_free (F__law_many) (F__law_sign))
/-! ### _law_named -/
abbrev s__law_named : Stmt := topS 23
theorem sc__law_named : FnScope ["script", "k", "many", "digits", "word", "at"] ["script", "k", "many"] (defScope s__law_named) := ⟨rfl, rfl, rfl, by decide +kernel, rfl, by decide +kernel, by decide +kernel⟩
def C__law_named : Cc := { N := ["script", "k", "many", "digits", "word", "at"], fns := ["_law_many"], fnq := [], hnd := [], scal := [], consts := fun x => if x = "SMALL" then some (.str "abcdefghijklmnopqrstuvwxyz") else if x = "FIGURES" then some (.str "0123456789") else if x = "LONGEST" then some (.int 200) else none, gcd := false, frz := fun l => [], wf := 1000, excs := [], ctch := fun _ _ => none, isx := fun _ _ => false, isxD := [], xfl := [], xv := none, hot := false }
noncomputable def g__law_named (f__law_many : List Dt → Option Res) : Ev → Option SRes :=
  (seqG (asgG (.nm 3) (onG f__law_many (argC (varG 0) (argC (varG 1) (argC (varG 2) (argC (cstG (.int 95)) argN))))))
  (seqG (asgG (.nm 4) (cstG (.str "")))
  (seqG (forG (.nm 5) (onG rng1D (argC (varB 2) argN)) (seqG (ifG (op2G eqD (varB 5) (cstG (.int 0))) (seqG (asgG (.nm 4) (op2G ixD (cstG (.str "abcdefghijklmnopqrstuvwxyz")) (op2G modD (onG intD (argC (op2G ixD (varB 3) (cstG (.int 0))) argN)) (cstG (.int 26)))))
  nxG) (seqG (asgG (.nm 4) (op2G addD (varB 4) (op2G ixD (cstG (.str "abcdefghijklmnopqrstuvwxyz0123456789")) (op2G modD (onG intD (argC (op2G ixD (varB 3) (varB 5)) argN)) (cstG (.int 36))))))
  nxG))
  nxG))
  (seqG (retV 4)
  nxG))))
theorem q__law_named (G : Str → List Dt → Option Res) : cmpSs C__law_named G 60 (defScope s__law_named) (defBody s__law_named) = some (g__law_named (G "_law_many")) := by rfl
noncomputable def F__law_named : List Dt → Option Res := runF 6 3 (g__law_named (F__law_many))
/-! ### _law_figured -/
abbrev s__law_figured : Stmt := topS 24
theorem sc__law_figured : FnScope ["script", "k", "many", "row", "digits", "word", ".0", "x"] ["script", "k", "many", "row"] (defScope s__law_figured) := ⟨rfl, rfl, rfl, by decide +kernel, rfl, by decide +kernel, by decide +kernel⟩
def C__law_figured : Cc := { N := ["script", "k", "many", "row", "digits", "word", ".0", "x"], fns := ["_law_many"], fnq := [], hnd := [], scal := [], consts := fun x => if x = "SMALL" then some (.str "abcdefghijklmnopqrstuvwxyz") else if x = "FIGURES" then some (.str "0123456789") else if x = "LONGEST" then some (.int 200) else none, gcd := false, frz := fun l => [], wf := 1000, excs := [], ctch := fun _ _ => none, isx := fun _ _ => false, isxD := [], xfl := [], xv := none, hot := false }
noncomputable def g__law_figured (f__law_many : List Dt → Option Res) : Ev → Option SRes :=
  (seqG (asgG (.nm 4) (onG f__law_many (argC (varG 0) (argC (varG 1) (argC (varG 2) (argC (cstG (.int 10)) argN))))))
  (seqG (ifG (andG (op2G gtD (op2G modD (onG intD (argC (op2G ixD (varB 3) (cstG (.int 5))) argN)) (cstG (.int 5))) (cstG (.int 0))) (op2G eqD (op2G ixD (varB 4) (cstG (.int 0))) (cstG (.int 0)))) (seqG (setG 4 (cstG (.int 0)) (op2G addD (cstG (.int 1)) (op2G modD (onG intD (argC (op2G ixD (varB 3) (cstG (.int 6))) argN)) (cstG (.int 9)))))
  nxG) nxG)
  (seqG (asgG (.nm 5) (methG joinD (cstG (.str "")) (lcG [6, 7] (itG (varB 4)) (.nm 7) (bG true) (op2G ixD (cstG (.str "0123456789")) (varB 7)))))
  (seqG (ifG (op2G eqD (op2G modD (onG intD (argC (op2G fdivD (op2G ixD (varB 3) (cstG (.int 5))) (cstG (.int 5))) argN)) (cstG (.int 3))) (cstG (.int 0))) (seqG (asgG (.nm 5) (op2G addD (cstG (.str "-")) (varB 5)))
  nxG) nxG)
  (seqG (retV 5)
  nxG)))))
theorem q__law_figured (G : Str → List Dt → Option Res) : cmpSs C__law_figured G 60 (defScope s__law_figured) (defBody s__law_figured) = some (g__law_figured (G "_law_many")) := by rfl
noncomputable def F__law_figured : List Dt → Option Res := runF 8 4 (g__law_figured (F__law_many))
/-! ### _law_changed -/
abbrev s__law_changed : Stmt := topS 25
theorem sc__law_changed : FnScope ["word", "row", "at", "sign", "way"] ["word", "row"] (defScope s__law_changed) := ⟨rfl, rfl, rfl, by decide +kernel, rfl, by decide +kernel, by decide +kernel⟩
def C__law_changed : Cc := { N := ["word", "row", "at", "sign", "way"], fns := ["_law_sign"], fnq := [], hnd := [], scal := ["_law_sign"], consts := fun x => if x = "SMALL" then some (.str "abcdefghijklmnopqrstuvwxyz") else if x = "FIGURES" then some (.str "0123456789") else if x = "LONGEST" then some (.int 200) else none, gcd := false, frz := fun l => [], wf := 1000, excs := [], ctch := fun _ _ => none, isx := fun _ _ => false, isxD := [], xfl := [], xv := none, hot := false }
noncomputable def g__law_changed (f__law_sign : List Dt → Option Res) : Ev → Option SRes :=
  (seqG (asgG (.nm 2) (op2G modD (onG intD (argC (op2G ixD (varB 1) (cstG (.int 3))) argN)) (op2G addD (onG lenD (argC (varB 0) argN)) (cstG (.int 1)))))
  (seqG (asgG (.nm 3) (onG (scD f__law_sign) (argC (op2G ixD (varB 1) (cstG (.int 4))) argN)))
  (seqG (asgG (.nm 4) (op2G modD (onG intD (argC (op2G ixD (varB 1) (cstG (.int 2))) argN)) (cstG (.int 6))))
  (seqG (ifG (op2G eqD (varB 4) (cstG (.int 1))) (seqG (retG (op2G addD (op2G addD (slG (varB 0) none (some (varB 2))) (varB 3)) (slG (varB 0) (some (op2G addD (varB 2) (cstG (.int 1)))) none)))
  nxG) nxG)
  (seqG (ifG (op2G eqD (varB 4) (cstG (.int 2))) (seqG (retG (op2G addD (slG (varB 0) none (some (varB 2))) (slG (varB 0) (some (op2G addD (varB 2) (cstG (.int 1)))) none)))
  nxG) nxG)
  (seqG (ifG (op2G eqD (varB 4) (cstG (.int 3))) (seqG (retG (op2G addD (op2G addD (slG (varB 0) none (some (varB 2))) (slG (varB 0) (some (varB 2)) (some (op2G addD (varB 2) (cstG (.int 1)))))) (slG (varB 0) (some (varB 2)) none)))
  nxG) nxG)
  (seqG (ifG (op2G eqD (varB 4) (cstG (.int 4))) (seqG (retG (op2G addD (op2G addD (slG (varB 0) none (some (varB 2))) (varB 3)) (slG (varB 0) (some (varB 2)) none)))
  nxG) nxG)
  (seqG (retV 0)
  nxG))))))))
theorem q__law_changed (G : Str → List Dt → Option Res) : cmpSs C__law_changed G 60 (defScope s__law_changed) (defBody s__law_changed) = some (g__law_changed (G "_law_sign")) := by rfl
noncomputable def F__law_changed : List Dt → Option Res := runF 5 2 (g__law_changed (F__law_sign))
/-! ### _law_drawn -/
abbrev s__law_drawn : Stmt := topS 26
theorem sc__law_drawn : FnScope ["script", "turn", "row", "way", "many"] ["script", "turn"] (defScope s__law_drawn) := ⟨rfl, rfl, rfl, by decide +kernel, rfl, by decide +kernel, by decide +kernel⟩
def C__law_drawn : Cc := { N := ["script", "turn", "row", "way", "many"], fns := ["_law_many", "_law_free", "_law_changed", "_law_named", "_law_figured"], fnq := [], hnd := [], scal := ["_law_free", "_law_changed", "_law_named", "_law_figured"], consts := fun x => if x = "SMALL" then some (.str "abcdefghijklmnopqrstuvwxyz") else if x = "FIGURES" then some (.str "0123456789") else if x = "LONGEST" then some (.int 200) else none, gcd := false, frz := fun l => [], wf := 1000, excs := [], ctch := fun _ _ => none, isx := fun _ _ => false, isxD := [], xfl := [], xv := none, hot := false }
noncomputable def g__law_drawn (f__law_many f__law_free f__law_changed f__law_named f__law_figured : List Dt → Option Res) : Ev → Option SRes :=
  (seqG (asgG (.nm 2) (onG f__law_many (argC (varG 0) (argC (op2G mulD (cstG (.int 4)) (varB 1)) (argC (cstG (.int 8)) (argC (cstG (.int 2520)) argN))))))
  (seqG (asgG (.nm 3) (op2G modD (onG intD (argC (op2G ixD (varB 2) (cstG (.int 0))) argN)) (cstG (.int 3))))
  (seqG (ifG (op2G eqD (varB 3) (cstG (.int 0))) (seqG (retG (onG (scD f__law_free) (argC (varB 0) (argC (op2G addD (op2G mulD (cstG (.int 4)) (varB 1)) (cstG (.int 1))) (argC (op2G modD (onG intD (argC (op2G ixD (varB 2) (cstG (.int 1))) argN)) (cstG (.int 10))) argN)))))
  nxG) nxG)
  (seqG (ifG (op2G eqD (varB 3) (cstG (.int 1))) (seqG (retG (onG (scD f__law_changed) (argC (onG (scD f__law_named) (argC (varB 0) (argC (op2G addD (op2G mulD (cstG (.int 4)) (varB 1)) (cstG (.int 2))) (argC (op2G addD (cstG (.int 1)) (op2G modD (onG intD (argC (op2G ixD (varB 2) (cstG (.int 1))) argN)) (cstG (.int 9)))) argN)))) (argC (varB 2) argN))))
  nxG) nxG)
  (seqG (asgG (.nm 4) (op2G ixD (onG lstD (argC (cstG (.int 1)) (argC (cstG (.int 2)) (argC (cstG (.int 3)) (argC (cstG (.int 9)) (argC (cstG (.int 199)) (argC (cstG (.int 200)) (argC (cstG (.int 201)) (argC (op2G addD (cstG (.int 1)) (op2G modD (onG intD (argC (op2G ixD (varB 2) (cstG (.int 7))) argN)) (cstG (.int 201)))) argN))))))))) (op2G modD (onG intD (argC (op2G ixD (varB 2) (cstG (.int 1))) argN)) (cstG (.int 8)))))
  (seqG (retG (onG (scD f__law_changed) (argC (onG (scD f__law_figured) (argC (varB 0) (argC (op2G addD (op2G mulD (cstG (.int 4)) (varB 1)) (cstG (.int 3))) (argC (varB 4) (argC (varB 2) argN))))) (argC (varB 2) argN))))
  nxG))))))
theorem q__law_drawn (G : Str → List Dt → Option Res) : cmpSs C__law_drawn G 60 (defScope s__law_drawn) (defBody s__law_drawn) = some (g__law_drawn (G "_law_many") (G "_law_free") (G "_law_changed") (G "_law_named") (G "_law_figured")) := by rfl
noncomputable def F__law_drawn : List Dt → Option Res := runF 5 2 (g__law_drawn (F__law_many) (F__law_free) (F__law_changed) (F__law_named) (F__law_figured))
/-! ### _law_near -/
abbrev s__law_near : Stmt := topS 27
theorem sc__law_near : FnScope ["near", "many"] [] (defScope s__law_near) := ⟨rfl, rfl, rfl, by decide +kernel, rfl, by decide +kernel, by decide +kernel⟩
def C__law_near : Cc := { N := ["near", "many"], fns := [], fnq := [], hnd := [], scal := [], consts := fun x => if x = "SMALL" then some (.str "abcdefghijklmnopqrstuvwxyz") else if x = "FIGURES" then some (.str "0123456789") else if x = "LONGEST" then some (.int 200) else none, gcd := false, frz := fun l => [], wf := 1000, excs := [], ctch := fun _ _ => none, isx := fun _ _ => false, isxD := [], xfl := [], xv := none, hot := false }
noncomputable def g__law_near : Ev → Option SRes :=
  (seqG (asgG (.nm 0) (onG lstD (argC (cstG (.str "")) (argC (cstG (.str "-")) (argC (cstG (.str "0")) (argC (cstG (.str "-0")) (argC (cstG (.str "00")) (argC (cstG (.str "01")) (argC (cstG (.str "-01")) (argC (cstG (.str "+1")) (argC (cstG (.str "--1")) (argC (cstG (.str "1-")) (argC (cstG (.str " 1")) (argC (cstG (.str "1 ")) (argC (cstG (.str "1\n")) (argC (cstG (.str "-\n1")) (argC (cstG (.str "1_0")) (argC (cstG (.str "0x1")) (argC (cstG (.str "1.0")) argN)))))))))))))))))))
  (seqG (asgG (.nm 0) (op2G addD (varB 0) (onG lstD (argC (cstG (.str "1e3")) (argC (cstG (.str "10")) (argC (cstG (.str "-7")) (argC (cstG (.str "1,0")) (argC (cstG (.str "a")) (argC (cstG (.str "z9")) (argC (cstG (.str "A")) (argC (cstG (.str "aB")) (argC (cstG (.str "9a")) (argC (cstG (.str "a_b")) (argC (cstG (.str "a b")) (argC (cstG (.str "a\n")) (argC (cstG (.str "\na")) (argC (cstG (.str "abcdefgh")) argN)))))))))))))))))
  (seqG (asgG (.nm 0) (op2G addD (varB 0) (onG lstD (argC (cstG (.str "abcdefghi")) (argC (cstG (.str "a1234567")) (argC (cstG (.str "a12345678")) (argC (cstG (.str "Step")) (argC (cstG (.str "a-b")) (argC (cstG (.str "-a")) argN)))))))))
  (seqG (forG (.nm 1) (itG (onG lstD (argC (cstG (.int 199)) (argC (cstG (.int 200)) (argC (cstG (.int 201)) argN))))) (seqG (asgG (.nm 0) (op2G addD (varB 0) (onG lstD (argC (op2G mulD (cstG (.str "9")) (varB 1)) (argC (op2G addD (cstG (.str "-")) (op2G mulD (cstG (.str "9")) (varB 1))) argN)))))
  nxG))
  (seqG (retG (op2G addD (varB 0) (onG lstD (argC (op2G addD (cstG (.str "0")) (op2G mulD (cstG (.str "9")) (cstG (.int 199)))) (argC (op2G addD (cstG (.str "1")) (op2G mulD (cstG (.str "0")) (cstG (.int 199)))) argN)))))
  nxG)))))
theorem q__law_near (G : Str → List Dt → Option Res) : cmpSs C__law_near G 60 (defScope s__law_near) (defBody s__law_near) = some (g__law_near) := by rfl
noncomputable def F__law_near : List Dt → Option Res := runF 2 0 (g__law_near)
/-! ### _law_asked -/
abbrev s__law_asked : Stmt := topS 28
theorem sc__law_asked : FnScope ["word", "place", "due", "told", "e"] ["word", "place"] (defScope s__law_asked) := ⟨rfl, rfl, rfl, by decide +kernel, rfl, by decide +kernel, by decide +kernel⟩
def C__law_asked : Cc := { N := ["word", "place", "due", "told", "e"], fns := ["_law_is_written", "_law_says", "is_whole", "is_name", "_law_is_name", "read_whole", "_law_number", "_law_is_whole"], fnq := ["_law_is_whole"], hnd := ["BadText"], scal := ["_law_is_written", "_law_says", "is_whole", "is_name", "_law_is_name", "_law_number", "_law_is_whole", "_law_is_whole"], consts := fun x => if x = "SMALL" then some (.str "abcdefghijklmnopqrstuvwxyz") else if x = "FIGURES" then some (.str "0123456789") else if x = "LONGEST" then some (.int 200) else none, gcd := false, frz := fun l => [], wf := 1000, excs := [], ctch := tC, isx := tI, isxD := tD, xfl := tF, xv := none, hot := false }
noncomputable def g__law_asked (f__law_is_written f__law_says f_is_whole f_is_name f__law_is_name f_read_whole f__law_number f__law_is_whole : List Dt → Option Res) : Ev → Option SRes :=
  (seqG (asgG (.nm 2) (onG (scD f__law_is_written) (argC (varB 0) argN)))
  (seqG (ifG (orG (notG (op1G truD (onG (scD f__law_says) (argC (onG (scD f_is_name) (argC (varB 0) argN)) (argC (onG (scD f__law_is_name) (argC (varB 0) argN)) argN))))) (notG (op1G truD (onG (scD f__law_says) (argC (onG (scD f_is_whole) (argC (varB 0) argN)) (argC (varB 2) argN)))))) (seqG (retG (cstG (.bl false)))
  nxG) nxG)
  (seqG (tryG (tC "BadText") 4 (seqG (asgG (.nm 3) (onG f_read_whole (argC (varG 0) (argC (varG 1) argN))))
  (seqG (retG (andG (varG 2) (andG (onG (scD f__law_is_whole) (argC (varB 3) argN)) (op2G eqD (varB 3) (onG (scD f__law_number) (argC (varB 0) argN))))))
  nxG)) (fun a dx c => (seqG (ifG (orG (op1G truD (varB 2)) (orG (notG (op1G truD (onG (scD f__law_is_whole) (argC (fldG 4 a dx "place") argN)))) (op2G neD (fldG 4 a dx "place") (varB 1)))) (seqG (retG (cstG (.bl false)))
  nxG) nxG)
  (seqG (ifG (orG (notG (op1G truD (isxG 4 a dx (tI c "Fault")))) (notG (op1G truD (isxG 4 a dx (tI c "ValueError"))))) (seqG (retG (cstG (.bl false)))
  nxG) nxG)
  (seqG (retG (andG (op1G notD (isxG 4 a dx (tI c "BadLine"))) (andG (op1G notD (isxG 4 a dx (tI c "BadName"))) (op1G notD (isxG 4 a dx (tI c "TooMany"))))))
  nxG)))))
  nxG)))
theorem q__law_asked (G : Str → List Dt → Option Res) : cmpSs C__law_asked G 60 (defScope s__law_asked) (defBody s__law_asked) = some (g__law_asked (G "_law_is_written") (G "_law_says") (G "is_whole") (G "is_name") (G "_law_is_name") (G "read_whole") (G "_law_number") (G "_law_is_whole")) := by rfl
noncomputable def F__law_asked : List Dt → Option Res := runF 5 2 (g__law_asked (F__law_is_written) (F__law_says) (F_is_whole) (F_is_name) (F__law_is_name) (F_read_whole) (F__law_number) (F__law_is_whole))
/-! ### law -/
abbrev s_law : Stmt := topS 29
theorem sc_law : FnScope ["script", "place", "drawn", "word", ".0", "turn"] ["script"] (defScope s_law) := ⟨rfl, rfl, rfl, by decide +kernel, rfl, by decide +kernel, by decide +kernel⟩
def C_law : Cc := { N := ["script", "place", "drawn", "word", ".0", "turn"], fns := ["_law_cell", "_law_drawn", "_law_near", "_law_asked"], fnq := [], hnd := [], scal := ["_law_cell", "_law_drawn", "_law_asked"], consts := fun x => if x = "SMALL" then some (.str "abcdefghijklmnopqrstuvwxyz") else if x = "FIGURES" then some (.str "0123456789") else if x = "LONGEST" then some (.int 200) else none, gcd := false, frz := fun l => [], wf := 1000, excs := [], ctch := fun _ _ => none, isx := fun _ _ => false, isxD := [], xfl := [], xv := none, hot := false }
noncomputable def g_law (f__law_cell f__law_drawn f__law_near f__law_asked : List Dt → Option Res) : Ev → Option SRes :=
  (seqG (asgG (.nm 1) (op2G modD (onG intD (argC (onG (scD f__law_cell) (argC (varB 0) (argC (cstG (.int 24)) argN))) argN)) (cstG (.int 1000000))))
  (seqG (asgG (.nm 2) (lcG [4, 5] (onG rng1D (argC (cstG (.int 6)) argN)) (.nm 5) (bG true) (onG (scD f__law_drawn) (argC (varB 0) (argC (varB 5) argN)))))
  (seqG (forG (.nm 3) (itG (op2G addD (op2G addD (fun _ => f__law_near []) (varB 2)) (slG (varB 2) none (some (cstG (.int 1)))))) (seqG (ifG (notG (op1G truD (onG (scD f__law_asked) (argC (varB 3) (argC (varB 1) argN))))) (seqG (retG (cstG (.bl false)))
  nxG) nxG)
  nxG))
  (seqG (retG (cstG (.bl true)))
  nxG))))
theorem q_law (G : Str → List Dt → Option Res) : cmpSs C_law G 60 (defScope s_law) (defBody s_law) = some (g_law (G "_law_cell") (G "_law_drawn") (G "_law_near") (G "_law_asked")) := by rfl
noncomputable def F_law : List Dt → Option Res := runF 6 1 (g_law (F__law_cell) (F__law_drawn) (F__law_near) (F__law_asked))
/-! ### the defs stand -/
section
variable {P : Program} {w : World} {K : PySem.W.Frag} {mg : Str → Option Value} {base : Heap}
theorem names {C : Cc} (hb : ∀ x ∈ bltNames, mg x = none) (hg : C.gcd = true → mg "gcd" = some (.builtin "math.gcd")) (hc : ∀ x d, C.consts x = some d → isCst d = true ∧ ∃ u, mg x = some u ∧ RelV (cstV d) u) : Names C mg := ⟨hb, hg, hc⟩
theorem cst_of (k_SMALL : ∃ u, mg "SMALL" = some u ∧ RelV (cstV (.str "abcdefghijklmnopqrstuvwxyz")) u) (k_FIGURES : ∃ u, mg "FIGURES" = some u ∧ RelV (cstV (.str "0123456789")) u) (k_LONGEST : ∃ u, mg "LONGEST" = some u ∧ RelV (cstV (.int 200)) u) : ∀ (x : Str) (d : Dt), (if x = ("SMALL" : Str) then some (.str "abcdefghijklmnopqrstuvwxyz") else if x = ("FIGURES" : Str) then some (.str "0123456789") else if x = ("LONGEST" : Str) then some (.int 200) else none : Option Dt) = some d → isCst d = true ∧ ∃ u, mg x = some u ∧ RelV (cstV d) u := fun x d h => by
  split at h
  · rename_i e; cases h; rw [e]; exact ⟨rfl, k_SMALL⟩
  split at h
  · rename_i e; cases h; rw [e]; exact ⟨rfl, k_FIGURES⟩
  split at h
  · rename_i e; cases h; rw [e]; exact ⟨rfl, k_LONGEST⟩
  cases h
def H__law_is_whole : Cc := { N := ["x"], fns := [], fnq := [], hnd := [], scal := [], consts := fun x => if x = "SMALL" then some (.str "abcdefghijklmnopqrstuvwxyz") else if x = "FIGURES" then some (.str "0123456789") else if x = "LONGEST" then some (.int 200) else none, gcd := false, frz := fun l => [], wf := 1000, excs := [], ctch := fun _ _ => none, isx := fun _ _ => false, isxD := [], xfl := [], xv := none, hot := true }
theorem qh__law_is_whole (G : Str → List Dt → Option Res) : cmpSs0 H__law_is_whole G 60 (defScope s__law_is_whole) (defBody s__law_is_whole) = some g__law_is_whole := by rfl
theorem sq__law_is_whole {f : Addr} {fd : FuncData} (F : Fun K "_law_is_whole" "_law_is_whole" s__law_is_whole f fd) (b : Binds K fd ["x"] []) (m : mg "_law_is_whole" = some (.ref f)) (hb : ∀ x ∈ bltNames, mg x = none) (k_SMALL : ∃ u, mg "SMALL" = some u ∧ RelV (cstV (.str "abcdefghijklmnopqrstuvwxyz")) u) (k_FIGURES : ∃ u, mg "FIGURES" = some u ∧ RelV (cstV (.str "0123456789")) u) (k_LONGEST : ∃ u, mg "LONGEST" = some u ∧ RelV (cstV (.int 200)) u) : StandsQ P w K mg base 1 "_law_is_whole" F__law_is_whole := (def_q (k := 0) (C := H__law_is_whole) (G := tabG []) F sc__law_is_whole b m (names hb (fun h => by cases h) (cst_of k_SMALL k_FIGURES k_LONGEST)) rfl rfl fa_nil (qh__law_is_whole _)).eq rfl
theorem st_is_name {f : Addr} {fd : FuncData} (F : Fun K "is_name" "is_name" s_is_name f fd) (b : Binds K fd ["word"] []) (m : mg "is_name" = some (.ref f)) (hb : ∀ x ∈ bltNames, mg x = none) (k_SMALL : ∃ u, mg "SMALL" = some u ∧ RelV (cstV (.str "abcdefghijklmnopqrstuvwxyz")) u) (k_FIGURES : ∃ u, mg "FIGURES" = some u ∧ RelV (cstV (.str "0123456789")) u) (k_LONGEST : ∃ u, mg "LONGEST" = some u ∧ RelV (cstV (.int 200)) u) : Stands P w K mg base 1 "is_name" F_is_name := (def_ok (k := 0) (C := C_is_name) (G := tabG []) F sc_is_name b m (Ground.plain (names hb (fun h => by cases h) (cst_of k_SMALL k_FIGURES k_LONGEST)) rfl rfl fa_nil rfl (fun _ _ => rfl) rfl rfl) (q_is_name _)).eq rfl
theorem st_is_whole {f : Addr} {fd : FuncData} (F : Fun K "is_whole" "is_whole" s_is_whole f fd) (b : Binds K fd ["word"] []) (m : mg "is_whole" = some (.ref f)) (hb : ∀ x ∈ bltNames, mg x = none) (k_SMALL : ∃ u, mg "SMALL" = some u ∧ RelV (cstV (.str "abcdefghijklmnopqrstuvwxyz")) u) (k_FIGURES : ∃ u, mg "FIGURES" = some u ∧ RelV (cstV (.str "0123456789")) u) (k_LONGEST : ∃ u, mg "LONGEST" = some u ∧ RelV (cstV (.int 200)) u) : Stands P w K mg base 1 "is_whole" F_is_whole := (def_ok (k := 0) (C := C_is_whole) (G := tabG []) F sc_is_whole b m (Ground.plain (names hb (fun h => by cases h) (cst_of k_SMALL k_FIGURES k_LONGEST)) rfl rfl fa_nil rfl (fun _ _ => rfl) rfl rfl) (q_is_whole _)).eq rfl
theorem st_read_whole {f : Addr} {fd : FuncData} (F : Fun K "read_whole" "read_whole" s_read_whole f fd) (b : Binds K fd ["word", "place"] []) (m : mg "read_whole" = some (.ref f)) (hb : ∀ x ∈ bltNames, mg x = none) (h_is_whole : Stands P w K mg base 1 "is_whole" (F_is_whole)) (e_BadText : StandsX P w K mg base 2 "BadText" ⟨["place"], [0], some 0, 1⟩) (k_SMALL : ∃ u, mg "SMALL" = some u ∧ RelV (cstV (.str "abcdefghijklmnopqrstuvwxyz")) u) (k_FIGURES : ∃ u, mg "FIGURES" = some u ∧ RelV (cstV (.str "0123456789")) u) (k_LONGEST : ∃ u, mg "LONGEST" = some u ∧ RelV (cstV (.int 200)) u) : Stands P w K mg base 3 "read_whole" F_read_whole := (def_ok (k := 2) (C := C_read_whole) (G := tabG [("is_whole", F_is_whole)]) F sc_read_whole b m ⟨(names hb (fun h => by cases h) (cst_of k_SMALL k_FIGURES k_LONGEST)), rfl, rfl, (fa_cons ((h_is_whole.mono (by decide)).eq rfl) fa_nil), ⟨fun x hx => (by cases hx), fun x c z => (by cases z), fun x c z => (by cases z)⟩, (ex_cons (e_BadText.mono (by decide)) ex_nil), fa_nil⟩ (q_read_whole _)).eq rfl
theorem st__law_is_whole {f : Addr} {fd : FuncData} (F : Fun K "_law_is_whole" "_law_is_whole" s__law_is_whole f fd) (b : Binds K fd ["x"] []) (m : mg "_law_is_whole" = some (.ref f)) (hb : ∀ x ∈ bltNames, mg x = none) (k_SMALL : ∃ u, mg "SMALL" = some u ∧ RelV (cstV (.str "abcdefghijklmnopqrstuvwxyz")) u) (k_FIGURES : ∃ u, mg "FIGURES" = some u ∧ RelV (cstV (.str "0123456789")) u) (k_LONGEST : ∃ u, mg "LONGEST" = some u ∧ RelV (cstV (.int 200)) u) : Stands P w K mg base 1 "_law_is_whole" F__law_is_whole := (def_ok (k := 0) (C := C__law_is_whole) (G := tabG []) F sc__law_is_whole b m (Ground.plain (names hb (fun h => by cases h) (cst_of k_SMALL k_FIGURES k_LONGEST)) rfl rfl fa_nil rfl (fun _ _ => rfl) rfl rfl) (q__law_is_whole _)).eq rfl
theorem st__law_cell {f : Addr} {fd : FuncData} (F : Fun K "_law_cell" "_law_cell" s__law_cell f fd) (b : Binds K fd ["script", "k"] []) (m : mg "_law_cell" = some (.ref f)) (hb : ∀ x ∈ bltNames, mg x = none) (k_SMALL : ∃ u, mg "SMALL" = some u ∧ RelV (cstV (.str "abcdefghijklmnopqrstuvwxyz")) u) (k_FIGURES : ∃ u, mg "FIGURES" = some u ∧ RelV (cstV (.str "0123456789")) u) (k_LONGEST : ∃ u, mg "LONGEST" = some u ∧ RelV (cstV (.int 200)) u) : Stands P w K mg base 1 "_law_cell" F__law_cell := (def_ok (k := 0) (C := C__law_cell) (G := tabG []) F sc__law_cell b m (Ground.plain (names hb (fun h => by cases h) (cst_of k_SMALL k_FIGURES k_LONGEST)) rfl rfl fa_nil rfl (fun _ _ => rfl) rfl rfl) (q__law_cell _)).eq rfl
theorem st__law_many {f : Addr} {fd : FuncData} (F : Fun K "_law_many" "_law_many" s__law_many f fd) (b : Binds K fd ["script", "k", "many", "limit"] []) (m : mg "_law_many" = some (.ref f)) (hb : ∀ x ∈ bltNames, mg x = none) (h__law_cell : Stands P w K mg base 1 "_law_cell" (F__law_cell)) (k_SMALL : ∃ u, mg "SMALL" = some u ∧ RelV (cstV (.str "abcdefghijklmnopqrstuvwxyz")) u) (k_FIGURES : ∃ u, mg "FIGURES" = some u ∧ RelV (cstV (.str "0123456789")) u) (k_LONGEST : ∃ u, mg "LONGEST" = some u ∧ RelV (cstV (.int 200)) u) : Stands P w K mg base 2 "_law_many" F__law_many := (def_ok (k := 1) (C := C__law_many) (G := tabG [("_law_cell", F__law_cell)]) F sc__law_many b m (Ground.plain (names hb (fun h => by cases h) (cst_of k_SMALL k_FIGURES k_LONGEST)) rfl rfl (fa_cons ((h__law_cell.mono (by decide)).eq rfl) fa_nil) rfl (fun _ _ => rfl) rfl rfl) (q__law_many _)).eq rfl
theorem st__law_says {f : Addr} {fd : FuncData} (F : Fun K "_law_says" "_law_says" s__law_says f fd) (b : Binds K fd ["told", "due"] []) (m : mg "_law_says" = some (.ref f)) (hb : ∀ x ∈ bltNames, mg x = none) (k_SMALL : ∃ u, mg "SMALL" = some u ∧ RelV (cstV (.str "abcdefghijklmnopqrstuvwxyz")) u) (k_FIGURES : ∃ u, mg "FIGURES" = some u ∧ RelV (cstV (.str "0123456789")) u) (k_LONGEST : ∃ u, mg "LONGEST" = some u ∧ RelV (cstV (.int 200)) u) : Stands P w K mg base 1 "_law_says" F__law_says := (def_ok (k := 0) (C := C__law_says) (G := tabG []) F sc__law_says b m (Ground.plain (names hb (fun h => by cases h) (cst_of k_SMALL k_FIGURES k_LONGEST)) rfl rfl fa_nil rfl (fun _ _ => rfl) rfl rfl) (q__law_says _)).eq rfl
theorem st__law_sign {f : Addr} {fd : FuncData} (F : Fun K "_law_sign" "_law_sign" s__law_sign f fd) (b : Binds K fd ["x"] []) (m : mg "_law_sign" = some (.ref f)) (hb : ∀ x ∈ bltNames, mg x = none) (k_SMALL : ∃ u, mg "SMALL" = some u ∧ RelV (cstV (.str "abcdefghijklmnopqrstuvwxyz")) u) (k_FIGURES : ∃ u, mg "FIGURES" = some u ∧ RelV (cstV (.str "0123456789")) u) (k_LONGEST : ∃ u, mg "LONGEST" = some u ∧ RelV (cstV (.int 200)) u) : Stands P w K mg base 1 "_law_sign" F__law_sign := (def_ok (k := 0) (C := C__law_sign) (G := tabG []) F sc__law_sign b m (Ground.plain (names hb (fun h => by cases h) (cst_of k_SMALL k_FIGURES k_LONGEST)) rfl rfl fa_nil rfl (fun _ _ => rfl) rfl rfl) (q__law_sign _)).eq rfl
theorem st__law_is_name {f : Addr} {fd : FuncData} (F : Fun K "_law_is_name" "_law_is_name" s__law_is_name f fd) (b : Binds K fd ["word"] []) (m : mg "_law_is_name" = some (.ref f)) (hb : ∀ x ∈ bltNames, mg x = none) (k_SMALL : ∃ u, mg "SMALL" = some u ∧ RelV (cstV (.str "abcdefghijklmnopqrstuvwxyz")) u) (k_FIGURES : ∃ u, mg "FIGURES" = some u ∧ RelV (cstV (.str "0123456789")) u) (k_LONGEST : ∃ u, mg "LONGEST" = some u ∧ RelV (cstV (.int 200)) u) : Stands P w K mg base 1 "_law_is_name" F__law_is_name := (def_ok (k := 0) (C := C__law_is_name) (G := tabG []) F sc__law_is_name b m (Ground.plain (names hb (fun h => by cases h) (cst_of k_SMALL k_FIGURES k_LONGEST)) rfl rfl fa_nil rfl (fun _ _ => rfl) rfl rfl) (q__law_is_name _)).eq rfl
theorem st__law_is_written {f : Addr} {fd : FuncData} (F : Fun K "_law_is_written" "_law_is_written" s__law_is_written f fd) (b : Binds K fd ["word"] []) (m : mg "_law_is_written" = some (.ref f)) (hb : ∀ x ∈ bltNames, mg x = none) (k_SMALL : ∃ u, mg "SMALL" = some u ∧ RelV (cstV (.str "abcdefghijklmnopqrstuvwxyz")) u) (k_FIGURES : ∃ u, mg "FIGURES" = some u ∧ RelV (cstV (.str "0123456789")) u) (k_LONGEST : ∃ u, mg "LONGEST" = some u ∧ RelV (cstV (.int 200)) u) : Stands P w K mg base 1 "_law_is_written" F__law_is_written := (def_ok (k := 0) (C := C__law_is_written) (G := tabG []) F sc__law_is_written b m (Ground.plain (names hb (fun h => by cases h) (cst_of k_SMALL k_FIGURES k_LONGEST)) rfl rfl fa_nil rfl (fun _ _ => rfl) rfl rfl) (q__law_is_written _)).eq rfl
theorem st__law_number {f : Addr} {fd : FuncData} (F : Fun K "_law_number" "_law_number" s__law_number f fd) (b : Binds K fd ["word"] []) (m : mg "_law_number" = some (.ref f)) (hb : ∀ x ∈ bltNames, mg x = none) (k_SMALL : ∃ u, mg "SMALL" = some u ∧ RelV (cstV (.str "abcdefghijklmnopqrstuvwxyz")) u) (k_FIGURES : ∃ u, mg "FIGURES" = some u ∧ RelV (cstV (.str "0123456789")) u) (k_LONGEST : ∃ u, mg "LONGEST" = some u ∧ RelV (cstV (.int 200)) u) : Stands P w K mg base 1 "_law_number" F__law_number := (def_ok (k := 0) (C := C__law_number) (G := tabG []) F sc__law_number b m (Ground.plain (names hb (fun h => by cases h) (cst_of k_SMALL k_FIGURES k_LONGEST)) rfl rfl fa_nil rfl (fun _ _ => rfl) rfl rfl) (q__law_number _)).eq rfl
theorem st__law_free {f : Addr} {fd : FuncData} (F : Fun K "_law_free" "_law_free" s__law_free f fd) (b : Binds K fd ["script", "k", "many"] []) (m : mg "_law_free" = some (.ref f)) (hb : ∀ x ∈ bltNames, mg x = none) (h__law_many : Stands P w K mg base 2 "_law_many" (F__law_many)) (h__law_sign : Stands P w K mg base 1 "_law_sign" (F__law_sign)) (k_SMALL : ∃ u, mg "SMALL" = some u ∧ RelV (cstV (.str "abcdefghijklmnopqrstuvwxyz")) u) (k_FIGURES : ∃ u, mg "FIGURES" = some u ∧ RelV (cstV (.str "0123456789")) u) (k_LONGEST : ∃ u, mg "LONGEST" = some u ∧ RelV (cstV (.int 200)) u) : Stands P w K mg base 3 "_law_free" F__law_free := (def_ok (k := 2) (C := C__law_free) (G := tabG [("_law_many", F__law_many), ("_law_sign", F__law_sign)]) F sc__law_free b m (Ground.plain (names hb (fun h => by cases h) (cst_of k_SMALL k_FIGURES k_LONGEST)) rfl rfl (fa_cons ((h__law_many.mono (by decide)).eq rfl) (fa_cons ((h__law_sign.mono (by decide)).eq rfl) fa_nil)) rfl (fun _ _ => rfl) rfl rfl) (q__law_free _)).eq rfl
theorem st__law_named {f : Addr} {fd : FuncData} (F : Fun K "_law_named" "_law_named" s__law_named f fd) (b : Binds K fd ["script", "k", "many"] []) (m : mg "_law_named" = some (.ref f)) (hb : ∀ x ∈ bltNames, mg x = none) (h__law_many : Stands P w K mg base 2 "_law_many" (F__law_many)) (k_SMALL : ∃ u, mg "SMALL" = some u ∧ RelV (cstV (.str "abcdefghijklmnopqrstuvwxyz")) u) (k_FIGURES : ∃ u, mg "FIGURES" = some u ∧ RelV (cstV (.str "0123456789")) u) (k_LONGEST : ∃ u, mg "LONGEST" = some u ∧ RelV (cstV (.int 200)) u) : Stands P w K mg base 3 "_law_named" F__law_named := (def_ok (k := 2) (C := C__law_named) (G := tabG [("_law_many", F__law_many)]) F sc__law_named b m (Ground.plain (names hb (fun h => by cases h) (cst_of k_SMALL k_FIGURES k_LONGEST)) rfl rfl (fa_cons ((h__law_many.mono (by decide)).eq rfl) fa_nil) rfl (fun _ _ => rfl) rfl rfl) (q__law_named _)).eq rfl
theorem st__law_figured {f : Addr} {fd : FuncData} (F : Fun K "_law_figured" "_law_figured" s__law_figured f fd) (b : Binds K fd ["script", "k", "many", "row"] []) (m : mg "_law_figured" = some (.ref f)) (hb : ∀ x ∈ bltNames, mg x = none) (h__law_many : Stands P w K mg base 2 "_law_many" (F__law_many)) (k_SMALL : ∃ u, mg "SMALL" = some u ∧ RelV (cstV (.str "abcdefghijklmnopqrstuvwxyz")) u) (k_FIGURES : ∃ u, mg "FIGURES" = some u ∧ RelV (cstV (.str "0123456789")) u) (k_LONGEST : ∃ u, mg "LONGEST" = some u ∧ RelV (cstV (.int 200)) u) : Stands P w K mg base 3 "_law_figured" F__law_figured := (def_ok (k := 2) (C := C__law_figured) (G := tabG [("_law_many", F__law_many)]) F sc__law_figured b m (Ground.plain (names hb (fun h => by cases h) (cst_of k_SMALL k_FIGURES k_LONGEST)) rfl rfl (fa_cons ((h__law_many.mono (by decide)).eq rfl) fa_nil) rfl (fun _ _ => rfl) rfl rfl) (q__law_figured _)).eq rfl
theorem st__law_changed {f : Addr} {fd : FuncData} (F : Fun K "_law_changed" "_law_changed" s__law_changed f fd) (b : Binds K fd ["word", "row"] []) (m : mg "_law_changed" = some (.ref f)) (hb : ∀ x ∈ bltNames, mg x = none) (h__law_sign : Stands P w K mg base 1 "_law_sign" (F__law_sign)) (k_SMALL : ∃ u, mg "SMALL" = some u ∧ RelV (cstV (.str "abcdefghijklmnopqrstuvwxyz")) u) (k_FIGURES : ∃ u, mg "FIGURES" = some u ∧ RelV (cstV (.str "0123456789")) u) (k_LONGEST : ∃ u, mg "LONGEST" = some u ∧ RelV (cstV (.int 200)) u) : Stands P w K mg base 2 "_law_changed" F__law_changed := (def_ok (k := 1) (C := C__law_changed) (G := tabG [("_law_sign", F__law_sign)]) F sc__law_changed b m (Ground.plain (names hb (fun h => by cases h) (cst_of k_SMALL k_FIGURES k_LONGEST)) rfl rfl (fa_cons ((h__law_sign.mono (by decide)).eq rfl) fa_nil) rfl (fun _ _ => rfl) rfl rfl) (q__law_changed _)).eq rfl
theorem st__law_drawn {f : Addr} {fd : FuncData} (F : Fun K "_law_drawn" "_law_drawn" s__law_drawn f fd) (b : Binds K fd ["script", "turn"] []) (m : mg "_law_drawn" = some (.ref f)) (hb : ∀ x ∈ bltNames, mg x = none) (h__law_many : Stands P w K mg base 2 "_law_many" (F__law_many)) (h__law_free : Stands P w K mg base 3 "_law_free" (F__law_free)) (h__law_changed : Stands P w K mg base 2 "_law_changed" (F__law_changed)) (h__law_named : Stands P w K mg base 3 "_law_named" (F__law_named)) (h__law_figured : Stands P w K mg base 3 "_law_figured" (F__law_figured)) (k_SMALL : ∃ u, mg "SMALL" = some u ∧ RelV (cstV (.str "abcdefghijklmnopqrstuvwxyz")) u) (k_FIGURES : ∃ u, mg "FIGURES" = some u ∧ RelV (cstV (.str "0123456789")) u) (k_LONGEST : ∃ u, mg "LONGEST" = some u ∧ RelV (cstV (.int 200)) u) : Stands P w K mg base 4 "_law_drawn" F__law_drawn := (def_ok (k := 3) (C := C__law_drawn) (G := tabG [("_law_many", F__law_many), ("_law_free", F__law_free), ("_law_changed", F__law_changed), ("_law_named", F__law_named), ("_law_figured", F__law_figured)]) F sc__law_drawn b m (Ground.plain (names hb (fun h => by cases h) (cst_of k_SMALL k_FIGURES k_LONGEST)) rfl rfl (fa_cons ((h__law_many.mono (by decide)).eq rfl) (fa_cons ((h__law_free.mono (by decide)).eq rfl) (fa_cons ((h__law_changed.mono (by decide)).eq rfl) (fa_cons ((h__law_named.mono (by decide)).eq rfl) (fa_cons ((h__law_figured.mono (by decide)).eq rfl) fa_nil))))) rfl (fun _ _ => rfl) rfl rfl) (q__law_drawn _)).eq rfl
theorem st__law_near {f : Addr} {fd : FuncData} (F : Fun K "_law_near" "_law_near" s__law_near f fd) (b : Binds K fd [] []) (m : mg "_law_near" = some (.ref f)) (hb : ∀ x ∈ bltNames, mg x = none) (k_SMALL : ∃ u, mg "SMALL" = some u ∧ RelV (cstV (.str "abcdefghijklmnopqrstuvwxyz")) u) (k_FIGURES : ∃ u, mg "FIGURES" = some u ∧ RelV (cstV (.str "0123456789")) u) (k_LONGEST : ∃ u, mg "LONGEST" = some u ∧ RelV (cstV (.int 200)) u) : Stands P w K mg base 1 "_law_near" F__law_near := (def_ok (k := 0) (C := C__law_near) (G := tabG []) F sc__law_near b m (Ground.plain (names hb (fun h => by cases h) (cst_of k_SMALL k_FIGURES k_LONGEST)) rfl rfl fa_nil rfl (fun _ _ => rfl) rfl rfl) (q__law_near _)).eq rfl
theorem st__law_asked {f : Addr} {fd : FuncData} (F : Fun K "_law_asked" "_law_asked" s__law_asked f fd) (b : Binds K fd ["word", "place"] []) (m : mg "_law_asked" = some (.ref f)) (hb : ∀ x ∈ bltNames, mg x = none) (h__law_is_written : Stands P w K mg base 1 "_law_is_written" (F__law_is_written)) (h__law_says : Stands P w K mg base 1 "_law_says" (F__law_says)) (h_is_whole : Stands P w K mg base 1 "is_whole" (F_is_whole)) (h_is_name : Stands P w K mg base 1 "is_name" (F_is_name)) (h__law_is_name : Stands P w K mg base 1 "_law_is_name" (F__law_is_name)) (h_read_whole : Stands P w K mg base 3 "read_whole" (F_read_whole)) (h__law_number : Stands P w K mg base 1 "_law_number" (F__law_number)) (h__law_is_whole : Stands P w K mg base 1 "_law_is_whole" (F__law_is_whole)) (u__law_is_whole : StandsQ P w K mg base 1 "_law_is_whole" (F__law_is_whole)) (ek : ExK K mg C__law_asked) (k_SMALL : ∃ u, mg "SMALL" = some u ∧ RelV (cstV (.str "abcdefghijklmnopqrstuvwxyz")) u) (k_FIGURES : ∃ u, mg "FIGURES" = some u ∧ RelV (cstV (.str "0123456789")) u) (k_LONGEST : ∃ u, mg "LONGEST" = some u ∧ RelV (cstV (.int 200)) u) : Stands P w K mg base 4 "_law_asked" F__law_asked := (def_ok (k := 3) (C := C__law_asked) (G := tabG [("_law_is_written", F__law_is_written), ("_law_says", F__law_says), ("is_whole", F_is_whole), ("is_name", F_is_name), ("_law_is_name", F__law_is_name), ("read_whole", F_read_whole), ("_law_number", F__law_number), ("_law_is_whole", F__law_is_whole)]) F sc__law_asked b m ⟨(names hb (fun h => by cases h) (cst_of k_SMALL k_FIGURES k_LONGEST)), rfl, rfl, (fa_cons ((h__law_is_written.mono (by decide)).eq rfl) (fa_cons ((h__law_says.mono (by decide)).eq rfl) (fa_cons ((h_is_whole.mono (by decide)).eq rfl) (fa_cons ((h_is_name.mono (by decide)).eq rfl) (fa_cons ((h__law_is_name.mono (by decide)).eq rfl) (fa_cons ((h_read_whole.mono (by decide)).eq rfl) (fa_cons ((h__law_number.mono (by decide)).eq rfl) (fa_cons ((h__law_is_whole.mono (by decide)).eq rfl) fa_nil)))))))), ek, ex_nil, (fa_cons ((u__law_is_whole.mono (by decide)).eq rfl) fa_nil)⟩ (q__law_asked _)).eq rfl
theorem st_law {f : Addr} {fd : FuncData} (F : Fun K "law" "law" s_law f fd) (b : Binds K fd ["script"] []) (m : mg "law" = some (.ref f)) (hb : ∀ x ∈ bltNames, mg x = none) (h__law_cell : Stands P w K mg base 1 "_law_cell" (F__law_cell)) (h__law_drawn : Stands P w K mg base 4 "_law_drawn" (F__law_drawn)) (h__law_near : Stands P w K mg base 1 "_law_near" (F__law_near)) (h__law_asked : Stands P w K mg base 4 "_law_asked" (F__law_asked)) (k_SMALL : ∃ u, mg "SMALL" = some u ∧ RelV (cstV (.str "abcdefghijklmnopqrstuvwxyz")) u) (k_FIGURES : ∃ u, mg "FIGURES" = some u ∧ RelV (cstV (.str "0123456789")) u) (k_LONGEST : ∃ u, mg "LONGEST" = some u ∧ RelV (cstV (.int 200)) u) : Stands P w K mg base 5 "law" F_law := (def_ok (k := 4) (C := C_law) (G := tabG [("_law_cell", F__law_cell), ("_law_drawn", F__law_drawn), ("_law_near", F__law_near), ("_law_asked", F__law_asked)]) F sc_law b m (Ground.plain (names hb (fun h => by cases h) (cst_of k_SMALL k_FIGURES k_LONGEST)) rfl rfl (fa_cons ((h__law_cell.mono (by decide)).eq rfl) (fa_cons ((h__law_drawn.mono (by decide)).eq rfl) (fa_cons ((h__law_near.mono (by decide)).eq rfl) (fa_cons ((h__law_asked.mono (by decide)).eq rfl) fa_nil)))) rfl (fun _ _ => rfl) rfl rfl) (q_law _)).eq rfl
end
theorem all_mk {P : Program} {w : World} {K : PySem.W.Frag} {h : Heap} {mg : Str → Option Value} {fa f1 f2 f3 f4 f5 f6 f7 f8 f9 f10 f11 f12 f13 f14 f15 f16 f17 f18 f19 : Addr} (X : K.In h) (G : h.Ns mainGlobals mg) (hfa : mg "law" = some (.ref fa))
    {od1 an1 od2 an2 od3 an3 od4 an4 od5 an5 od6 an6 od7 an7 od8 an8 od9 an9 od10 an10 od11 an11 od12 an12 od13 an13 od14 an14 od15 an15 od16 an16 od17 an17 od18 an18 od19 an19 : Option Addr} {sl1 sl2 sl3 sl4 sl5 sl6 sl7 sl8 sl9 sl10 sl11 sl12 sl13 sl14 sl15 sl16 sl17 sl18 sl19 : Array (Option Value)} {oc1 kV1 dc1 pm1 cd1 ct1 oc2 kV2 dc2 pm2 cd2 ct2 oc3 kV3 dc3 pm3 cd3 ct3 oc4 kV4 dc4 pm4 cd4 ct4 oc5 kV5 dc5 pm5 cd5 ct5 oc6 kV6 dc6 pm6 cd6 ct6 oc7 kV7 dc7 pm7 cd7 ct7 oc8 kV8 dc8 pm8 cd8 ct8 oc9 kV9 dc9 pm9 cd9 ct9 oc10 kV10 dc10 pm10 cd10 ct10 oc11 kV11 dc11 pm11 cd11 ct11 oc12 kV12 dc12 pm12 cd12 ct12 oc13 kV13 dc13 pm13 cd13 ct13 oc14 kV14 dc14 pm14 cd14 ct14 oc15 kV15 dc15 pm15 cd15 ct15 oc16 kV16 dc16 pm16 cd16 ct16 oc17 kV17 dc17 pm17 cd17 ct17 oc18 kV18 dc18 pm18 cd18 ct18 oc19 kV19 dc19 pm19 cd19 ct19 : Value}
    {C0 C1 C2 C3 C4 : Addr}
    {fI1 cc1 cda1 NN1 : Addr} {nmX1 qX1 fileX1 : Str} {bsX1 bmX1 subX1 : List Value} {snX1 : List Str} {abX1 : Bool} {colX1 : Option Bool} {ddX1 odX1 cddX1 cldX1 : Option Addr} {mX1 nX1 oX1 pX1 rX1 : Option Value} {ocX1 docX1 pmX1 ctX1 cclX1 clX1 : Value} {osX1 ccX1 csX1 : Array (Option Value)} {vsX1 : Array Value} {tfX1 : Tok}
    {cdK0 cdK1 cdK2 cdK3 cdK4 : ClassData}
    (a1 : PySem.W.nsIn K mainGlobals "is_name" = some (some (.ref f1))) (l1 : K.lookup f1 = some ⟨oc1, od1, .func (PySem.W.fnOf "is_name" "is_name" (defArgs s_is_name) (defBody s_is_name) (defScope s_is_name) .none kV1 dc1 pm1 an1 cd1 ct1), sl1⟩) (c1 : PySem.W.codeIn K cd1 "is_name" = true) (k1 : PySem.W.keepIn K (.ref f1) = true)
    (a2 : PySem.W.nsIn K mainGlobals "is_whole" = some (some (.ref f2))) (l2 : K.lookup f2 = some ⟨oc2, od2, .func (PySem.W.fnOf "is_whole" "is_whole" (defArgs s_is_whole) (defBody s_is_whole) (defScope s_is_whole) .none kV2 dc2 pm2 an2 cd2 ct2), sl2⟩) (c2 : PySem.W.codeIn K cd2 "is_whole" = true) (k2 : PySem.W.keepIn K (.ref f2) = true)
    (a3 : PySem.W.nsIn K mainGlobals "read_whole" = some (some (.ref f3))) (l3 : K.lookup f3 = some ⟨oc3, od3, .func (PySem.W.fnOf "read_whole" "read_whole" (defArgs s_read_whole) (defBody s_read_whole) (defScope s_read_whole) .none kV3 dc3 pm3 an3 cd3 ct3), sl3⟩) (c3 : PySem.W.codeIn K cd3 "read_whole" = true) (k3 : PySem.W.keepIn K (.ref f3) = true)
    (a4 : PySem.W.nsIn K mainGlobals "_law_is_whole" = some (some (.ref f4))) (l4 : K.lookup f4 = some ⟨oc4, od4, .func (PySem.W.fnOf "_law_is_whole" "_law_is_whole" (defArgs s__law_is_whole) (defBody s__law_is_whole) (defScope s__law_is_whole) .none kV4 dc4 pm4 an4 cd4 ct4), sl4⟩) (c4 : PySem.W.codeIn K cd4 "_law_is_whole" = true) (k4 : PySem.W.keepIn K (.ref f4) = true)
    (a5 : PySem.W.nsIn K mainGlobals "_law_cell" = some (some (.ref f5))) (l5 : K.lookup f5 = some ⟨oc5, od5, .func (PySem.W.fnOf "_law_cell" "_law_cell" (defArgs s__law_cell) (defBody s__law_cell) (defScope s__law_cell) .none kV5 dc5 pm5 an5 cd5 ct5), sl5⟩) (c5 : PySem.W.codeIn K cd5 "_law_cell" = true) (k5 : PySem.W.keepIn K (.ref f5) = true)
    (a6 : PySem.W.nsIn K mainGlobals "_law_many" = some (some (.ref f6))) (l6 : K.lookup f6 = some ⟨oc6, od6, .func (PySem.W.fnOf "_law_many" "_law_many" (defArgs s__law_many) (defBody s__law_many) (defScope s__law_many) .none kV6 dc6 pm6 an6 cd6 ct6), sl6⟩) (c6 : PySem.W.codeIn K cd6 "_law_many" = true) (k6 : PySem.W.keepIn K (.ref f6) = true)
    (a7 : PySem.W.nsIn K mainGlobals "_law_says" = some (some (.ref f7))) (l7 : K.lookup f7 = some ⟨oc7, od7, .func (PySem.W.fnOf "_law_says" "_law_says" (defArgs s__law_says) (defBody s__law_says) (defScope s__law_says) .none kV7 dc7 pm7 an7 cd7 ct7), sl7⟩) (c7 : PySem.W.codeIn K cd7 "_law_says" = true) (k7 : PySem.W.keepIn K (.ref f7) = true)
    (a8 : PySem.W.nsIn K mainGlobals "_law_sign" = some (some (.ref f8))) (l8 : K.lookup f8 = some ⟨oc8, od8, .func (PySem.W.fnOf "_law_sign" "_law_sign" (defArgs s__law_sign) (defBody s__law_sign) (defScope s__law_sign) .none kV8 dc8 pm8 an8 cd8 ct8), sl8⟩) (c8 : PySem.W.codeIn K cd8 "_law_sign" = true) (k8 : PySem.W.keepIn K (.ref f8) = true)
    (a9 : PySem.W.nsIn K mainGlobals "_law_is_name" = some (some (.ref f9))) (l9 : K.lookup f9 = some ⟨oc9, od9, .func (PySem.W.fnOf "_law_is_name" "_law_is_name" (defArgs s__law_is_name) (defBody s__law_is_name) (defScope s__law_is_name) .none kV9 dc9 pm9 an9 cd9 ct9), sl9⟩) (c9 : PySem.W.codeIn K cd9 "_law_is_name" = true) (k9 : PySem.W.keepIn K (.ref f9) = true)
    (a10 : PySem.W.nsIn K mainGlobals "_law_is_written" = some (some (.ref f10))) (l10 : K.lookup f10 = some ⟨oc10, od10, .func (PySem.W.fnOf "_law_is_written" "_law_is_written" (defArgs s__law_is_written) (defBody s__law_is_written) (defScope s__law_is_written) .none kV10 dc10 pm10 an10 cd10 ct10), sl10⟩) (c10 : PySem.W.codeIn K cd10 "_law_is_written" = true) (k10 : PySem.W.keepIn K (.ref f10) = true)
    (a11 : PySem.W.nsIn K mainGlobals "_law_number" = some (some (.ref f11))) (l11 : K.lookup f11 = some ⟨oc11, od11, .func (PySem.W.fnOf "_law_number" "_law_number" (defArgs s__law_number) (defBody s__law_number) (defScope s__law_number) .none kV11 dc11 pm11 an11 cd11 ct11), sl11⟩) (c11 : PySem.W.codeIn K cd11 "_law_number" = true) (k11 : PySem.W.keepIn K (.ref f11) = true)
    (a12 : PySem.W.nsIn K mainGlobals "_law_free" = some (some (.ref f12))) (l12 : K.lookup f12 = some ⟨oc12, od12, .func (PySem.W.fnOf "_law_free" "_law_free" (defArgs s__law_free) (defBody s__law_free) (defScope s__law_free) .none kV12 dc12 pm12 an12 cd12 ct12), sl12⟩) (c12 : PySem.W.codeIn K cd12 "_law_free" = true) (k12 : PySem.W.keepIn K (.ref f12) = true)
    (a13 : PySem.W.nsIn K mainGlobals "_law_named" = some (some (.ref f13))) (l13 : K.lookup f13 = some ⟨oc13, od13, .func (PySem.W.fnOf "_law_named" "_law_named" (defArgs s__law_named) (defBody s__law_named) (defScope s__law_named) .none kV13 dc13 pm13 an13 cd13 ct13), sl13⟩) (c13 : PySem.W.codeIn K cd13 "_law_named" = true) (k13 : PySem.W.keepIn K (.ref f13) = true)
    (a14 : PySem.W.nsIn K mainGlobals "_law_figured" = some (some (.ref f14))) (l14 : K.lookup f14 = some ⟨oc14, od14, .func (PySem.W.fnOf "_law_figured" "_law_figured" (defArgs s__law_figured) (defBody s__law_figured) (defScope s__law_figured) .none kV14 dc14 pm14 an14 cd14 ct14), sl14⟩) (c14 : PySem.W.codeIn K cd14 "_law_figured" = true) (k14 : PySem.W.keepIn K (.ref f14) = true)
    (a15 : PySem.W.nsIn K mainGlobals "_law_changed" = some (some (.ref f15))) (l15 : K.lookup f15 = some ⟨oc15, od15, .func (PySem.W.fnOf "_law_changed" "_law_changed" (defArgs s__law_changed) (defBody s__law_changed) (defScope s__law_changed) .none kV15 dc15 pm15 an15 cd15 ct15), sl15⟩) (c15 : PySem.W.codeIn K cd15 "_law_changed" = true) (k15 : PySem.W.keepIn K (.ref f15) = true)
    (a16 : PySem.W.nsIn K mainGlobals "_law_drawn" = some (some (.ref f16))) (l16 : K.lookup f16 = some ⟨oc16, od16, .func (PySem.W.fnOf "_law_drawn" "_law_drawn" (defArgs s__law_drawn) (defBody s__law_drawn) (defScope s__law_drawn) .none kV16 dc16 pm16 an16 cd16 ct16), sl16⟩) (c16 : PySem.W.codeIn K cd16 "_law_drawn" = true) (k16 : PySem.W.keepIn K (.ref f16) = true)
    (a17 : PySem.W.nsIn K mainGlobals "_law_near" = some (some (.ref f17))) (l17 : K.lookup f17 = some ⟨oc17, od17, .func (PySem.W.fnOf "_law_near" "_law_near" (defArgs s__law_near) (defBody s__law_near) (defScope s__law_near) .none kV17 dc17 pm17 an17 cd17 ct17), sl17⟩) (c17 : PySem.W.codeIn K cd17 "_law_near" = true) (k17 : PySem.W.keepIn K (.ref f17) = true)
    (a18 : PySem.W.nsIn K mainGlobals "_law_asked" = some (some (.ref f18))) (l18 : K.lookup f18 = some ⟨oc18, od18, .func (PySem.W.fnOf "_law_asked" "_law_asked" (defArgs s__law_asked) (defBody s__law_asked) (defScope s__law_asked) .none kV18 dc18 pm18 an18 cd18 ct18), sl18⟩) (c18 : PySem.W.codeIn K cd18 "_law_asked" = true) (k18 : PySem.W.keepIn K (.ref f18) = true)
    (a19 : PySem.W.nsIn K mainGlobals "law" = some (some (.ref f19))) (l19 : K.lookup f19 = some ⟨oc19, od19, .func (PySem.W.fnOf "law" "law" (defArgs s_law) (defBody s_law) (defScope s_law) .none kV19 dc19 pm19 an19 cd19 ct19), sl19⟩) (c19 : PySem.W.codeIn K cd19 "law" = true) (k19 : PySem.W.keepIn K (.ref f19) = true)
    (z0 : PySem.W.nsIn K mainGlobals "len" = some none)
    (z1 : PySem.W.nsIn K mainGlobals "int" = some none)
    (z2 : PySem.W.nsIn K mainGlobals "abs" = some none)
    (z3 : PySem.W.nsIn K mainGlobals "max" = some none)
    (z4 : PySem.W.nsIn K mainGlobals "min" = some none)
    (z5 : PySem.W.nsIn K mainGlobals "list" = some none)
    (z6 : PySem.W.nsIn K mainGlobals "tuple" = some none)
    (z7 : PySem.W.nsIn K mainGlobals "sum" = some none)
    (z8 : PySem.W.nsIn K mainGlobals "all" = some none)
    (z9 : PySem.W.nsIn K mainGlobals "any" = some none)
    (z10 : PySem.W.nsIn K mainGlobals "isinstance" = some none)
    (z11 : PySem.W.nsIn K mainGlobals "range" = some none)
    (z12 : PySem.W.nsIn K mainGlobals "enumerate" = some none)
    (z13 : PySem.W.nsIn K mainGlobals "zip" = some none)
    (z14 : PySem.W.nsIn K mainGlobals "bool" = some none)
    (z15 : PySem.W.nsIn K mainGlobals "str" = some none)
    {tk_SMALL : Tok}
    (kc_SMALL : PySem.W.nsIn K mainGlobals "SMALL" = some (some (Value.str "abcdefghijklmnopqrstuvwxyz" tk_SMALL)))
    {tk_FIGURES : Tok}
    (kc_FIGURES : PySem.W.nsIn K mainGlobals "FIGURES" = some (some (Value.str "0123456789" tk_FIGURES)))
    {tk_LONGEST : Tok}
    (kc_LONGEST : PySem.W.nsIn K mainGlobals "LONGEST" = some (some (Value.int 200 tk_LONGEST)))
    (spN : PySem.W.nsIn K mainGlobals "super" = some none)
    (anyN : PySem.W.nsIn K cStatics "thirdparty.any" = some none)
    (spG : PySem.W.specialIn K (.builtin "object.__class__") "__get__" = some (some (.builtin "getset_descriptor.__get__")))
    (tkG : PySem.W.takesIn K (.builtin "object.__class__") = some true)
    (aC0 : PySem.W.nsIn K mainGlobals "Fault" = some (some (.ref C0)))
    (kd0 : PySem.W.clsIn K C0 = some cdK0)
    (ty0 : PySem.W.typeIn K (.ref C0) = some (.type "type"))
    (aC1 : PySem.W.nsIn K mainGlobals "BadText" = some (some (.ref C1)))
    (kd1 : PySem.W.clsIn K C1 = some cdK1)
    (ty1 : PySem.W.typeIn K (.ref C1) = some (.type "type"))
    (aC2 : PySem.W.nsIn K mainGlobals "BadName" = some (some (.ref C2)))
    (kd2 : PySem.W.clsIn K C2 = some cdK2)
    (ty2 : PySem.W.typeIn K (.ref C2) = some (.type "type"))
    (aC3 : PySem.W.nsIn K mainGlobals "BadLine" = some (some (.ref C3)))
    (kd3 : PySem.W.clsIn K C3 = some cdK3)
    (ty3 : PySem.W.typeIn K (.ref C3) = some (.type "type"))
    (aC4 : PySem.W.nsIn K mainGlobals "TooMany" = some (some (.ref C4)))
    (kd4 : PySem.W.clsIn K C4 = some cdK4)
    (ty4 : PySem.W.typeIn K (.ref C4) = some (.type "type"))
    (xC1 : K.lookup C1 = some (excClassObj nmX1 qX1 C1 NN1 bsX1 bmX1 true snX1 subX1 abX1 colX1 ddX1 mX1 nX1 oX1 pX1 rX1 "ValueError.__new__"))
    (rf1 : PySem.HandSPX.refsVE bmX1 = true)
    (sa1 : PySem.W.findIn K (.ref C1) "__setattr__" = some (some (.builtin "object.__setattr__")))
    (ga1 : PySem.W.findIn K (.ref C1) "__getattribute__" = some (some (.builtin "BaseException.__getattribute__")))
    (gg1 : PySem.W.findIn K (.ref C1) "__getattr__" = some none)
    (gc1 : PySem.W.findIn K (.ref C1) "__class__" = some (some (.builtin "object.__class__")))
    (eC1 : PySem.W.subIn K (.ref C1) (.type "BaseException") = some true)
    (kC1 : PySem.W.keepIn K (.ref C1) = true)
    (dC1 : PySem.W.hasDictIn K C1 = true)
    (vB1 : PySem.W.subIn K (.ref C1) (.type "ValueError") = some true)
    (mC1 : PySem.W.mroIn K C1 (.ref C1) = some true)
    (mO1 : PySem.W.mroIn K C1 (.type "object") = some true)
    (iC1 : PySem.W.findIn K (.ref C1) "__init__" = some (some (.ref fI1)))
    (tI1 : PySem.W.typeIn K (.ref fI1) = some (.type "function"))
    (lI1 : K.lookup fI1 = some ⟨ocX1, odX1, .func (NdefX.NF.fd ⟨"__init__", "BadText.__init__", defArgs i_BadText, defBody i_BadText, defScope i_BadText, [(("__class__" : Str), cc1)], cda1⟩ docX1 pmX1 ctX1), osX1⟩)
    (cI1 : PySem.W.codeIn K (.ref cda1) "BadText.__init__" = true)
    (lc1 : K.lookup cc1 = some ⟨clX1, cldX1, .cell (some (.ref C1)), csX1⟩)
    (lk1 : K.lookup cda1 = some ⟨cclX1, cddX1, .fields vsX1, ccX1⟩)
    (v21 : vsX1[2]? = some (.str fileX1 tfX1))
    (fl1 : ((P.main.file : Str) == fileX1) = true)
    (sI1 : PySem.W.ks_superIn K C1 C1 "__init__" = some (some (.builtin "ValueError.__init__")))
    (nf_place_1 : PySem.W.findIn K (.ref C1) "place" = some none)
    (sb0_1 : PySem.W.subIn K (.ref C1) (.ref C0) = some true)
    (sb1_1 : PySem.W.subIn K (.ref C1) (.ref C1) = some true)
    (sb2_1 : PySem.W.subIn K (.ref C1) (.ref C2) = some false)
    (sb3_1 : PySem.W.subIn K (.ref C1) (.ref C3) = some false)
    (sb4_1 : PySem.W.subIn K (.ref C1) (.ref C4) = some false)
    (eH1 : PySem.W.subIn K (.ref C1) (.type "BaseException") = some true)
    (dH1 : PySem.W.hasDictIn K C1 = true)
    (veN : PySem.W.nsIn K mainGlobals "ValueError" = some none)
    (htop : (P.main.scope.names.lookup ("super" : Str)).isSome = false)
    : ∃ fd : FuncData, (∀ (s : Shared) (v : Value), BindsTo s fd ⟨[v], []⟩ [("script", v)]) ∧ ∀ base : Heap, K.In base → base.Ns mainGlobals mg → FnOk P w K mg base (L2.CX P w) 5 fa fd ["script"] (PSO K F_law) := by
  have e := hfa.symm.trans (PySem.W.mg_of X G a19)
  cases e
  have F1 := fun_mk (st := s_is_name) l1 c1 k1
  have b1 := F1.binds (ps := ["word"]) fun _ _ _ _ _ _ us hl => match us, hl with | [_], _ => rfl
  have F2 := fun_mk (st := s_is_whole) l2 c2 k2
  have b2 := F2.binds (ps := ["word"]) fun _ _ _ _ _ _ us hl => match us, hl with | [_], _ => rfl
  have F3 := fun_mk (st := s_read_whole) l3 c3 k3
  have b3 := F3.binds (ps := ["word", "place"]) fun _ _ _ _ _ _ us hl => match us, hl with | [_, _], _ => rfl
  have F4 := fun_mk (st := s__law_is_whole) l4 c4 k4
  have b4 := F4.binds (ps := ["x"]) fun _ _ _ _ _ _ us hl => match us, hl with | [_], _ => rfl
  have F5 := fun_mk (st := s__law_cell) l5 c5 k5
  have b5 := F5.binds (ps := ["script", "k"]) fun _ _ _ _ _ _ us hl => match us, hl with | [_, _], _ => rfl
  have F6 := fun_mk (st := s__law_many) l6 c6 k6
  have b6 := F6.binds (ps := ["script", "k", "many", "limit"]) fun _ _ _ _ _ _ us hl => match us, hl with | [_, _, _, _], _ => rfl
  have F7 := fun_mk (st := s__law_says) l7 c7 k7
  have b7 := F7.binds (ps := ["told", "due"]) fun _ _ _ _ _ _ us hl => match us, hl with | [_, _], _ => rfl
  have F8 := fun_mk (st := s__law_sign) l8 c8 k8
  have b8 := F8.binds (ps := ["x"]) fun _ _ _ _ _ _ us hl => match us, hl with | [_], _ => rfl
  have F9 := fun_mk (st := s__law_is_name) l9 c9 k9
  have b9 := F9.binds (ps := ["word"]) fun _ _ _ _ _ _ us hl => match us, hl with | [_], _ => rfl
  have F10 := fun_mk (st := s__law_is_written) l10 c10 k10
  have b10 := F10.binds (ps := ["word"]) fun _ _ _ _ _ _ us hl => match us, hl with | [_], _ => rfl
  have F11 := fun_mk (st := s__law_number) l11 c11 k11
  have b11 := F11.binds (ps := ["word"]) fun _ _ _ _ _ _ us hl => match us, hl with | [_], _ => rfl
  have F12 := fun_mk (st := s__law_free) l12 c12 k12
  have b12 := F12.binds (ps := ["script", "k", "many"]) fun _ _ _ _ _ _ us hl => match us, hl with | [_, _, _], _ => rfl
  have F13 := fun_mk (st := s__law_named) l13 c13 k13
  have b13 := F13.binds (ps := ["script", "k", "many"]) fun _ _ _ _ _ _ us hl => match us, hl with | [_, _, _], _ => rfl
  have F14 := fun_mk (st := s__law_figured) l14 c14 k14
  have b14 := F14.binds (ps := ["script", "k", "many", "row"]) fun _ _ _ _ _ _ us hl => match us, hl with | [_, _, _, _], _ => rfl
  have F15 := fun_mk (st := s__law_changed) l15 c15 k15
  have b15 := F15.binds (ps := ["word", "row"]) fun _ _ _ _ _ _ us hl => match us, hl with | [_, _], _ => rfl
  have F16 := fun_mk (st := s__law_drawn) l16 c16 k16
  have b16 := F16.binds (ps := ["script", "turn"]) fun _ _ _ _ _ _ us hl => match us, hl with | [_, _], _ => rfl
  have F17 := fun_mk (st := s__law_near) l17 c17 k17
  have b17 := F17.binds (ps := []) fun _ _ _ _ _ _ us hl => match us, hl with | [], _ => rfl
  have F18 := fun_mk (st := s__law_asked) l18 c18 k18
  have b18 := F18.binds (ps := ["word", "place"]) fun _ _ _ _ _ _ us hl => match us, hl with | [_, _], _ => rfl
  have F19 := fun_mk (st := s_law) l19 c19 k19
  have b19 := F19.binds (ps := ["script"]) fun _ _ _ _ _ _ us hl => match us, hl with | [_], _ => rfl
  have hb : ∀ x ∈ bltNames, mg x = none := fa_cons (PySem.W.mg_none_of X G z0) (fa_cons (PySem.W.mg_none_of X G z1) (fa_cons (PySem.W.mg_none_of X G z2) (fa_cons (PySem.W.mg_none_of X G z3) (fa_cons (PySem.W.mg_none_of X G z4) (fa_cons (PySem.W.mg_none_of X G z5) (fa_cons (PySem.W.mg_none_of X G z6) (fa_cons (PySem.W.mg_none_of X G z7) (fa_cons (PySem.W.mg_none_of X G z8) (fa_cons (PySem.W.mg_none_of X G z9) (fa_cons (PySem.W.mg_none_of X G z10) (fa_cons (PySem.W.mg_none_of X G z11) (fa_cons (PySem.W.mg_none_of X G z12) (fa_cons (PySem.W.mg_none_of X G z13) (fa_cons (PySem.W.mg_none_of X G z14) (fa_cons (PySem.W.mg_none_of X G z15) (fa_nil))))))))))))))))
  have k_SMALL : ∃ u, mg "SMALL" = some u ∧ RelV (cstV (.str "abcdefghijklmnopqrstuvwxyz")) u := ⟨_, PySem.W.mg_of X G kc_SMALL, ⟨_, rfl⟩⟩
  have k_FIGURES : ∃ u, mg "FIGURES" = some u ∧ RelV (cstV (.str "0123456789")) u := ⟨_, PySem.W.mg_of X G kc_FIGURES, ⟨_, rfl⟩⟩
  have k_LONGEST : ∃ u, mg "LONGEST" = some u ∧ RelV (cstV (.int 200)) u := ⟨_, PySem.W.mg_of X G kc_LONGEST, ⟨_, rfl⟩⟩
  have T1 : OexC K C1 := ⟨⟨_, _, _, _, _, _, _, _, _, _, _, _, _, _, _, xC1, rf1⟩, sa1, eC1, ty1, kC1⟩
  have I1 : InitK P K mg ["self", "place", "__class__"] ["self", "place"] ⟨"__init__", "BadText.__init__", defArgs i_BadText, defBody i_BadText, defScope i_BadText, [(("__class__" : Str), cc1)], cda1⟩ fI1 C1 := ⟨NdefX.nscope_by nsc_BadText, ⟨_, _, _, _, _, _, lI1, fun s us _ hl => match us, hl with | [_, _], _ => .of_eq rfl⟩, cI1, ⟨_, _, _, _, rfl, lc1⟩, ⟨_, _, _, _, _, _, lk1, v21, fl1⟩, ⟨_, _, rfl, rfl⟩, rfl, PySem.W.mg_none_of X G spN, ⟨_, kd1⟩, mC1, anyN, sI1, vB1, htop, T1⟩
  have e_BadText_ : ∀ base, StandsX P w K mg base 2 "BadText" ⟨["place"], [0], some 0, 1⟩ := fun base => standsX_of (init_one (base := base) I1 rfl (fun _ => rfl) (fun _ => ⟨_, rfl⟩) (msg_fmt3 (i := 0) rfl (.inl vis_BadText) rfl rfl (by decide +kernel) (by decide +kernel)) (fun i h => by cases h <;> rfl) nf_place_1 ⟨rfl, rfl⟩ ⟨rfl, rfl⟩) T1 iC1 tI1 (PySem.W.mg_of X G aC1)
  have X1 : ExcC K C1 := ⟨ga1, gg1, eC1, dC1, gc1, spG, tkG, mO1⟩
  have Y1 : XfC K C1 := ⟨ga1, gg1, eC1, dC1⟩
  have ek__law_asked : ExK K mg C__law_asked := by
    have at_ : ∀ {c : Str} {A D : Addr}, mg c = some (.ref A) → mg c = some (.ref D) → A = D := fun h1 h2 => by rw [h1] at h2; cases h2; rfl
    refine ⟨fa_cons ⟨rfl, .ref C1, .inl (PySem.W.mg_of X G aC1), ?_⟩ (fa_nil), fun x c h D hD => ?_, fun x c h D hD A hA => ?_⟩
    · intro c b hcb D hD; rcases tC_of hcb with ⟨ex, rfl, rfl⟩
      · rw [← at_ (PySem.W.mg_of X G aC1) hD]; exact PySem.W.exm_ref eH1 dH1 ty1 sb1_1
    · rcases tC_of h with ⟨_, rfl, eb⟩
      · rw [← at_ (PySem.W.mg_of X G aC1) hD]; exact ⟨Y1, X1, fa_cons nf_place_1 (fa_nil)⟩
    · rcases tC_of h with ⟨_, rfl, eb⟩
      · rw [← at_ (PySem.W.mg_of X G aC1) hA]
        revert D; exact fa_cons ⟨rfl, .ref C0, .ref C0, .inl (PySem.W.mg_of X G aC0), rfl, fun u e => e, kit_ref sb0_1 sb1_1 kd0 ty0⟩ (fa_cons ⟨rfl, .ref C1, .ref C1, .inl (PySem.W.mg_of X G aC1), rfl, fun u e => e, kit_ref sb1_1 sb1_1 kd1 ty1⟩ (fa_cons ⟨rfl, .ref C2, .ref C2, .inl (PySem.W.mg_of X G aC2), rfl, fun u e => e, kit_ref sb2_1 sb1_1 kd2 ty2⟩ (fa_cons ⟨rfl, .ref C3, .ref C3, .inl (PySem.W.mg_of X G aC3), rfl, fun u e => e, kit_ref sb3_1 sb1_1 kd3 ty3⟩ (fa_cons ⟨rfl, .ref C4, .ref C4, .inl (PySem.W.mg_of X G aC4), rfl, fun u e => e, kit_ref sb4_1 sb1_1 kd4 ty4⟩ (fa_cons ⟨rfl, .ty "ValueError", .type "ValueError", .inr ⟨PySem.W.mg_none_of X G veN, PyProof.Rows.Boot.«ValueError», by decide⟩, rfl, fun u e => e, kit_typ vB1 (by decide +kernel)⟩ (fa_nil))))))
  refine ⟨PySem.W.fnOf "law" "law" (defArgs s_law) (defBody s_law) (defScope s_law) .none kV19 dc19 pm19 an19 cd19 ct19, fun s v => .of_eq rfl, fun base _ _ => ?_⟩
  have e_BadText := e_BadText_ base
  have u__law_is_whole : StandsQ P w K mg base 1 "_law_is_whole" F__law_is_whole := sq__law_is_whole F4 b4 (PySem.W.mg_of X G a4) hb k_SMALL k_FIGURES k_LONGEST
  have h_is_name : Stands P w K mg base 1 "is_name" (F_is_name) := st_is_name F1 b1 (PySem.W.mg_of X G a1) hb k_SMALL k_FIGURES k_LONGEST
  have h_is_whole : Stands P w K mg base 1 "is_whole" (F_is_whole) := st_is_whole F2 b2 (PySem.W.mg_of X G a2) hb k_SMALL k_FIGURES k_LONGEST
  have h_read_whole : Stands P w K mg base 3 "read_whole" (F_read_whole) := st_read_whole F3 b3 (PySem.W.mg_of X G a3) hb h_is_whole e_BadText k_SMALL k_FIGURES k_LONGEST
  have h__law_is_whole : Stands P w K mg base 1 "_law_is_whole" (F__law_is_whole) := st__law_is_whole F4 b4 (PySem.W.mg_of X G a4) hb k_SMALL k_FIGURES k_LONGEST
  have h__law_cell : Stands P w K mg base 1 "_law_cell" (F__law_cell) := st__law_cell F5 b5 (PySem.W.mg_of X G a5) hb k_SMALL k_FIGURES k_LONGEST
  have h__law_many : Stands P w K mg base 2 "_law_many" (F__law_many) := st__law_many F6 b6 (PySem.W.mg_of X G a6) hb h__law_cell k_SMALL k_FIGURES k_LONGEST
  have h__law_says : Stands P w K mg base 1 "_law_says" (F__law_says) := st__law_says F7 b7 (PySem.W.mg_of X G a7) hb k_SMALL k_FIGURES k_LONGEST
  have h__law_sign : Stands P w K mg base 1 "_law_sign" (F__law_sign) := st__law_sign F8 b8 (PySem.W.mg_of X G a8) hb k_SMALL k_FIGURES k_LONGEST
  have h__law_is_name : Stands P w K mg base 1 "_law_is_name" (F__law_is_name) := st__law_is_name F9 b9 (PySem.W.mg_of X G a9) hb k_SMALL k_FIGURES k_LONGEST
  have h__law_is_written : Stands P w K mg base 1 "_law_is_written" (F__law_is_written) := st__law_is_written F10 b10 (PySem.W.mg_of X G a10) hb k_SMALL k_FIGURES k_LONGEST
  have h__law_number : Stands P w K mg base 1 "_law_number" (F__law_number) := st__law_number F11 b11 (PySem.W.mg_of X G a11) hb k_SMALL k_FIGURES k_LONGEST
  have h__law_free : Stands P w K mg base 3 "_law_free" (F__law_free) := st__law_free F12 b12 (PySem.W.mg_of X G a12) hb h__law_many h__law_sign k_SMALL k_FIGURES k_LONGEST
  have h__law_named : Stands P w K mg base 3 "_law_named" (F__law_named) := st__law_named F13 b13 (PySem.W.mg_of X G a13) hb h__law_many k_SMALL k_FIGURES k_LONGEST
  have h__law_figured : Stands P w K mg base 3 "_law_figured" (F__law_figured) := st__law_figured F14 b14 (PySem.W.mg_of X G a14) hb h__law_many k_SMALL k_FIGURES k_LONGEST
  have h__law_changed : Stands P w K mg base 2 "_law_changed" (F__law_changed) := st__law_changed F15 b15 (PySem.W.mg_of X G a15) hb h__law_sign k_SMALL k_FIGURES k_LONGEST
  have h__law_drawn : Stands P w K mg base 4 "_law_drawn" (F__law_drawn) := st__law_drawn F16 b16 (PySem.W.mg_of X G a16) hb h__law_many h__law_free h__law_changed h__law_named h__law_figured k_SMALL k_FIGURES k_LONGEST
  have h__law_near : Stands P w K mg base 1 "_law_near" (F__law_near) := st__law_near F17 b17 (PySem.W.mg_of X G a17) hb k_SMALL k_FIGURES k_LONGEST
  have h__law_asked : Stands P w K mg base 4 "_law_asked" (F__law_asked) := st__law_asked F18 b18 (PySem.W.mg_of X G a18) hb h__law_is_written h__law_says h_is_whole h_is_name h__law_is_name h_read_whole h__law_number h__law_is_whole u__law_is_whole ek__law_asked k_SMALL k_FIGURES k_LONGEST
  exact pso (def_fn (k := 4) (C := C_law) (G := tabG [("_law_cell", F__law_cell), ("_law_drawn", F__law_drawn), ("_law_near", F__law_near), ("_law_asked", F__law_asked)]) F19 sc_law (Ground.plain (names hb (fun h => by cases h) (cst_of k_SMALL k_FIGURES k_LONGEST)) rfl rfl (fa_cons ((h__law_cell.mono (by decide)).eq rfl) (fa_cons ((h__law_drawn.mono (by decide)).eq rfl) (fa_cons ((h__law_near.mono (by decide)).eq rfl) (fa_cons ((h__law_asked.mono (by decide)).eq rfl) fa_nil)))) rfl (fun _ _ => rfl) rfl rfl) (q_law _))
end K00

namespace K00
open PySem PySem.Spec PyProof.Rows L2 Evl Dl
theorem fmod_nn {x m : Int} (h : 0 < m) : 0 ≤ x.fmod m ∧ x.fmod m < m := ⟨Int.fmod_nonneg_of_pos x h, Int.fmod_lt_of_pos x h⟩
theorem cell_ok (ns : List Int) (k : Nat) : ∃ c, F__law_cell [.scr ns, .int k] = some (.ok false (.int c)) := by
  show ∃ c, endF (g__law_cell [some (.sh (.scr ns)), some (.sh (.int k))]) = _
  unfold g__law_cell
  by_cases h : k < ns.length
  · have h' : ((k : Int) < (ns.length : Int)) = True := eq_true (by omega)
    have e : ns[k]? = some ns[k] := List.getElem?_eq_getElem h
    refine ⟨ns[k], ?_⟩
    simp only [e_thn, e_thnr, e_thnb, e_thnc, e_seq, e_nx, e_bk, e_ct, e_frz, e_frz0, e_frz1, e_bndS, e_bnd, e_asg, e_asgw, e_asg0, e_asgi, e_asgt, e_asgp, e_sa0, e_sa1, e_bdn, e_bdp, e_ret, e_retv, e_retd0, e_retd1, e_retn, e_if, e_if1, e_if0, e_ifi, e_drop, e_app, e_app1, e_set, e_set1, e_set2, e_for, e_for1, e_varG, e_varB, e_rdV, e_rdB, e_rdB1, e_cst, e_op2, e_op1, e_sel, e_sel1, e_sel0, e_seli, e_bG, e_and, e_or, e_not, e_chain, e_on, e_on1, e_argN, e_argC, e_cons, e_itG, e_it1, e_it2, e_it3, e_lc, e_lc1, e_wipe0, e_wipe1, e_sl01, e_sl10, e_sl00, e_sl11, e_isInt, e_sll, e_add, e_addl, e_sub, e_mul, e_fdiv, e_mod, e_pow, e_neg, e_lt, e_le, e_gt, e_ge, e_eq, e_ne, e_int, e_abs, e_max, e_min, e_gcd, e_len1, e_len2, e_len3, e_list1, e_tupD, e_lstD, e_ixl, e_ixt, e_ixs, e_atn, e_at0, e_at1, e_at2, e_at3, e_at4, e_at5, e_at6, e_at7, e_at8, e_at9, e_at10, e_at11, e_at12, e_at13, e_at14, e_at15, e_trui, e_trub, e_notb, e_noti, e_isi_int_int, e_isi_int_bool, e_isi_int_tuple, e_isi_int_list, e_isi_int_str, e_isn_int, e_isnn_int, e_isi_str_int, e_isi_str_bool, e_isi_str_tuple, e_isi_str_list, e_isi_str_str, e_isn_str, e_isnn_str, e_isi_bl_int, e_isi_bl_bool, e_isi_bl_tuple, e_isi_bl_list, e_isi_bl_str, e_isn_bl, e_isnn_bl, e_isi_non_int, e_isi_non_bool, e_isi_non_tuple, e_isi_non_list, e_isi_non_str, e_isn_non, e_isnn_non, e_isi_lst_int, e_isi_lst_bool, e_isi_lst_tuple, e_isi_lst_list, e_isi_lst_str, e_isn_lst, e_isnn_lst, e_isi_tup_int, e_isi_tup_bool, e_isi_tup_tuple, e_isi_tup_list, e_isi_tup_str, e_isn_tup, e_isnn_tup, e_isi_scr_int, e_isi_scr_bool, e_isi_scr_tuple, e_isi_scr_list, e_isi_scr_str, e_isn_scr, e_isnn_scr, e_isb, e_neb, e_eqb, e_eqs, e_nes, e_adds, e_muls, e_lens, e_ixz, e_slz, e_itz, e_inz, e_ninz, e_all, e_intz, e_meth, e_meth1, e_raise, e_thnx, List.getElem?_cons_zero, List.getElem?_cons_succ, List.set_cons_zero, List.set_cons_succ, List.length_cons, List.length_nil, Option.map_some, Option.bind_some, List.map_cons, List.map_nil, List.cons_append, List.nil_append, ↓reduceIte, eq_self, Bool.false_eq_true, Bool.true_eq_false, Bool.not_true, Bool.not_false, decide_true, decide_false, endF, Int.reduceEq, Int.reduceLT, Int.reduceLE, Int.reduceNeg, Nat.reduceAdd, Nat.reduceLT, Nat.reduceLeDiff, Int.reduceToNat, Int.reduceSub, Int.reduceAdd, Int.reduceMul, h', e]
  · have h' : ((k : Int) < (ns.length : Int)) = False := eq_false (by omega)
    by_cases h2 : 0 < ns.length
    · have h2' : ((0 : Int) < (ns.length : Int)) = True := eq_true (by omega)
      have h3 : ((ns.length : Int) = 0) = False := eq_false (by omega)
      have e : (k : Int).fmod (ns.length : Int) = ((k % ns.length : Nat) : Int) := by
        rw [Int.fmod_eq_emod_of_nonneg _ (by omega)]
        rfl
      have h4 : k % ns.length < ns.length := Nat.mod_lt _ h2
      have e2 : ns[k % ns.length]? = some ns[k % ns.length] := List.getElem?_eq_getElem h4
      have e3 : mulOk 1000003 (k : Int) = true := mulOk_l (by decide)
      refine ⟨ns[k % ns.length] + 1000003 * (k : Int), ?_⟩
      simp only [e_thn, e_thnr, e_thnb, e_thnc, e_seq, e_nx, e_bk, e_ct, e_frz, e_frz0, e_frz1, e_bndS, e_bnd, e_asg, e_asgw, e_asg0, e_asgi, e_asgt, e_asgp, e_sa0, e_sa1, e_bdn, e_bdp, e_ret, e_retv, e_retd0, e_retd1, e_retn, e_if, e_if1, e_if0, e_ifi, e_drop, e_app, e_app1, e_set, e_set1, e_set2, e_for, e_for1, e_varG, e_varB, e_rdV, e_rdB, e_rdB1, e_cst, e_op2, e_op1, e_sel, e_sel1, e_sel0, e_seli, e_bG, e_and, e_or, e_not, e_chain, e_on, e_on1, e_argN, e_argC, e_cons, e_itG, e_it1, e_it2, e_it3, e_lc, e_lc1, e_wipe0, e_wipe1, e_sl01, e_sl10, e_sl00, e_sl11, e_isInt, e_sll, e_add, e_addl, e_sub, e_mul, e_fdiv, e_mod, e_pow, e_neg, e_lt, e_le, e_gt, e_ge, e_eq, e_ne, e_int, e_abs, e_max, e_min, e_gcd, e_len1, e_len2, e_len3, e_list1, e_tupD, e_lstD, e_ixl, e_ixt, e_ixs, e_atn, e_at0, e_at1, e_at2, e_at3, e_at4, e_at5, e_at6, e_at7, e_at8, e_at9, e_at10, e_at11, e_at12, e_at13, e_at14, e_at15, e_trui, e_trub, e_notb, e_noti, e_isi_int_int, e_isi_int_bool, e_isi_int_tuple, e_isi_int_list, e_isi_int_str, e_isn_int, e_isnn_int, e_isi_str_int, e_isi_str_bool, e_isi_str_tuple, e_isi_str_list, e_isi_str_str, e_isn_str, e_isnn_str, e_isi_bl_int, e_isi_bl_bool, e_isi_bl_tuple, e_isi_bl_list, e_isi_bl_str, e_isn_bl, e_isnn_bl, e_isi_non_int, e_isi_non_bool, e_isi_non_tuple, e_isi_non_list, e_isi_non_str, e_isn_non, e_isnn_non, e_isi_lst_int, e_isi_lst_bool, e_isi_lst_tuple, e_isi_lst_list, e_isi_lst_str, e_isn_lst, e_isnn_lst, e_isi_tup_int, e_isi_tup_bool, e_isi_tup_tuple, e_isi_tup_list, e_isi_tup_str, e_isn_tup, e_isnn_tup, e_isi_scr_int, e_isi_scr_bool, e_isi_scr_tuple, e_isi_scr_list, e_isi_scr_str, e_isn_scr, e_isnn_scr, e_isb, e_neb, e_eqb, e_eqs, e_nes, e_adds, e_muls, e_lens, e_ixz, e_slz, e_itz, e_inz, e_ninz, e_all, e_intz, e_meth, e_meth1, e_raise, e_thnx, List.getElem?_cons_zero, List.getElem?_cons_succ, List.set_cons_zero, List.set_cons_succ, List.length_cons, List.length_nil, Option.map_some, Option.bind_some, List.map_cons, List.map_nil, List.cons_append, List.nil_append, ↓reduceIte, eq_self, Bool.false_eq_true, Bool.true_eq_false, Bool.not_true, Bool.not_false, decide_true, decide_false, endF, Int.reduceEq, Int.reduceLT, Int.reduceLE, Int.reduceNeg, Nat.reduceAdd, Nat.reduceLT, Nat.reduceLeDiff, Int.reduceToNat, Int.reduceSub, Int.reduceAdd, Int.reduceMul, h', h2', h3, e, e2, e3]
    · have h2' : ((0 : Int) < (ns.length : Int)) = False := eq_false (by omega)
      refine ⟨k, ?_⟩
      simp only [e_thn, e_thnr, e_thnb, e_thnc, e_seq, e_nx, e_bk, e_ct, e_frz, e_frz0, e_frz1, e_bndS, e_bnd, e_asg, e_asgw, e_asg0, e_asgi, e_asgt, e_asgp, e_sa0, e_sa1, e_bdn, e_bdp, e_ret, e_retv, e_retd0, e_retd1, e_retn, e_if, e_if1, e_if0, e_ifi, e_drop, e_app, e_app1, e_set, e_set1, e_set2, e_for, e_for1, e_varG, e_varB, e_rdV, e_rdB, e_rdB1, e_cst, e_op2, e_op1, e_sel, e_sel1, e_sel0, e_seli, e_bG, e_and, e_or, e_not, e_chain, e_on, e_on1, e_argN, e_argC, e_cons, e_itG, e_it1, e_it2, e_it3, e_lc, e_lc1, e_wipe0, e_wipe1, e_sl01, e_sl10, e_sl00, e_sl11, e_isInt, e_sll, e_add, e_addl, e_sub, e_mul, e_fdiv, e_mod, e_pow, e_neg, e_lt, e_le, e_gt, e_ge, e_eq, e_ne, e_int, e_abs, e_max, e_min, e_gcd, e_len1, e_len2, e_len3, e_list1, e_tupD, e_lstD, e_ixl, e_ixt, e_ixs, e_atn, e_at0, e_at1, e_at2, e_at3, e_at4, e_at5, e_at6, e_at7, e_at8, e_at9, e_at10, e_at11, e_at12, e_at13, e_at14, e_at15, e_trui, e_trub, e_notb, e_noti, e_isi_int_int, e_isi_int_bool, e_isi_int_tuple, e_isi_int_list, e_isi_int_str, e_isn_int, e_isnn_int, e_isi_str_int, e_isi_str_bool, e_isi_str_tuple, e_isi_str_list, e_isi_str_str, e_isn_str, e_isnn_str, e_isi_bl_int, e_isi_bl_bool, e_isi_bl_tuple, e_isi_bl_list, e_isi_bl_str, e_isn_bl, e_isnn_bl, e_isi_non_int, e_isi_non_bool, e_isi_non_tuple, e_isi_non_list, e_isi_non_str, e_isn_non, e_isnn_non, e_isi_lst_int, e_isi_lst_bool, e_isi_lst_tuple, e_isi_lst_list, e_isi_lst_str, e_isn_lst, e_isnn_lst, e_isi_tup_int, e_isi_tup_bool, e_isi_tup_tuple, e_isi_tup_list, e_isi_tup_str, e_isn_tup, e_isnn_tup, e_isi_scr_int, e_isi_scr_bool, e_isi_scr_tuple, e_isi_scr_list, e_isi_scr_str, e_isn_scr, e_isnn_scr, e_isb, e_neb, e_eqb, e_eqs, e_nes, e_adds, e_muls, e_lens, e_ixz, e_slz, e_itz, e_inz, e_ninz, e_all, e_intz, e_meth, e_meth1, e_raise, e_thnx, List.getElem?_cons_zero, List.getElem?_cons_succ, List.set_cons_zero, List.set_cons_succ, List.length_cons, List.length_nil, Option.map_some, Option.bind_some, List.map_cons, List.map_nil, List.cons_append, List.nil_append, ↓reduceIte, eq_self, Bool.false_eq_true, Bool.true_eq_false, Bool.not_true, Bool.not_false, decide_true, decide_false, endF, Int.reduceEq, Int.reduceLT, Int.reduceLE, Int.reduceNeg, Nat.reduceAdd, Nat.reduceLT, Nat.reduceLeDiff, Int.reduceToNat, Int.reduceSub, Int.reduceAdd, Int.reduceMul, h', h2']
def bodyMany : Ev → Option SRes := (seqG (ifG (andG (op2G geD (onG absD (argC (varB 4) argN)) (op2G powD (cstG (.int 10)) (cstG (.int 18)))) (op2G gtD (varB 5) (cstG (.int 0)))) (seqG (appG 6 (op2G modD (onG intD (argC (varB 5) argN)) (varB 3)))
  (seqG (asgG (.nm 5) (op2G fdivD (varB 5) (varB 3)))
  nxG)) (seqG (asgG (.nm 8) (op2G modD (onG intD (argC (op2G addD (op2G addD (op2G addD (op2G mulD (varB 4) (cstG (.int 48271))) (op2G mulD (varB 7) (cstG (.int 69621)))) (op2G mulD (cstG (.int 17)) (varB 1))) (cstG (.int 11))) argN)) (cstG (.int 2147483647))))
  (seqG (asgG (.nm 8) (op2G modD (onG intD (argC (op2G addD (op2G addD (op2G mulD (varB 8) (varB 8)) (op2G mulD (varB 7) (cstG (.int 40692)))) (cstG (.int 3))) argN)) (cstG (.int 2147483399))))
  (seqG (asgG (.nm 8) (op2G modD (onG intD (argC (op2G addD (op2G addD (op2G mulD (varB 8) (varB 8)) (op2G mulD (varB 7) (cstG (.int 7)))) (varB 1)) argN)) (cstG (.int 2147483579))))
  (seqG (appG 6 (op2G modD (onG intD (argC (op2G fdivD (varB 8) (cstG (.int 64))) argN)) (varB 3)))
  nxG)))))
  nxG)
def mx1 (c i k : Int) : Int := (c * 48271 + i * 69621 + 17 * k + 11).fmod 2147483647
def mx2 (m i : Int) : Int := (m * m + i * 40692 + 3).fmod 2147483399
def mx3 (m i k : Int) : Int := (m * m + i * 7 + k).fmod 2147483579
theorem mk_fmod {a b : Int} (m : Int) (h : 0 < m) (hm : m < 2147483648) : mulOk (a.fmod m) b = true := by
  have := fmod_nn (x := a) h
  exact mulOk_l (by omega)
theorem many_body {d0 d2 : Dt} {k limit c l i : Int} {xs : List Int} {o8 : Option Sl} (h0 : 0 < limit) (h1 : limit < 2147483648) (hx : xs.length < 1000000) :
    ∃ l' x o8', bodyMany [some (.sh d0), some (.sh (.int k)), some (.sh d2), some (.sh (.int limit)), some (.sh (.int c)), some (.sh (.int l)), some (.ow (xs.map Dt.int)), some (.sh (.int i)), o8] = some (.nx [some (.sh d0), some (.sh (.int k)), some (.sh d2), some (.sh (.int limit)), some (.sh (.int c)), some (.sh (.int l')), some (.ow ((xs ++ [x]).map Dt.int)), some (.sh (.int i)), o8']) ∧ 0 ≤ x ∧ x < limit := by
  have hp : powOk 10 18 = true := by decide
  have hl : ((xs.map Dt.int).length < 16777216) = True := eq_true (by rw [List.length_map]; omega)
  have hn : (limit = 0) = False := eq_false (by omega)
  have hd : divOk limit = true := divOk_31 h0 h1
  have hd64 : divOk 64 = true := by decide
  have m1 : ∀ x, mulOk x 48271 = true := fun x => mulOk_r (by decide)
  have m2 : ∀ x, mulOk x 69621 = true := fun x => mulOk_r (by decide)
  have m3 : ∀ x, mulOk 17 x = true := fun x => mulOk_l (by decide)
  have m4 : ∀ x, mulOk x 40692 = true := fun x => mulOk_r (by decide)
  have m5 : ∀ x, mulOk x 7 = true := fun x => mulOk_r (by decide)
  have m6 : ∀ a b : Int, mulOk (a.fmod 2147483647) b = true := fun a b => mk_fmod _ (by decide) (by decide)
  have m7 : ∀ a b : Int, mulOk (a.fmod 2147483399) b = true := fun a b => mk_fmod _ (by decide) (by decide)
  unfold bodyMany
  by_cases q : (10 : Int) ^ 18 ≤ (if c < 0 then -c else c) ∧ 0 < l
  · have q1 : ((10 : Int) ^ 18 ≤ (if c < 0 then -c else c)) = True := eq_true q.1
    have q2 : (0 < l) = True := eq_true q.2
    refine ⟨l.fdiv limit, l.fmod limit, o8, ?_, fmod_nn h0⟩
    simp only [e_thn, e_thnr, e_thnb, e_thnc, e_seq, e_nx, e_bk, e_ct, e_frz, e_frz0, e_frz1, e_bndS, e_bnd, e_asg, e_asgw, e_asg0, e_asgi, e_asgt, e_asgp, e_sa0, e_sa1, e_bdn, e_bdp, e_ret, e_retv, e_retd0, e_retd1, e_retn, e_if, e_if1, e_if0, e_ifi, e_drop, e_app, e_app1, e_set, e_set1, e_set2, e_for, e_for1, e_varG, e_varB, e_rdV, e_rdB, e_rdB1, e_cst, e_op2, e_op1, e_sel, e_sel1, e_sel0, e_seli, e_bG, e_and, e_or, e_not, e_chain, e_on, e_on1, e_argN, e_argC, e_cons, e_itG, e_it1, e_it2, e_it3, e_lc, e_lc1, e_wipe0, e_wipe1, e_sl01, e_sl10, e_sl00, e_sl11, e_isInt, e_sll, e_add, e_addl, e_sub, e_mul, e_fdiv, e_mod, e_pow, e_neg, e_lt, e_le, e_gt, e_ge, e_eq, e_ne, e_int, e_abs, e_max, e_min, e_gcd, e_len1, e_len2, e_len3, e_list1, e_tupD, e_lstD, e_ixl, e_ixt, e_ixs, e_atn, e_at0, e_at1, e_at2, e_at3, e_at4, e_at5, e_at6, e_at7, e_at8, e_at9, e_at10, e_at11, e_at12, e_at13, e_at14, e_at15, e_trui, e_trub, e_notb, e_noti, e_isi_int_int, e_isi_int_bool, e_isi_int_tuple, e_isi_int_list, e_isi_int_str, e_isn_int, e_isnn_int, e_isi_str_int, e_isi_str_bool, e_isi_str_tuple, e_isi_str_list, e_isi_str_str, e_isn_str, e_isnn_str, e_isi_bl_int, e_isi_bl_bool, e_isi_bl_tuple, e_isi_bl_list, e_isi_bl_str, e_isn_bl, e_isnn_bl, e_isi_non_int, e_isi_non_bool, e_isi_non_tuple, e_isi_non_list, e_isi_non_str, e_isn_non, e_isnn_non, e_isi_lst_int, e_isi_lst_bool, e_isi_lst_tuple, e_isi_lst_list, e_isi_lst_str, e_isn_lst, e_isnn_lst, e_isi_tup_int, e_isi_tup_bool, e_isi_tup_tuple, e_isi_tup_list, e_isi_tup_str, e_isn_tup, e_isnn_tup, e_isi_scr_int, e_isi_scr_bool, e_isi_scr_tuple, e_isi_scr_list, e_isi_scr_str, e_isn_scr, e_isnn_scr, e_isb, e_neb, e_eqb, e_eqs, e_nes, e_adds, e_muls, e_lens, e_ixz, e_slz, e_itz, e_inz, e_ninz, e_all, e_intz, e_meth, e_meth1, e_raise, e_thnx, List.getElem?_cons_zero, List.getElem?_cons_succ, List.set_cons_zero, List.set_cons_succ, List.length_cons, List.length_nil, Option.map_some, Option.bind_some, List.map_cons, List.map_nil, List.cons_append, List.nil_append, ↓reduceIte, eq_self, Bool.false_eq_true, Bool.true_eq_false, Bool.not_true, Bool.not_false, decide_true, decide_false, endF, Int.reduceEq, Int.reduceLT, Int.reduceLE, Int.reduceNeg, Nat.reduceAdd, Nat.reduceLT, Nat.reduceLeDiff, Int.reduceToNat, Int.reduceSub, Int.reduceAdd, Int.reduceMul, hp, q1, q2, hl, hn, hd, List.map_append]
  · have fin : ∃ x o8', bodyMany [some (.sh d0), some (.sh (.int k)), some (.sh d2), some (.sh (.int limit)), some (.sh (.int c)), some (.sh (.int l)), some (.ow (xs.map Dt.int)), some (.sh (.int i)), o8] = some (.nx [some (.sh d0), some (.sh (.int k)), some (.sh d2), some (.sh (.int limit)), some (.sh (.int c)), some (.sh (.int l)), some (.ow ((xs ++ [x]).map Dt.int)), some (.sh (.int i)), o8']) ∧ 0 ≤ x ∧ x < limit := by
      unfold bodyMany
      by_cases q1 : (10 : Int) ^ 18 ≤ (if c < 0 then -c else c)
      · have q2 : (0 < l) = False := eq_false fun z => q ⟨q1, z⟩
        have q1 := eq_true q1
        refine ⟨(Int.fdiv (mx3 (mx2 (mx1 c i k) i) i k) 64).fmod limit, some (.sh (.int (mx3 (mx2 (mx1 c i k) i) i k))), ?_, fmod_nn h0⟩
        simp only [e_thn, e_thnr, e_thnb, e_thnc, e_seq, e_nx, e_bk, e_ct, e_frz, e_frz0, e_frz1, e_bndS, e_bnd, e_asg, e_asgw, e_asg0, e_asgi, e_asgt, e_asgp, e_sa0, e_sa1, e_bdn, e_bdp, e_ret, e_retv, e_retd0, e_retd1, e_retn, e_if, e_if1, e_if0, e_ifi, e_drop, e_app, e_app1, e_set, e_set1, e_set2, e_for, e_for1, e_varG, e_varB, e_rdV, e_rdB, e_rdB1, e_cst, e_op2, e_op1, e_sel, e_sel1, e_sel0, e_seli, e_bG, e_and, e_or, e_not, e_chain, e_on, e_on1, e_argN, e_argC, e_cons, e_itG, e_it1, e_it2, e_it3, e_lc, e_lc1, e_wipe0, e_wipe1, e_sl01, e_sl10, e_sl00, e_sl11, e_isInt, e_sll, e_add, e_addl, e_sub, e_mul, e_fdiv, e_mod, e_pow, e_neg, e_lt, e_le, e_gt, e_ge, e_eq, e_ne, e_int, e_abs, e_max, e_min, e_gcd, e_len1, e_len2, e_len3, e_list1, e_tupD, e_lstD, e_ixl, e_ixt, e_ixs, e_atn, e_at0, e_at1, e_at2, e_at3, e_at4, e_at5, e_at6, e_at7, e_at8, e_at9, e_at10, e_at11, e_at12, e_at13, e_at14, e_at15, e_trui, e_trub, e_notb, e_noti, e_isi_int_int, e_isi_int_bool, e_isi_int_tuple, e_isi_int_list, e_isi_int_str, e_isn_int, e_isnn_int, e_isi_str_int, e_isi_str_bool, e_isi_str_tuple, e_isi_str_list, e_isi_str_str, e_isn_str, e_isnn_str, e_isi_bl_int, e_isi_bl_bool, e_isi_bl_tuple, e_isi_bl_list, e_isi_bl_str, e_isn_bl, e_isnn_bl, e_isi_non_int, e_isi_non_bool, e_isi_non_tuple, e_isi_non_list, e_isi_non_str, e_isn_non, e_isnn_non, e_isi_lst_int, e_isi_lst_bool, e_isi_lst_tuple, e_isi_lst_list, e_isi_lst_str, e_isn_lst, e_isnn_lst, e_isi_tup_int, e_isi_tup_bool, e_isi_tup_tuple, e_isi_tup_list, e_isi_tup_str, e_isn_tup, e_isnn_tup, e_isi_scr_int, e_isi_scr_bool, e_isi_scr_tuple, e_isi_scr_list, e_isi_scr_str, e_isn_scr, e_isnn_scr, e_isb, e_neb, e_eqb, e_eqs, e_nes, e_adds, e_muls, e_lens, e_ixz, e_slz, e_itz, e_inz, e_ninz, e_all, e_intz, e_meth, e_meth1, e_raise, e_thnx, List.getElem?_cons_zero, List.getElem?_cons_succ, List.set_cons_zero, List.set_cons_succ, List.length_cons, List.length_nil, Option.map_some, Option.bind_some, List.map_cons, List.map_nil, List.cons_append, List.nil_append, ↓reduceIte, eq_self, Bool.false_eq_true, Bool.true_eq_false, Bool.not_true, Bool.not_false, decide_true, decide_false, endF, Int.reduceEq, Int.reduceLT, Int.reduceLE, Int.reduceNeg, Nat.reduceAdd, Nat.reduceLT, Nat.reduceLeDiff, Int.reduceToNat, Int.reduceSub, Int.reduceAdd, Int.reduceMul, hp, q1, q2, hl, hn, hd, hd64, m1, m2, m3, m4, m5, m6, m7, List.map_append, mx1, mx2, mx3]
      · have q1 := eq_false q1
        refine ⟨(Int.fdiv (mx3 (mx2 (mx1 c i k) i) i k) 64).fmod limit, some (.sh (.int (mx3 (mx2 (mx1 c i k) i) i k))), ?_, fmod_nn h0⟩
        simp only [e_thn, e_thnr, e_thnb, e_thnc, e_seq, e_nx, e_bk, e_ct, e_frz, e_frz0, e_frz1, e_bndS, e_bnd, e_asg, e_asgw, e_asg0, e_asgi, e_asgt, e_asgp, e_sa0, e_sa1, e_bdn, e_bdp, e_ret, e_retv, e_retd0, e_retd1, e_retn, e_if, e_if1, e_if0, e_ifi, e_drop, e_app, e_app1, e_set, e_set1, e_set2, e_for, e_for1, e_varG, e_varB, e_rdV, e_rdB, e_rdB1, e_cst, e_op2, e_op1, e_sel, e_sel1, e_sel0, e_seli, e_bG, e_and, e_or, e_not, e_chain, e_on, e_on1, e_argN, e_argC, e_cons, e_itG, e_it1, e_it2, e_it3, e_lc, e_lc1, e_wipe0, e_wipe1, e_sl01, e_sl10, e_sl00, e_sl11, e_isInt, e_sll, e_add, e_addl, e_sub, e_mul, e_fdiv, e_mod, e_pow, e_neg, e_lt, e_le, e_gt, e_ge, e_eq, e_ne, e_int, e_abs, e_max, e_min, e_gcd, e_len1, e_len2, e_len3, e_list1, e_tupD, e_lstD, e_ixl, e_ixt, e_ixs, e_atn, e_at0, e_at1, e_at2, e_at3, e_at4, e_at5, e_at6, e_at7, e_at8, e_at9, e_at10, e_at11, e_at12, e_at13, e_at14, e_at15, e_trui, e_trub, e_notb, e_noti, e_isi_int_int, e_isi_int_bool, e_isi_int_tuple, e_isi_int_list, e_isi_int_str, e_isn_int, e_isnn_int, e_isi_str_int, e_isi_str_bool, e_isi_str_tuple, e_isi_str_list, e_isi_str_str, e_isn_str, e_isnn_str, e_isi_bl_int, e_isi_bl_bool, e_isi_bl_tuple, e_isi_bl_list, e_isi_bl_str, e_isn_bl, e_isnn_bl, e_isi_non_int, e_isi_non_bool, e_isi_non_tuple, e_isi_non_list, e_isi_non_str, e_isn_non, e_isnn_non, e_isi_lst_int, e_isi_lst_bool, e_isi_lst_tuple, e_isi_lst_list, e_isi_lst_str, e_isn_lst, e_isnn_lst, e_isi_tup_int, e_isi_tup_bool, e_isi_tup_tuple, e_isi_tup_list, e_isi_tup_str, e_isn_tup, e_isnn_tup, e_isi_scr_int, e_isi_scr_bool, e_isi_scr_tuple, e_isi_scr_list, e_isi_scr_str, e_isn_scr, e_isnn_scr, e_isb, e_neb, e_eqb, e_eqs, e_nes, e_adds, e_muls, e_lens, e_ixz, e_slz, e_itz, e_inz, e_ninz, e_all, e_intz, e_meth, e_meth1, e_raise, e_thnx, List.getElem?_cons_zero, List.getElem?_cons_succ, List.set_cons_zero, List.set_cons_succ, List.length_cons, List.length_nil, Option.map_some, Option.bind_some, List.map_cons, List.map_nil, List.cons_append, List.nil_append, ↓reduceIte, eq_self, Bool.false_eq_true, Bool.true_eq_false, Bool.not_true, Bool.not_false, decide_true, decide_false, endF, Int.reduceEq, Int.reduceLT, Int.reduceLE, Int.reduceNeg, Nat.reduceAdd, Nat.reduceLT, Nat.reduceLeDiff, Int.reduceToNat, Int.reduceSub, Int.reduceAdd, Int.reduceMul, hp, q1, hl, hn, hd, hd64, m1, m2, m3, m4, m5, m6, m7, List.map_append, mx1, mx2, mx3]
    obtain ⟨x, o8', h⟩ := fin
    exact ⟨l, x, o8', h⟩
theorem many_ok (ns : List Int) (k many : Nat) (limit : Int) (h0 : 0 < limit) (h1 : limit < 2147483648) (hm : many < 1000000) :
    ∃ xs : List Int, F__law_many [.scr ns, .int k, .int many, .int limit] = some (.ok true (.lst (xs.map Dt.int))) ∧ xs.length = many ∧ ∀ x ∈ xs, 0 ≤ x ∧ x < limit := by
  obtain ⟨c, hc⟩ := cell_ok ns k
  have hc2 : scD F__law_cell [.scr ns, .int k] = some (.ok false (.int c)) := e_sc hc rfl
  obtain ⟨e, h2, l, xs, o7, o8, rfl, h3, h4⟩ := over_nx (loop_inv (t := .nm 7) (g := bodyMany) (J := fun e => ∃ (l : Int) (xs : List Int) (o7 o8 : Option Sl), e = [some (.sh (.scr ns)), some (.sh (.int k)), some (.sh (.int many)), some (.sh (.int limit)), some (.sh (.int c)), some (.sh (.int l)), some (.ow (xs.map Dt.int)), o7, o8] ∧ xs.length = many ∧ ∀ x ∈ xs, 0 ≤ x ∧ x < limit)
    (fun i e => ∃ (l : Int) (xs : List Int) (o7 o8 : Option Sl), e = [some (.sh (.scr ns)), some (.sh (.int k)), some (.sh (.int many)), some (.sh (.int limit)), some (.sh (.int c)), some (.sh (.int l)), some (.ow (xs.map Dt.int)), o7, o8] ∧ xs.length = i ∧ ∀ x ∈ xs, 0 ≤ x ∧ x < limit)
    (rngD 0 many) 0 [some (.sh (.scr ns)), some (.sh (.int k)), some (.sh (.int many)), some (.sh (.int limit)), some (.sh (.int c)), some (.sh (.int (if c < 0 then -c else c))), some (.ow []), none, none]
    ⟨_, [], _, _, rfl, rfl, fun _ h => by cases h⟩ (fun i d e hk hI => by
      obtain ⟨l, xs, o7, o8, rfl, h5, h6⟩ := hI
      obtain ⟨hk2, rfl⟩ := rng_get hk
      refine ⟨_, e_bdn, ?_⟩
      obtain ⟨l', x, o8', h7, h8⟩ := many_body (d0 := .scr ns) (d2 := .int many) (k := k) (c := c) (l := l) (i := 0 + i) (o8 := o8) h0 h1 (show xs.length < 1000000 by omega)
      simp only [List.set_cons_succ, List.set_cons_zero]
      rw [h7]
      refine ⟨l', xs ++ [x], _, o8', rfl, by rw [List.length_append, h5]; simp, fun y hy => ?_⟩
      rcases List.mem_append.mp hy with h | h
      · exact h6 y h
      · rw [List.mem_singleton.mp h]
        exact h8) (fun e hI => by
      rw [rng_len, Nat.zero_add] at hI
      exact hI))
  refine ⟨xs, ?_, h3, h4⟩
  show endF (g__law_many F__law_cell [some (.sh (.scr ns)), some (.sh (.int k)), some (.sh (.int many)), some (.sh (.int limit)), none, none, none, none, none]) = _
  unfold g__law_many
  unfold bodyMany at h2
  simp only [e_thn, e_thnr, e_thnb, e_thnc, e_seq, e_nx, e_bk, e_ct, e_frz, e_frz0, e_frz1, e_bndS, e_bnd, e_asg, e_asgw, e_asg0, e_asgi, e_asgt, e_asgp, e_sa0, e_sa1, e_bdn, e_bdp, e_ret, e_retv, e_retd0, e_retd1, e_retn, e_if, e_if1, e_if0, e_ifi, e_drop, e_app, e_app1, e_set, e_set1, e_set2, e_for, e_for1, e_varG, e_varB, e_rdV, e_rdB, e_rdB1, e_cst, e_op2, e_op1, e_sel, e_sel1, e_sel0, e_seli, e_bG, e_and, e_or, e_not, e_chain, e_on, e_on1, e_argN, e_argC, e_cons, e_itG, e_it1, e_it2, e_it3, e_lc, e_lc1, e_wipe0, e_wipe1, e_sl01, e_sl10, e_sl00, e_sl11, e_isInt, e_sll, e_add, e_addl, e_sub, e_mul, e_fdiv, e_mod, e_pow, e_neg, e_lt, e_le, e_gt, e_ge, e_eq, e_ne, e_int, e_abs, e_max, e_min, e_gcd, e_len1, e_len2, e_len3, e_list1, e_tupD, e_lstD, e_ixl, e_ixt, e_ixs, e_atn, e_at0, e_at1, e_at2, e_at3, e_at4, e_at5, e_at6, e_at7, e_at8, e_at9, e_at10, e_at11, e_at12, e_at13, e_at14, e_at15, e_trui, e_trub, e_notb, e_noti, e_isi_int_int, e_isi_int_bool, e_isi_int_tuple, e_isi_int_list, e_isi_int_str, e_isn_int, e_isnn_int, e_isi_str_int, e_isi_str_bool, e_isi_str_tuple, e_isi_str_list, e_isi_str_str, e_isn_str, e_isnn_str, e_isi_bl_int, e_isi_bl_bool, e_isi_bl_tuple, e_isi_bl_list, e_isi_bl_str, e_isn_bl, e_isnn_bl, e_isi_non_int, e_isi_non_bool, e_isi_non_tuple, e_isi_non_list, e_isi_non_str, e_isn_non, e_isnn_non, e_isi_lst_int, e_isi_lst_bool, e_isi_lst_tuple, e_isi_lst_list, e_isi_lst_str, e_isn_lst, e_isnn_lst, e_isi_tup_int, e_isi_tup_bool, e_isi_tup_tuple, e_isi_tup_list, e_isi_tup_str, e_isn_tup, e_isnn_tup, e_isi_scr_int, e_isi_scr_bool, e_isi_scr_tuple, e_isi_scr_list, e_isi_scr_str, e_isn_scr, e_isnn_scr, e_isb, e_neb, e_eqb, e_eqs, e_nes, e_adds, e_muls, e_lens, e_ixz, e_slz, e_itz, e_inz, e_ninz, e_all, e_intz, e_meth, e_meth1, e_raise, e_thnx, List.getElem?_cons_zero, List.getElem?_cons_succ, List.set_cons_zero, List.set_cons_succ, List.length_cons, List.length_nil, Option.map_some, Option.bind_some, List.map_cons, List.map_nil, List.cons_append, List.nil_append, ↓reduceIte, eq_self, Bool.false_eq_true, Bool.true_eq_false, Bool.not_true, Bool.not_false, decide_true, decide_false, endF, Int.reduceEq, Int.reduceLT, Int.reduceLE, Int.reduceNeg, Nat.reduceAdd, Nat.reduceLT, Nat.reduceLeDiff, Int.reduceToNat, Int.reduceSub, Int.reduceAdd, Int.reduceMul, hc2, rng_nat (Nat.le_of_lt hm), h2, Nat.zero_le]
theorem is_whole_int {x : Int} : F__law_is_whole [.int x] = some (.ok false (.bl true)) := by
  show endF (g__law_is_whole [some (.sh (.int x))]) = _
  unfold g__law_is_whole
  simp only [e_thn, e_thnr, e_thnb, e_thnc, e_seq, e_nx, e_bk, e_ct, e_frz, e_frz0, e_frz1, e_bndS, e_bnd, e_asg, e_asgw, e_asg0, e_asgi, e_asgt, e_asgp, e_sa0, e_sa1, e_bdn, e_bdp, e_ret, e_retv, e_retd0, e_retd1, e_retn, e_if, e_if1, e_if0, e_ifi, e_drop, e_app, e_app1, e_set, e_set1, e_set2, e_for, e_for1, e_varG, e_varB, e_rdV, e_rdB, e_rdB1, e_cst, e_op2, e_op1, e_sel, e_sel1, e_sel0, e_seli, e_bG, e_and, e_or, e_not, e_chain, e_on, e_on1, e_argN, e_argC, e_cons, e_itG, e_it1, e_it2, e_it3, e_lc, e_lc1, e_wipe0, e_wipe1, e_sl01, e_sl10, e_sl00, e_sl11, e_isInt, e_sll, e_add, e_addl, e_sub, e_mul, e_fdiv, e_mod, e_pow, e_neg, e_lt, e_le, e_gt, e_ge, e_eq, e_ne, e_int, e_abs, e_max, e_min, e_gcd, e_len1, e_len2, e_len3, e_list1, e_tupD, e_lstD, e_ixl, e_ixt, e_ixs, e_atn, e_at0, e_at1, e_at2, e_at3, e_at4, e_at5, e_at6, e_at7, e_at8, e_at9, e_at10, e_at11, e_at12, e_at13, e_at14, e_at15, e_trui, e_trub, e_notb, e_noti, e_isi_int_int, e_isi_int_bool, e_isi_int_tuple, e_isi_int_list, e_isi_int_str, e_isn_int, e_isnn_int, e_isi_str_int, e_isi_str_bool, e_isi_str_tuple, e_isi_str_list, e_isi_str_str, e_isn_str, e_isnn_str, e_isi_bl_int, e_isi_bl_bool, e_isi_bl_tuple, e_isi_bl_list, e_isi_bl_str, e_isn_bl, e_isnn_bl, e_isi_non_int, e_isi_non_bool, e_isi_non_tuple, e_isi_non_list, e_isi_non_str, e_isn_non, e_isnn_non, e_isi_lst_int, e_isi_lst_bool, e_isi_lst_tuple, e_isi_lst_list, e_isi_lst_str, e_isn_lst, e_isnn_lst, e_isi_tup_int, e_isi_tup_bool, e_isi_tup_tuple, e_isi_tup_list, e_isi_tup_str, e_isn_tup, e_isnn_tup, e_isi_scr_int, e_isi_scr_bool, e_isi_scr_tuple, e_isi_scr_list, e_isi_scr_str, e_isn_scr, e_isnn_scr, e_isb, e_neb, e_eqb, e_eqs, e_nes, e_adds, e_muls, e_lens, e_ixz, e_slz, e_itz, e_inz, e_ninz, e_all, e_intz, e_meth, e_meth1, e_raise, e_thnx, List.getElem?_cons_zero, List.getElem?_cons_succ, List.set_cons_zero, List.set_cons_succ, List.length_cons, List.length_nil, Option.map_some, Option.bind_some, List.map_cons, List.map_nil, List.cons_append, List.nil_append, ↓reduceIte, eq_self, Bool.false_eq_true, Bool.true_eq_false, Bool.not_true, Bool.not_false, decide_true, decide_false, endF, Int.reduceEq, Int.reduceLT, Int.reduceLE, Int.reduceNeg, Nat.reduceAdd, Nat.reduceLT, Nat.reduceLeDiff, Int.reduceToNat, Int.reduceSub, Int.reduceAdd, Int.reduceMul]
theorem says_ok {b : Bool} : F__law_says [.bl b, .bl b] = some (.ok false (.bl true)) := by
  show endF (g__law_says [some (.sh (.bl b)), some (.sh (.bl b))]) = _
  unfold g__law_says
  cases b <;> simp only [e_thn, e_thnr, e_thnb, e_thnc, e_seq, e_nx, e_bk, e_ct, e_frz, e_frz0, e_frz1, e_bndS, e_bnd, e_asg, e_asgw, e_asg0, e_asgi, e_asgt, e_asgp, e_sa0, e_sa1, e_bdn, e_bdp, e_ret, e_retv, e_retd0, e_retd1, e_retn, e_if, e_if1, e_if0, e_ifi, e_drop, e_app, e_app1, e_set, e_set1, e_set2, e_for, e_for1, e_varG, e_varB, e_rdV, e_rdB, e_rdB1, e_cst, e_op2, e_op1, e_sel, e_sel1, e_sel0, e_seli, e_bG, e_and, e_or, e_not, e_chain, e_on, e_on1, e_argN, e_argC, e_cons, e_itG, e_it1, e_it2, e_it3, e_lc, e_lc1, e_wipe0, e_wipe1, e_sl01, e_sl10, e_sl00, e_sl11, e_isInt, e_sll, e_add, e_addl, e_sub, e_mul, e_fdiv, e_mod, e_pow, e_neg, e_lt, e_le, e_gt, e_ge, e_eq, e_ne, e_int, e_abs, e_max, e_min, e_gcd, e_len1, e_len2, e_len3, e_list1, e_tupD, e_lstD, e_ixl, e_ixt, e_ixs, e_atn, e_at0, e_at1, e_at2, e_at3, e_at4, e_at5, e_at6, e_at7, e_at8, e_at9, e_at10, e_at11, e_at12, e_at13, e_at14, e_at15, e_trui, e_trub, e_notb, e_noti, e_isi_int_int, e_isi_int_bool, e_isi_int_tuple, e_isi_int_list, e_isi_int_str, e_isn_int, e_isnn_int, e_isi_str_int, e_isi_str_bool, e_isi_str_tuple, e_isi_str_list, e_isi_str_str, e_isn_str, e_isnn_str, e_isi_bl_int, e_isi_bl_bool, e_isi_bl_tuple, e_isi_bl_list, e_isi_bl_str, e_isn_bl, e_isnn_bl, e_isi_non_int, e_isi_non_bool, e_isi_non_tuple, e_isi_non_list, e_isi_non_str, e_isn_non, e_isnn_non, e_isi_lst_int, e_isi_lst_bool, e_isi_lst_tuple, e_isi_lst_list, e_isi_lst_str, e_isn_lst, e_isnn_lst, e_isi_tup_int, e_isi_tup_bool, e_isi_tup_tuple, e_isi_tup_list, e_isi_tup_str, e_isn_tup, e_isnn_tup, e_isi_scr_int, e_isi_scr_bool, e_isi_scr_tuple, e_isi_scr_list, e_isi_scr_str, e_isn_scr, e_isnn_scr, e_isb, e_neb, e_eqb, e_eqs, e_nes, e_adds, e_muls, e_lens, e_ixz, e_slz, e_itz, e_inz, e_ninz, e_all, e_intz, e_meth, e_meth1, e_raise, e_thnx, List.getElem?_cons_zero, List.getElem?_cons_succ, List.set_cons_zero, List.set_cons_succ, List.length_cons, List.length_nil, Option.map_some, Option.bind_some, List.map_cons, List.map_nil, List.cons_append, List.nil_append, ↓reduceIte, eq_self, Bool.false_eq_true, Bool.true_eq_false, Bool.not_true, Bool.not_false, decide_true, decide_false, endF, Int.reduceEq, Int.reduceLT, Int.reduceLE, Int.reduceNeg, Nat.reduceAdd, Nat.reduceLT, Nat.reduceLeDiff, Int.reduceToNat, Int.reduceSub, Int.reduceAdd, Int.reduceMul]
theorem map_get {xs : List Int} {k : Nat} {d : Dt} (h : (xs.map Dt.int)[k]? = some d) : ∃ x, xs[k]? = some x ∧ d = .int x := by
  rw [List.getElem?_map] at h
  cases q : xs[k]? with
  | none => rw [q] at h; cases h
  | some x => rw [q] at h; cases h; exact ⟨x, rfl, rfl⟩
theorem many_at (ns : List Int) {k many limit : Int} (hk : 0 ≤ k) (hm0 : 0 ≤ many) (hm : many < 1000000) (h0 : 0 < limit) (h1 : limit < 2147483648) :
    ∃ xs : List Int, F__law_many [.scr ns, .int k, .int many, .int limit] = some (.ok true (.lst (xs.map Dt.int))) ∧ xs.length = many.toNat ∧ ∀ x ∈ xs, 0 ≤ x ∧ x < limit := by
  have := many_ok ns k.toNat many.toNat limit h0 h1 (by omega)
  rw [Int.toNat_of_nonneg hk, Int.toNat_of_nonneg hm0] at this
  exact this
end K00

namespace K00
open PySem PySem.Spec PyProof.Rows L2 Evl Dl
def ch (c : Nat) : Dt := .str ⟨#[c]⟩
theorem signs_eq (z : Str) : Dl.signs z = z.cps.toList.map ch := rfl
theorem lc_all {e0 : Option Sl} {l : List Nat} {t : Ev → Option Res} {p : Nat → Bool} (h : ∀ c, t [e0, none, some (.sh (ch c))] = some (.ok false (.bl (p c)))) :
    lcL [e0, none, none] (.nm 2) (bG true) t (l.map ch) = some ((l.map p).map Dt.bl) := by
  have := lc_map (envw := [e0, none, none]) (t := .nm 2) (fe := t) (F := fun d => match d with | .str z => .bl (p (z.cps.toList.headD 0)) | d => d) (ds := l.map ch) (fun d hd => by
    obtain ⟨c, _, rfl⟩ := List.mem_map.mp hd
    exact ⟨_, e_bdn, false, h c⟩)
  rw [this, List.map_map, List.map_map]
  rfl
theorem all_bls (l : List Bool) : allD [.lst (l.map Dt.bl)] = some (.ok false (.bl (l.all id))) := by
  rw [e_all, asBls_map]
  rfl
abbrev SM : Str := "abcdefghijklmnopqrstuvwxyz"
abbrev FG : Str := "0123456789"
def okSign (c : Nat) : Bool := decide (c ∈ SM.cps.toList) || decide (c ∈ FG.cps.toList)
def nameB (l : List Nat) : Bool := match l with
  | [] => false
  | c :: r => decide (l.length ≤ 8) && decide (c ∈ SM.cps.toList) && l.all okSign
theorem len_z {z : Str} : z.length = z.cps.toList.length := (Array.length_toList).symm
theorem is_name_ok (z : Str) (hz : z.length ≤ 1000) : F_is_name [.str z] = some (.ok false (.bl (nameB z.cps.toList))) := by
  have hl : (z.length ≤ 16777216) = True := eq_true (by omega)
  show endF (g_is_name [some (.sh (.str z)), none, none]) = _
  unfold g_is_name
  have e := len_z (z := z)
  cases q : z.cps.toList with
  | nil =>
    rw [q] at e
    have e1 : ((1 : Int) ≤ (z.length : Int)) = False := eq_false (by rw [e]; decide)
    simp only [e_thn, e_thnr, e_thnb, e_thnc, e_seq, e_nx, e_bk, e_ct, e_frz, e_frz0, e_frz1, e_bndS, e_bnd, e_asg, e_asgw, e_asg0, e_asgi, e_asgt, e_asgp, e_sa0, e_sa1, e_bdn, e_bdp, e_ret, e_retv, e_retd0, e_retd1, e_retn, e_if, e_if1, e_if0, e_ifi, e_drop, e_app, e_app1, e_set, e_set1, e_set2, e_for, e_for1, e_varG, e_varB, e_rdV, e_rdB, e_rdB1, e_cst, e_op2, e_op1, e_sel, e_sel1, e_sel0, e_seli, e_bG, e_and, e_or, e_not, e_chain, e_on, e_on1, e_argN, e_argC, e_cons, e_itG, e_it1, e_it2, e_it3, e_lc, e_lc1, e_wipe0, e_wipe1, e_sl01, e_sl10, e_sl00, e_sl11, e_isInt, e_sll, e_add, e_addl, e_sub, e_mul, e_fdiv, e_mod, e_pow, e_neg, e_lt, e_le, e_gt, e_ge, e_eq, e_ne, e_int, e_abs, e_max, e_min, e_gcd, e_len1, e_len2, e_len3, e_list1, e_tupD, e_lstD, e_ixl, e_ixt, e_ixs, e_atn, e_at0, e_at1, e_at2, e_at3, e_at4, e_at5, e_at6, e_at7, e_at8, e_at9, e_at10, e_at11, e_at12, e_at13, e_at14, e_at15, e_trui, e_trub, e_notb, e_noti, e_isi_int_int, e_isi_int_bool, e_isi_int_tuple, e_isi_int_list, e_isi_int_str, e_isn_int, e_isnn_int, e_isi_str_int, e_isi_str_bool, e_isi_str_tuple, e_isi_str_list, e_isi_str_str, e_isn_str, e_isnn_str, e_isi_bl_int, e_isi_bl_bool, e_isi_bl_tuple, e_isi_bl_list, e_isi_bl_str, e_isn_bl, e_isnn_bl, e_isi_non_int, e_isi_non_bool, e_isi_non_tuple, e_isi_non_list, e_isi_non_str, e_isn_non, e_isnn_non, e_isi_lst_int, e_isi_lst_bool, e_isi_lst_tuple, e_isi_lst_list, e_isi_lst_str, e_isn_lst, e_isnn_lst, e_isi_tup_int, e_isi_tup_bool, e_isi_tup_tuple, e_isi_tup_list, e_isi_tup_str, e_isn_tup, e_isnn_tup, e_isi_scr_int, e_isi_scr_bool, e_isi_scr_tuple, e_isi_scr_list, e_isi_scr_str, e_isn_scr, e_isnn_scr, e_isb, e_neb, e_eqb, e_eqs, e_nes, e_adds, e_muls, e_lens, e_ixz, e_slz, e_itz, e_inz, e_ninz, e_all, e_intz, e_meth, e_meth1, e_raise, e_thnx, List.getElem?_cons_zero, List.getElem?_cons_succ, List.set_cons_zero, List.set_cons_succ, List.length_cons, List.length_nil, Option.map_some, Option.bind_some, List.map_cons, List.map_nil, List.cons_append, List.nil_append, ↓reduceIte, eq_self, Bool.false_eq_true, Bool.true_eq_false, Bool.not_true, Bool.not_false, decide_true, decide_false, endF, Int.reduceEq, Int.reduceLT, Int.reduceLE, Int.reduceNeg, Nat.reduceAdd, Nat.reduceLT, Nat.reduceLeDiff, Int.reduceToNat, Int.reduceSub, Int.reduceAdd, Int.reduceMul, hl, e1, nameB]
  | cons c r =>
    have e1 : ((1 : Int) ≤ (z.length : Int)) = True := eq_true (by rw [e, q, List.length_cons]; omega)
    by_cases h8 : z.length ≤ 8
    · have e2 : ((z.length : Int) ≤ 8) = True := eq_true (by omega)
      by_cases hc : c ∈ SM.cps.toList
      · have hc' := eq_true hc
        have la := lc_all (e0 := some (.sh (.str z))) (l := c :: r) (t := orG (op2G inD (varB 2) (cstG (.str SM))) (op2G inD (varB 2) (cstG (.str FG)))) (p := okSign) (fun d => by
          unfold ch okSign
          by_cases a : d ∈ SM.cps.toList
          · have a' := eq_true a
            simp only [e_thn, e_thnr, e_thnb, e_thnc, e_seq, e_nx, e_bk, e_ct, e_frz, e_frz0, e_frz1, e_bndS, e_bnd, e_asg, e_asgw, e_asg0, e_asgi, e_asgt, e_asgp, e_sa0, e_sa1, e_bdn, e_bdp, e_ret, e_retv, e_retd0, e_retd1, e_retn, e_if, e_if1, e_if0, e_ifi, e_drop, e_app, e_app1, e_set, e_set1, e_set2, e_for, e_for1, e_varG, e_varB, e_rdV, e_rdB, e_rdB1, e_cst, e_op2, e_op1, e_sel, e_sel1, e_sel0, e_seli, e_bG, e_and, e_or, e_not, e_chain, e_on, e_on1, e_argN, e_argC, e_cons, e_itG, e_it1, e_it2, e_it3, e_lc, e_lc1, e_wipe0, e_wipe1, e_sl01, e_sl10, e_sl00, e_sl11, e_isInt, e_sll, e_add, e_addl, e_sub, e_mul, e_fdiv, e_mod, e_pow, e_neg, e_lt, e_le, e_gt, e_ge, e_eq, e_ne, e_int, e_abs, e_max, e_min, e_gcd, e_len1, e_len2, e_len3, e_list1, e_tupD, e_lstD, e_ixl, e_ixt, e_ixs, e_atn, e_at0, e_at1, e_at2, e_at3, e_at4, e_at5, e_at6, e_at7, e_at8, e_at9, e_at10, e_at11, e_at12, e_at13, e_at14, e_at15, e_trui, e_trub, e_notb, e_noti, e_isi_int_int, e_isi_int_bool, e_isi_int_tuple, e_isi_int_list, e_isi_int_str, e_isn_int, e_isnn_int, e_isi_str_int, e_isi_str_bool, e_isi_str_tuple, e_isi_str_list, e_isi_str_str, e_isn_str, e_isnn_str, e_isi_bl_int, e_isi_bl_bool, e_isi_bl_tuple, e_isi_bl_list, e_isi_bl_str, e_isn_bl, e_isnn_bl, e_isi_non_int, e_isi_non_bool, e_isi_non_tuple, e_isi_non_list, e_isi_non_str, e_isn_non, e_isnn_non, e_isi_lst_int, e_isi_lst_bool, e_isi_lst_tuple, e_isi_lst_list, e_isi_lst_str, e_isn_lst, e_isnn_lst, e_isi_tup_int, e_isi_tup_bool, e_isi_tup_tuple, e_isi_tup_list, e_isi_tup_str, e_isn_tup, e_isnn_tup, e_isi_scr_int, e_isi_scr_bool, e_isi_scr_tuple, e_isi_scr_list, e_isi_scr_str, e_isn_scr, e_isnn_scr, e_isb, e_neb, e_eqb, e_eqs, e_nes, e_adds, e_muls, e_lens, e_ixz, e_slz, e_itz, e_inz, e_ninz, e_all, e_intz, e_meth, e_meth1, e_raise, e_thnx, List.getElem?_cons_zero, List.getElem?_cons_succ, List.set_cons_zero, List.set_cons_succ, List.length_cons, List.length_nil, Option.map_some, Option.bind_some, List.map_cons, List.map_nil, List.cons_append, List.nil_append, ↓reduceIte, eq_self, Bool.false_eq_true, Bool.true_eq_false, Bool.not_true, Bool.not_false, decide_true, decide_false, endF, Int.reduceEq, Int.reduceLT, Int.reduceLE, Int.reduceNeg, Nat.reduceAdd, Nat.reduceLT, Nat.reduceLeDiff, Int.reduceToNat, Int.reduceSub, Int.reduceAdd, Int.reduceMul, a', Bool.true_or]
          · have a' := eq_false a
            simp only [e_thn, e_thnr, e_thnb, e_thnc, e_seq, e_nx, e_bk, e_ct, e_frz, e_frz0, e_frz1, e_bndS, e_bnd, e_asg, e_asgw, e_asg0, e_asgi, e_asgt, e_asgp, e_sa0, e_sa1, e_bdn, e_bdp, e_ret, e_retv, e_retd0, e_retd1, e_retn, e_if, e_if1, e_if0, e_ifi, e_drop, e_app, e_app1, e_set, e_set1, e_set2, e_for, e_for1, e_varG, e_varB, e_rdV, e_rdB, e_rdB1, e_cst, e_op2, e_op1, e_sel, e_sel1, e_sel0, e_seli, e_bG, e_and, e_or, e_not, e_chain, e_on, e_on1, e_argN, e_argC, e_cons, e_itG, e_it1, e_it2, e_it3, e_lc, e_lc1, e_wipe0, e_wipe1, e_sl01, e_sl10, e_sl00, e_sl11, e_isInt, e_sll, e_add, e_addl, e_sub, e_mul, e_fdiv, e_mod, e_pow, e_neg, e_lt, e_le, e_gt, e_ge, e_eq, e_ne, e_int, e_abs, e_max, e_min, e_gcd, e_len1, e_len2, e_len3, e_list1, e_tupD, e_lstD, e_ixl, e_ixt, e_ixs, e_atn, e_at0, e_at1, e_at2, e_at3, e_at4, e_at5, e_at6, e_at7, e_at8, e_at9, e_at10, e_at11, e_at12, e_at13, e_at14, e_at15, e_trui, e_trub, e_notb, e_noti, e_isi_int_int, e_isi_int_bool, e_isi_int_tuple, e_isi_int_list, e_isi_int_str, e_isn_int, e_isnn_int, e_isi_str_int, e_isi_str_bool, e_isi_str_tuple, e_isi_str_list, e_isi_str_str, e_isn_str, e_isnn_str, e_isi_bl_int, e_isi_bl_bool, e_isi_bl_tuple, e_isi_bl_list, e_isi_bl_str, e_isn_bl, e_isnn_bl, e_isi_non_int, e_isi_non_bool, e_isi_non_tuple, e_isi_non_list, e_isi_non_str, e_isn_non, e_isnn_non, e_isi_lst_int, e_isi_lst_bool, e_isi_lst_tuple, e_isi_lst_list, e_isi_lst_str, e_isn_lst, e_isnn_lst, e_isi_tup_int, e_isi_tup_bool, e_isi_tup_tuple, e_isi_tup_list, e_isi_tup_str, e_isn_tup, e_isnn_tup, e_isi_scr_int, e_isi_scr_bool, e_isi_scr_tuple, e_isi_scr_list, e_isi_scr_str, e_isn_scr, e_isnn_scr, e_isb, e_neb, e_eqb, e_eqs, e_nes, e_adds, e_muls, e_lens, e_ixz, e_slz, e_itz, e_inz, e_ninz, e_all, e_intz, e_meth, e_meth1, e_raise, e_thnx, List.getElem?_cons_zero, List.getElem?_cons_succ, List.set_cons_zero, List.set_cons_succ, List.length_cons, List.length_nil, Option.map_some, Option.bind_some, List.map_cons, List.map_nil, List.cons_append, List.nil_append, ↓reduceIte, eq_self, Bool.false_eq_true, Bool.true_eq_false, Bool.not_true, Bool.not_false, decide_true, decide_false, endF, Int.reduceEq, Int.reduceLT, Int.reduceLE, Int.reduceNeg, Nat.reduceAdd, Nat.reduceLT, Nat.reduceLeDiff, Int.reduceToNat, Int.reduceSub, Int.reduceAdd, Int.reduceMul, a', Bool.false_or])
        have ls : ((((c :: r).map okSign).map Dt.bl).length ≤ 16777216) = True := eq_true (by rw [List.length_map, List.length_map, ← q, ← e]; omega)
        have h7 : (r.length ≤ 7) = True := eq_true (by rw [q, List.length_cons] at e; omega)
        simp only [e_seq, e_if, e_thn, e_bndS, e_or, e_not, e_chain, e_bnd, e_cst, e_on, e_on1, e_argC, e_argN, e_cons, e_varB, e_rdB, List.getElem?_cons_zero, e_lens, hl, if_true, e_le, e1, e2, decide_true, e_sel1, e_sel0, e_op2, e_ixz, e_at0, q, Option.map_some, e_ninz, hc', Bool.not_true, e_if0, e_nx, e_ret, e_lc, e_itG, e_itz, e_lc1, signs_eq, e_wipe1, e_wipe0, List.set_cons_succ, List.set_cons_zero]
        rw [la]
        simp only [Option.bind_some, ls, if_true, e_bnd, e_cons, e_on1, all_bls, e_bndS, e_thnr, endF, nameB, List.length_cons]
        simp [h7, hc, List.all_map]
      · have hc' := eq_false hc
        have h8' : ((c :: r).length ≤ 8) = True := eq_true (by rw [← q, ← e]; exact h8)
        simp only [e_thn, e_thnr, e_thnb, e_thnc, e_seq, e_nx, e_bk, e_ct, e_frz, e_frz0, e_frz1, e_bndS, e_bnd, e_asg, e_asgw, e_asg0, e_asgi, e_asgt, e_asgp, e_sa0, e_sa1, e_bdn, e_bdp, e_ret, e_retv, e_retd0, e_retd1, e_retn, e_if, e_if1, e_if0, e_ifi, e_drop, e_app, e_app1, e_set, e_set1, e_set2, e_for, e_for1, e_varG, e_varB, e_rdV, e_rdB, e_rdB1, e_cst, e_op2, e_op1, e_sel, e_sel1, e_sel0, e_seli, e_bG, e_and, e_or, e_not, e_chain, e_on, e_on1, e_argN, e_argC, e_cons, e_itG, e_it1, e_it2, e_it3, e_lc, e_lc1, e_wipe0, e_wipe1, e_sl01, e_sl10, e_sl00, e_sl11, e_isInt, e_sll, e_add, e_addl, e_sub, e_mul, e_fdiv, e_mod, e_pow, e_neg, e_lt, e_le, e_gt, e_ge, e_eq, e_ne, e_int, e_abs, e_max, e_min, e_gcd, e_len1, e_len2, e_len3, e_list1, e_tupD, e_lstD, e_ixl, e_ixt, e_ixs, e_atn, e_at0, e_at1, e_at2, e_at3, e_at4, e_at5, e_at6, e_at7, e_at8, e_at9, e_at10, e_at11, e_at12, e_at13, e_at14, e_at15, e_trui, e_trub, e_notb, e_noti, e_isi_int_int, e_isi_int_bool, e_isi_int_tuple, e_isi_int_list, e_isi_int_str, e_isn_int, e_isnn_int, e_isi_str_int, e_isi_str_bool, e_isi_str_tuple, e_isi_str_list, e_isi_str_str, e_isn_str, e_isnn_str, e_isi_bl_int, e_isi_bl_bool, e_isi_bl_tuple, e_isi_bl_list, e_isi_bl_str, e_isn_bl, e_isnn_bl, e_isi_non_int, e_isi_non_bool, e_isi_non_tuple, e_isi_non_list, e_isi_non_str, e_isn_non, e_isnn_non, e_isi_lst_int, e_isi_lst_bool, e_isi_lst_tuple, e_isi_lst_list, e_isi_lst_str, e_isn_lst, e_isnn_lst, e_isi_tup_int, e_isi_tup_bool, e_isi_tup_tuple, e_isi_tup_list, e_isi_tup_str, e_isn_tup, e_isnn_tup, e_isi_scr_int, e_isi_scr_bool, e_isi_scr_tuple, e_isi_scr_list, e_isi_scr_str, e_isn_scr, e_isnn_scr, e_isb, e_neb, e_eqb, e_eqs, e_nes, e_adds, e_muls, e_lens, e_ixz, e_slz, e_itz, e_inz, e_ninz, e_all, e_intz, e_meth, e_meth1, e_raise, e_thnx, List.getElem?_cons_zero, List.getElem?_cons_succ, List.set_cons_zero, List.set_cons_succ, List.length_cons, List.length_nil, Option.map_some, Option.bind_some, List.map_cons, List.map_nil, List.cons_append, List.nil_append, ↓reduceIte, eq_self, Bool.false_eq_true, Bool.true_eq_false, Bool.not_true, Bool.not_false, decide_true, decide_false, endF, Int.reduceEq, Int.reduceLT, Int.reduceLE, Int.reduceNeg, Nat.reduceAdd, Nat.reduceLT, Nat.reduceLeDiff, Int.reduceToNat, Int.reduceSub, Int.reduceAdd, Int.reduceMul, hl, e1, e2, q, hc', nameB, Bool.and_false, Bool.false_and]
    · have e2 : ((z.length : Int) ≤ 8) = False := eq_false (by omega)
      have h8' : (r.length ≤ 7) = False := eq_false (by rw [q, List.length_cons] at e; omega)
      simp only [e_thn, e_thnr, e_thnb, e_thnc, e_seq, e_nx, e_bk, e_ct, e_frz, e_frz0, e_frz1, e_bndS, e_bnd, e_asg, e_asgw, e_asg0, e_asgi, e_asgt, e_asgp, e_sa0, e_sa1, e_bdn, e_bdp, e_ret, e_retv, e_retd0, e_retd1, e_retn, e_if, e_if1, e_if0, e_ifi, e_drop, e_app, e_app1, e_set, e_set1, e_set2, e_for, e_for1, e_varG, e_varB, e_rdV, e_rdB, e_rdB1, e_cst, e_op2, e_op1, e_sel, e_sel1, e_sel0, e_seli, e_bG, e_and, e_or, e_not, e_chain, e_on, e_on1, e_argN, e_argC, e_cons, e_itG, e_it1, e_it2, e_it3, e_lc, e_lc1, e_wipe0, e_wipe1, e_sl01, e_sl10, e_sl00, e_sl11, e_isInt, e_sll, e_add, e_addl, e_sub, e_mul, e_fdiv, e_mod, e_pow, e_neg, e_lt, e_le, e_gt, e_ge, e_eq, e_ne, e_int, e_abs, e_max, e_min, e_gcd, e_len1, e_len2, e_len3, e_list1, e_tupD, e_lstD, e_ixl, e_ixt, e_ixs, e_atn, e_at0, e_at1, e_at2, e_at3, e_at4, e_at5, e_at6, e_at7, e_at8, e_at9, e_at10, e_at11, e_at12, e_at13, e_at14, e_at15, e_trui, e_trub, e_notb, e_noti, e_isi_int_int, e_isi_int_bool, e_isi_int_tuple, e_isi_int_list, e_isi_int_str, e_isn_int, e_isnn_int, e_isi_str_int, e_isi_str_bool, e_isi_str_tuple, e_isi_str_list, e_isi_str_str, e_isn_str, e_isnn_str, e_isi_bl_int, e_isi_bl_bool, e_isi_bl_tuple, e_isi_bl_list, e_isi_bl_str, e_isn_bl, e_isnn_bl, e_isi_non_int, e_isi_non_bool, e_isi_non_tuple, e_isi_non_list, e_isi_non_str, e_isn_non, e_isnn_non, e_isi_lst_int, e_isi_lst_bool, e_isi_lst_tuple, e_isi_lst_list, e_isi_lst_str, e_isn_lst, e_isnn_lst, e_isi_tup_int, e_isi_tup_bool, e_isi_tup_tuple, e_isi_tup_list, e_isi_tup_str, e_isn_tup, e_isnn_tup, e_isi_scr_int, e_isi_scr_bool, e_isi_scr_tuple, e_isi_scr_list, e_isi_scr_str, e_isn_scr, e_isnn_scr, e_isb, e_neb, e_eqb, e_eqs, e_nes, e_adds, e_muls, e_lens, e_ixz, e_slz, e_itz, e_inz, e_ninz, e_all, e_intz, e_meth, e_meth1, e_raise, e_thnx, List.getElem?_cons_zero, List.getElem?_cons_succ, List.set_cons_zero, List.set_cons_succ, List.length_cons, List.length_nil, Option.map_some, Option.bind_some, List.map_cons, List.map_nil, List.cons_append, List.nil_append, ↓reduceIte, eq_self, Bool.false_eq_true, Bool.true_eq_false, Bool.not_true, Bool.not_false, decide_true, decide_false, endF, Int.reduceEq, Int.reduceLT, Int.reduceLE, Int.reduceNeg, Nat.reduceAdd, Nat.reduceLT, Nat.reduceLeDiff, Int.reduceToNat, Int.reduceSub, Int.reduceAdd, Int.reduceMul, hl, e1, e2, nameB, h8', Bool.false_and]
end K00

namespace K00
open PySem PySem.Spec PyProof.Rows L2 Evl Dl
theorem lc_pick {e0 : Option Sl} {l : List Nat} {t : Ev → Option Res} {p : Nat → Bool} (h : ∀ c, t [e0, none, some (.sh (ch c))] = some (.ok false (.bl (p c)))) :
    lcL [e0, none, none] (.nm 2) t (varG 2) (l.map ch) = some ((l.filter p).map ch) := by
  have := lc_filt (envw := [e0, none, none]) (t := .nm 2) (ft := t) (fe := varG 2) (p := fun d => match d with | .str z => p (z.cps.toList.headD 0) | _ => false) (F := id) (ds := l.map ch) (fun d hd => by
    obtain ⟨c, _, rfl⟩ := List.mem_map.mp hd
    exact ⟨_, e_bdn, ⟨false, h c⟩, fun _ => ⟨false, rfl⟩⟩)
  rw [this, List.map_id, List.filter_map]
  rfl
abbrev SF : Str := "abcdefghijklmnopqrstuvwxyz0123456789"
theorem sf_iff (c : Nat) : decide (c ∈ SF.cps.toList) = okSign c := by
  have e : SF.cps.toList = SM.cps.toList ++ FG.cps.toList := by decide +kernel
  unfold okSign
  rw [e, ← Bool.decide_or]
  exact decide_eq_decide.mpr List.mem_append
theorem law_is_name_ok (z : Str) (hz : z.length ≤ 1000) : F__law_is_name [.str z] = some (.ok false (.bl (nameB z.cps.toList))) := by
  have hl : (z.length ≤ 16777216) = True := eq_true (by omega)
  show endF (g__law_is_name [some (.sh (.str z)), none, none]) = _
  unfold g__law_is_name
  have e := len_z (z := z)
  cases q : z.cps.toList with
  | nil =>
    rw [q] at e
    have e1 : ((z.length : Int) < 1) = True := eq_true (by rw [e]; decide)
    simp only [e_thn, e_thnr, e_thnb, e_thnc, e_seq, e_nx, e_bk, e_ct, e_frz, e_frz0, e_frz1, e_bndS, e_bnd, e_asg, e_asgw, e_asg0, e_asgi, e_asgt, e_asgp, e_sa0, e_sa1, e_bdn, e_bdp, e_ret, e_retv, e_retd0, e_retd1, e_retn, e_if, e_if1, e_if0, e_ifi, e_drop, e_app, e_app1, e_set, e_set1, e_set2, e_for, e_for1, e_varG, e_varB, e_rdV, e_rdB, e_rdB1, e_cst, e_op2, e_op1, e_sel, e_sel1, e_sel0, e_seli, e_bG, e_and, e_or, e_not, e_chain, e_on, e_on1, e_argN, e_argC, e_cons, e_itG, e_it1, e_it2, e_it3, e_lc, e_lc1, e_wipe0, e_wipe1, e_sl01, e_sl10, e_sl00, e_sl11, e_isInt, e_sll, e_add, e_addl, e_sub, e_mul, e_fdiv, e_mod, e_pow, e_neg, e_lt, e_le, e_gt, e_ge, e_eq, e_ne, e_int, e_abs, e_max, e_min, e_gcd, e_len1, e_len2, e_len3, e_list1, e_tupD, e_lstD, e_ixl, e_ixt, e_ixs, e_atn, e_at0, e_at1, e_at2, e_at3, e_at4, e_at5, e_at6, e_at7, e_at8, e_at9, e_at10, e_at11, e_at12, e_at13, e_at14, e_at15, e_trui, e_trub, e_notb, e_noti, e_isi_int_int, e_isi_int_bool, e_isi_int_tuple, e_isi_int_list, e_isi_int_str, e_isn_int, e_isnn_int, e_isi_str_int, e_isi_str_bool, e_isi_str_tuple, e_isi_str_list, e_isi_str_str, e_isn_str, e_isnn_str, e_isi_bl_int, e_isi_bl_bool, e_isi_bl_tuple, e_isi_bl_list, e_isi_bl_str, e_isn_bl, e_isnn_bl, e_isi_non_int, e_isi_non_bool, e_isi_non_tuple, e_isi_non_list, e_isi_non_str, e_isn_non, e_isnn_non, e_isi_lst_int, e_isi_lst_bool, e_isi_lst_tuple, e_isi_lst_list, e_isi_lst_str, e_isn_lst, e_isnn_lst, e_isi_tup_int, e_isi_tup_bool, e_isi_tup_tuple, e_isi_tup_list, e_isi_tup_str, e_isn_tup, e_isnn_tup, e_isi_scr_int, e_isi_scr_bool, e_isi_scr_tuple, e_isi_scr_list, e_isi_scr_str, e_isn_scr, e_isnn_scr, e_isb, e_neb, e_eqb, e_eqs, e_nes, e_adds, e_muls, e_lens, e_ixz, e_slz, e_itz, e_inz, e_ninz, e_all, e_intz, e_meth, e_meth1, e_raise, e_thnx, List.getElem?_cons_zero, List.getElem?_cons_succ, List.set_cons_zero, List.set_cons_succ, List.length_cons, List.length_nil, Option.map_some, Option.bind_some, List.map_cons, List.map_nil, List.cons_append, List.nil_append, ↓reduceIte, eq_self, Bool.false_eq_true, Bool.true_eq_false, Bool.not_true, Bool.not_false, decide_true, decide_false, endF, Int.reduceEq, Int.reduceLT, Int.reduceLE, Int.reduceNeg, Nat.reduceAdd, Nat.reduceLT, Nat.reduceLeDiff, Int.reduceToNat, Int.reduceSub, Int.reduceAdd, Int.reduceMul, hl, e1, nameB]
  | cons c r =>
    have e1 : ((z.length : Int) < 1) = False := eq_false (by rw [e, q, List.length_cons]; omega)
    by_cases h8 : z.length ≤ 8
    · have e2 : ((8 : Int) < (z.length : Int)) = False := eq_false (by omega)
      have h7 : (r.length ≤ 7) = True := eq_true (by rw [q, List.length_cons] at e; omega)
      by_cases hc : c ∈ SM.cps.toList
      · have hc' := eq_true hc
        have la := lc_pick (e0 := some (.sh (.str z))) (l := c :: r) (t := op2G notInD (varB 2) (cstG (.str SF))) (p := fun c => !okSign c) (fun d => by
          unfold ch
          simp only [e_thn, e_thnr, e_thnb, e_thnc, e_seq, e_nx, e_bk, e_ct, e_frz, e_frz0, e_frz1, e_bndS, e_bnd, e_asg, e_asgw, e_asg0, e_asgi, e_asgt, e_asgp, e_sa0, e_sa1, e_bdn, e_bdp, e_ret, e_retv, e_retd0, e_retd1, e_retn, e_if, e_if1, e_if0, e_ifi, e_drop, e_app, e_app1, e_set, e_set1, e_set2, e_for, e_for1, e_varG, e_varB, e_rdV, e_rdB, e_rdB1, e_cst, e_op2, e_op1, e_sel, e_sel1, e_sel0, e_seli, e_bG, e_and, e_or, e_not, e_chain, e_on, e_on1, e_argN, e_argC, e_cons, e_itG, e_it1, e_it2, e_it3, e_lc, e_lc1, e_wipe0, e_wipe1, e_sl01, e_sl10, e_sl00, e_sl11, e_isInt, e_sll, e_add, e_addl, e_sub, e_mul, e_fdiv, e_mod, e_pow, e_neg, e_lt, e_le, e_gt, e_ge, e_eq, e_ne, e_int, e_abs, e_max, e_min, e_gcd, e_len1, e_len2, e_len3, e_list1, e_tupD, e_lstD, e_ixl, e_ixt, e_ixs, e_atn, e_at0, e_at1, e_at2, e_at3, e_at4, e_at5, e_at6, e_at7, e_at8, e_at9, e_at10, e_at11, e_at12, e_at13, e_at14, e_at15, e_trui, e_trub, e_notb, e_noti, e_isi_int_int, e_isi_int_bool, e_isi_int_tuple, e_isi_int_list, e_isi_int_str, e_isn_int, e_isnn_int, e_isi_str_int, e_isi_str_bool, e_isi_str_tuple, e_isi_str_list, e_isi_str_str, e_isn_str, e_isnn_str, e_isi_bl_int, e_isi_bl_bool, e_isi_bl_tuple, e_isi_bl_list, e_isi_bl_str, e_isn_bl, e_isnn_bl, e_isi_non_int, e_isi_non_bool, e_isi_non_tuple, e_isi_non_list, e_isi_non_str, e_isn_non, e_isnn_non, e_isi_lst_int, e_isi_lst_bool, e_isi_lst_tuple, e_isi_lst_list, e_isi_lst_str, e_isn_lst, e_isnn_lst, e_isi_tup_int, e_isi_tup_bool, e_isi_tup_tuple, e_isi_tup_list, e_isi_tup_str, e_isn_tup, e_isnn_tup, e_isi_scr_int, e_isi_scr_bool, e_isi_scr_tuple, e_isi_scr_list, e_isi_scr_str, e_isn_scr, e_isnn_scr, e_isb, e_neb, e_eqb, e_eqs, e_nes, e_adds, e_muls, e_lens, e_ixz, e_slz, e_itz, e_inz, e_ninz, e_all, e_intz, e_meth, e_meth1, e_raise, e_thnx, List.getElem?_cons_zero, List.getElem?_cons_succ, List.set_cons_zero, List.set_cons_succ, List.length_cons, List.length_nil, Option.map_some, Option.bind_some, List.map_cons, List.map_nil, List.cons_append, List.nil_append, ↓reduceIte, eq_self, Bool.false_eq_true, Bool.true_eq_false, Bool.not_true, Bool.not_false, decide_true, decide_false, endF, Int.reduceEq, Int.reduceLT, Int.reduceLE, Int.reduceNeg, Nat.reduceAdd, Nat.reduceLT, Nat.reduceLeDiff, Int.reduceToNat, Int.reduceSub, Int.reduceAdd, Int.reduceMul, sf_iff])
        have ls : ((((c :: r).filter fun c => !okSign c).map ch).length ≤ 16777216) = True := eq_true (by
          rw [List.length_map]
          have := List.length_filter_le (fun c => !okSign c) (c :: r)
          rw [← q, ← e] at this
          rw [← q]
          omega)
        simp only [e_seq, e_if, e_thn, e_bndS, e_or, e_bnd, e_cst, e_on, e_on1, e_argC, e_argN, e_cons, e_varB, e_rdB, List.getElem?_cons_zero, e_lens, hl, if_true, e_lt, e_gt, e1, e2, decide_false, e_sel1, e_sel0, e_op2, e_ixz, e_at0, q, Option.map_some, e_ninz, hc', decide_true, Bool.not_true, e_if0, e_nx, e_ret, e_lc, e_itG, e_itz, e_lc1, signs_eq, e_wipe1, e_wipe0, List.set_cons_succ, List.set_cons_zero]
        rw [la]
        simp only [Option.bind_some, ls, if_true, e_bnd, e_cons, e_on1, e_len1, e_eq, e_bndS, e_thnr, endF, nameB]
        have fin : ∀ l : List Nat, decide ((((l.filter fun c => !okSign c).map ch).length : Int) = 0) = l.all okSign := fun l => by
          rw [List.length_map]
          induction l with
          | nil => rfl
          | cons d l ih =>
            rw [List.filter_cons, List.all_cons]
            cases okSign d with
            | true => exact ih
            | false =>
              show decide (((_ + 1 : Nat) : Int) = 0) = false
              exact decide_eq_false (by omega)
        rw [fin]
        simp [h7, hc]
      · have hc' := eq_false hc
        simp only [e_thn, e_thnr, e_thnb, e_thnc, e_seq, e_nx, e_bk, e_ct, e_frz, e_frz0, e_frz1, e_bndS, e_bnd, e_asg, e_asgw, e_asg0, e_asgi, e_asgt, e_asgp, e_sa0, e_sa1, e_bdn, e_bdp, e_ret, e_retv, e_retd0, e_retd1, e_retn, e_if, e_if1, e_if0, e_ifi, e_drop, e_app, e_app1, e_set, e_set1, e_set2, e_for, e_for1, e_varG, e_varB, e_rdV, e_rdB, e_rdB1, e_cst, e_op2, e_op1, e_sel, e_sel1, e_sel0, e_seli, e_bG, e_and, e_or, e_not, e_chain, e_on, e_on1, e_argN, e_argC, e_cons, e_itG, e_it1, e_it2, e_it3, e_lc, e_lc1, e_wipe0, e_wipe1, e_sl01, e_sl10, e_sl00, e_sl11, e_isInt, e_sll, e_add, e_addl, e_sub, e_mul, e_fdiv, e_mod, e_pow, e_neg, e_lt, e_le, e_gt, e_ge, e_eq, e_ne, e_int, e_abs, e_max, e_min, e_gcd, e_len1, e_len2, e_len3, e_list1, e_tupD, e_lstD, e_ixl, e_ixt, e_ixs, e_atn, e_at0, e_at1, e_at2, e_at3, e_at4, e_at5, e_at6, e_at7, e_at8, e_at9, e_at10, e_at11, e_at12, e_at13, e_at14, e_at15, e_trui, e_trub, e_notb, e_noti, e_isi_int_int, e_isi_int_bool, e_isi_int_tuple, e_isi_int_list, e_isi_int_str, e_isn_int, e_isnn_int, e_isi_str_int, e_isi_str_bool, e_isi_str_tuple, e_isi_str_list, e_isi_str_str, e_isn_str, e_isnn_str, e_isi_bl_int, e_isi_bl_bool, e_isi_bl_tuple, e_isi_bl_list, e_isi_bl_str, e_isn_bl, e_isnn_bl, e_isi_non_int, e_isi_non_bool, e_isi_non_tuple, e_isi_non_list, e_isi_non_str, e_isn_non, e_isnn_non, e_isi_lst_int, e_isi_lst_bool, e_isi_lst_tuple, e_isi_lst_list, e_isi_lst_str, e_isn_lst, e_isnn_lst, e_isi_tup_int, e_isi_tup_bool, e_isi_tup_tuple, e_isi_tup_list, e_isi_tup_str, e_isn_tup, e_isnn_tup, e_isi_scr_int, e_isi_scr_bool, e_isi_scr_tuple, e_isi_scr_list, e_isi_scr_str, e_isn_scr, e_isnn_scr, e_isb, e_neb, e_eqb, e_eqs, e_nes, e_adds, e_muls, e_lens, e_ixz, e_slz, e_itz, e_inz, e_ninz, e_all, e_intz, e_meth, e_meth1, e_raise, e_thnx, List.getElem?_cons_zero, List.getElem?_cons_succ, List.set_cons_zero, List.set_cons_succ, List.length_cons, List.length_nil, Option.map_some, Option.bind_some, List.map_cons, List.map_nil, List.cons_append, List.nil_append, ↓reduceIte, eq_self, Bool.false_eq_true, Bool.true_eq_false, Bool.not_true, Bool.not_false, decide_true, decide_false, endF, Int.reduceEq, Int.reduceLT, Int.reduceLE, Int.reduceNeg, Nat.reduceAdd, Nat.reduceLT, Nat.reduceLeDiff, Int.reduceToNat, Int.reduceSub, Int.reduceAdd, Int.reduceMul, hl, e1, e2, q, hc', nameB, Bool.and_false, Bool.false_and]
    · have e2 : ((8 : Int) < (z.length : Int)) = True := eq_true (by omega)
      have h8' : (r.length ≤ 7) = False := eq_false (by rw [q, List.length_cons] at e; omega)
      simp only [e_thn, e_thnr, e_thnb, e_thnc, e_seq, e_nx, e_bk, e_ct, e_frz, e_frz0, e_frz1, e_bndS, e_bnd, e_asg, e_asgw, e_asg0, e_asgi, e_asgt, e_asgp, e_sa0, e_sa1, e_bdn, e_bdp, e_ret, e_retv, e_retd0, e_retd1, e_retn, e_if, e_if1, e_if0, e_ifi, e_drop, e_app, e_app1, e_set, e_set1, e_set2, e_for, e_for1, e_varG, e_varB, e_rdV, e_rdB, e_rdB1, e_cst, e_op2, e_op1, e_sel, e_sel1, e_sel0, e_seli, e_bG, e_and, e_or, e_not, e_chain, e_on, e_on1, e_argN, e_argC, e_cons, e_itG, e_it1, e_it2, e_it3, e_lc, e_lc1, e_wipe0, e_wipe1, e_sl01, e_sl10, e_sl00, e_sl11, e_isInt, e_sll, e_add, e_addl, e_sub, e_mul, e_fdiv, e_mod, e_pow, e_neg, e_lt, e_le, e_gt, e_ge, e_eq, e_ne, e_int, e_abs, e_max, e_min, e_gcd, e_len1, e_len2, e_len3, e_list1, e_tupD, e_lstD, e_ixl, e_ixt, e_ixs, e_atn, e_at0, e_at1, e_at2, e_at3, e_at4, e_at5, e_at6, e_at7, e_at8, e_at9, e_at10, e_at11, e_at12, e_at13, e_at14, e_at15, e_trui, e_trub, e_notb, e_noti, e_isi_int_int, e_isi_int_bool, e_isi_int_tuple, e_isi_int_list, e_isi_int_str, e_isn_int, e_isnn_int, e_isi_str_int, e_isi_str_bool, e_isi_str_tuple, e_isi_str_list, e_isi_str_str, e_isn_str, e_isnn_str, e_isi_bl_int, e_isi_bl_bool, e_isi_bl_tuple, e_isi_bl_list, e_isi_bl_str, e_isn_bl, e_isnn_bl, e_isi_non_int, e_isi_non_bool, e_isi_non_tuple, e_isi_non_list, e_isi_non_str, e_isn_non, e_isnn_non, e_isi_lst_int, e_isi_lst_bool, e_isi_lst_tuple, e_isi_lst_list, e_isi_lst_str, e_isn_lst, e_isnn_lst, e_isi_tup_int, e_isi_tup_bool, e_isi_tup_tuple, e_isi_tup_list, e_isi_tup_str, e_isn_tup, e_isnn_tup, e_isi_scr_int, e_isi_scr_bool, e_isi_scr_tuple, e_isi_scr_list, e_isi_scr_str, e_isn_scr, e_isnn_scr, e_isb, e_neb, e_eqb, e_eqs, e_nes, e_adds, e_muls, e_lens, e_ixz, e_slz, e_itz, e_inz, e_ninz, e_all, e_intz, e_meth, e_meth1, e_raise, e_thnx, List.getElem?_cons_zero, List.getElem?_cons_succ, List.set_cons_zero, List.set_cons_succ, List.length_cons, List.length_nil, Option.map_some, Option.bind_some, List.map_cons, List.map_nil, List.cons_append, List.nil_append, ↓reduceIte, eq_self, Bool.false_eq_true, Bool.true_eq_false, Bool.not_true, Bool.not_false, decide_true, decide_false, endF, Int.reduceEq, Int.reduceLT, Int.reduceLE, Int.reduceNeg, Nat.reduceAdd, Nat.reduceLT, Nat.reduceLeDiff, Int.reduceToNat, Int.reduceSub, Int.reduceAdd, Int.reduceMul, hl, e1, e2, nameB, h8', Bool.false_and]
end K00

namespace K00
open PySem PySem.Spec PyProof.Rows L2 Evl Dl
def figs (l : List Nat) : List Nat := if l.take 1 = [45] then l.drop 1 else l
def figB (c : Nat) : Bool := decide (c ∈ FG.cps.toList)
def wholeB (l : List Nat) : Bool := match figs l with
  | [] => false
  | c :: r => decide (r.length ≤ 199) && (c :: r).all figB && (!decide (c = 48) || decide (l = [48]))
theorem cut_head (z : Str) : cutS z none (some 1) = ⟨(z.cps.toList.take 1).toArray⟩ := by
  unfold cutS
  rw [HT.sIx_none, show HT.sIx z.length z.length (some 1) = min 1 z.length from HT.sIx_nat z.length z.length 1, List.drop_zero, Nat.sub_zero]
  congr 1
  congr 1
  rw [len_z]
  cases z.cps.toList with
  | nil => rfl
  | cons c r => rw [Nat.min_eq_left (by rw [List.length_cons]; omega)]
theorem cut_tail (z : Str) : cutS z (some 1) none = ⟨(z.cps.toList.drop 1).toArray⟩ := by
  unfold cutS
  rw [HT.sIx_none, show HT.sIx z.length 0 (some 1) = min 1 z.length from HT.sIx_nat z.length 0 1]
  congr 1
  congr 1
  rw [len_z]
  cases z.cps.toList with
  | nil => rfl
  | cons c r =>
    rw [Nat.min_eq_left (by rw [List.length_cons]; omega)]
    exact List.take_of_length_le (by rw [List.length_drop]; omega)
theorem str_ext {a b : Str} : a = b ↔ a.cps.toList = b.cps.toList := ⟨fun h => by rw [h], fun h => by
  cases a; cases b
  exact congrArg Str.mk (Array.ext' h)⟩
theorem is_minus (z : Str) : decide (cutS z none (some 1) = ("-" : Str)) = decide (z.cps.toList.take 1 = [45]) := by
  have : ("-" : Str).cps.toList = [45] := by decide +kernel
  rw [cut_head]
  exact decide_eq_decide.mpr (by rw [str_ext, this])
theorem is_zero (z : Str) : decide (z = ("0" : Str)) = decide (z.cps.toList = [48]) := by
  have : ("0" : Str).cps.toList = [48] := by decide +kernel
  exact decide_eq_decide.mpr (by rw [str_ext, this])
theorem ch_zero (c : Nat) : decide ((⟨#[c]⟩ : Str) = ("0" : Str)) = decide (c = 48) := by
  have : ("0" : Str).cps.toList = [48] := by decide +kernel
  exact decide_eq_decide.mpr (by rw [str_ext, this]; simp)
end K00

namespace K00
open PySem PySem.Spec PyProof.Rows L2 Evl Dl
def figS (z : Str) : Str := ⟨(figs z.cps.toList).toArray⟩
theorem figS_l (z : Str) : (figS z).cps.toList = figs z.cps.toList := rfl
theorem figs_len (l : List Nat) : (figs l).length ≤ l.length := by
  unfold figs
  split
  · rw [List.length_drop]; omega
  · exact Nat.le_refl _
theorem figS_eq1 {z : Str} (h : z.cps.toList.take 1 = [45]) : cutS z (some 1) none = figS z := by
  rw [cut_tail]
  unfold figS figs
  rw [if_pos h]
theorem figS_eq0 {z : Str} (h : ¬ z.cps.toList.take 1 = [45]) : z = figS z := by
  rw [str_ext, figS_l]
  unfold figs
  rw [if_neg h]
theorem lc_all4 {e0 e1 : Option Sl} {l : List Nat} {t : Ev → Option Res} {p : Nat → Bool} (h : ∀ c, t [e0, e1, none, some (.sh (ch c))] = some (.ok false (.bl (p c)))) :
    lcL [e0, e1, none, none] (.nm 3) (bG true) t (l.map ch) = some ((l.map p).map Dt.bl) := by
  have := lc_map (envw := [e0, e1, none, none]) (t := .nm 3) (fe := t) (F := fun d => match d with | .str z => .bl (p (z.cps.toList.headD 0)) | d => d) (ds := l.map ch) (fun d hd => by
    obtain ⟨c, _, rfl⟩ := List.mem_map.mp hd
    exact ⟨_, e_bdn, false, h c⟩)
  rw [this, List.map_map, List.map_map]
  rfl
theorem lc_pick4 {e0 e1 : Option Sl} {l : List Nat} {t : Ev → Option Res} {p : Nat → Bool} (h : ∀ c, t [e0, e1, none, some (.sh (ch c))] = some (.ok false (.bl (p c)))) :
    lcL [e0, e1, none, none] (.nm 3) t (varG 3) (l.map ch) = some ((l.filter p).map ch) := by
  have := lc_filt (envw := [e0, e1, none, none]) (t := .nm 3) (ft := t) (fe := varG 3) (p := fun d => match d with | .str z => p (z.cps.toList.headD 0) | _ => false) (F := id) (ds := l.map ch) (fun d hd => by
    obtain ⟨c, _, rfl⟩ := List.mem_map.mp hd
    exact ⟨_, e_bdn, ⟨false, h c⟩, fun _ => ⟨false, rfl⟩⟩)
  rw [this, List.map_id, List.filter_map]
  rfl
theorem whole_cases (l : List Nat) : wholeB l = match figs l with | [] => false | c :: r => decide (r.length ≤ 199) && (c :: r).all figB && (!decide (c = 48) || decide (l = [48])) := rfl
theorem all_bls2 (l : List Nat) (p : Nat → Bool) : allD [.lst ((l.map p).map Dt.bl)] = some (.ok false (.bl (l.all p))) := by
  rw [all_bls, List.all_map]
  rfl
def isWholeRest : Ev → Option SRes :=
  (seqG (ifG (notG (chainG leD leD (cstG (.int 1)) (onG lenD (argC (varB 1) argN)) (cstG (.int 200)))) (seqG (retG (cstG (.bl false)))
  nxG) nxG)
  (seqG (ifG (notG (op1G truD (onG allD (argC (lcG [2, 3] (itG (varB 1)) (.nm 3) (bG true) (op2G inD (varB 3) (cstG (.str "0123456789")))) argN)))) (seqG (retG (cstG (.bl false)))
  nxG) nxG)
  (seqG (retG (orG (op2G neD (op2G ixD (varB 1) (cstG (.int 0))) (cstG (.str "0"))) (op2G eqD (varB 0) (cstG (.str "0")))))
  nxG)))
theorem is_whole_rest (z : Str) (hz : z.length ≤ 1000) : endF (isWholeRest [some (.sh (.str z)), some (.sh (.str (figS z))), none, none]) = some (.ok false (.bl (wholeB z.cps.toList))) := by
  have hn : (figS z).length ≤ 1000 := by
    have := figs_len z.cps.toList
    rw [len_z] at hz ⊢
    rw [figS_l]
    omega
  have hl : ((figS z).length ≤ 16777216) = True := eq_true (by omega)
  unfold isWholeRest
  rw [whole_cases]
  have e := len_z (z := figS z)
  rw [figS_l] at e
  cases q : figs z.cps.toList with
  | nil =>
    rw [q] at e
    have e1 : ((1 : Int) ≤ ((figS z).length : Int)) = False := eq_false (by rw [e]; decide)
    simp only [e_thn, e_thnr, e_thnb, e_thnc, e_seq, e_nx, e_bk, e_ct, e_frz, e_frz0, e_frz1, e_bndS, e_bnd, e_asg, e_asgw, e_asg0, e_asgi, e_asgt, e_asgp, e_sa0, e_sa1, e_bdn, e_bdp, e_ret, e_retv, e_retd0, e_retd1, e_retn, e_if, e_if1, e_if0, e_ifi, e_drop, e_app, e_app1, e_set, e_set1, e_set2, e_for, e_for1, e_varG, e_varB, e_rdV, e_rdB, e_rdB1, e_cst, e_op2, e_op1, e_sel, e_sel1, e_sel0, e_seli, e_bG, e_and, e_or, e_not, e_chain, e_on, e_on1, e_argN, e_argC, e_cons, e_itG, e_it1, e_it2, e_it3, e_lc, e_lc1, e_wipe0, e_wipe1, e_sl01, e_sl10, e_sl00, e_sl11, e_isInt, e_sll, e_add, e_addl, e_sub, e_mul, e_fdiv, e_mod, e_pow, e_neg, e_lt, e_le, e_gt, e_ge, e_eq, e_ne, e_int, e_abs, e_max, e_min, e_gcd, e_len1, e_len2, e_len3, e_list1, e_tupD, e_lstD, e_ixl, e_ixt, e_ixs, e_atn, e_at0, e_at1, e_at2, e_at3, e_at4, e_at5, e_at6, e_at7, e_at8, e_at9, e_at10, e_at11, e_at12, e_at13, e_at14, e_at15, e_trui, e_trub, e_notb, e_noti, e_isi_int_int, e_isi_int_bool, e_isi_int_tuple, e_isi_int_list, e_isi_int_str, e_isn_int, e_isnn_int, e_isi_str_int, e_isi_str_bool, e_isi_str_tuple, e_isi_str_list, e_isi_str_str, e_isn_str, e_isnn_str, e_isi_bl_int, e_isi_bl_bool, e_isi_bl_tuple, e_isi_bl_list, e_isi_bl_str, e_isn_bl, e_isnn_bl, e_isi_non_int, e_isi_non_bool, e_isi_non_tuple, e_isi_non_list, e_isi_non_str, e_isn_non, e_isnn_non, e_isi_lst_int, e_isi_lst_bool, e_isi_lst_tuple, e_isi_lst_list, e_isi_lst_str, e_isn_lst, e_isnn_lst, e_isi_tup_int, e_isi_tup_bool, e_isi_tup_tuple, e_isi_tup_list, e_isi_tup_str, e_isn_tup, e_isnn_tup, e_isi_scr_int, e_isi_scr_bool, e_isi_scr_tuple, e_isi_scr_list, e_isi_scr_str, e_isn_scr, e_isnn_scr, e_isb, e_neb, e_eqb, e_eqs, e_nes, e_adds, e_muls, e_lens, e_ixz, e_slz, e_itz, e_inz, e_ninz, e_all, e_intz, e_meth, e_meth1, e_raise, e_thnx, List.getElem?_cons_zero, List.getElem?_cons_succ, List.set_cons_zero, List.set_cons_succ, List.length_cons, List.length_nil, Option.map_some, Option.bind_some, List.map_cons, List.map_nil, List.cons_append, List.nil_append, ↓reduceIte, eq_self, Bool.false_eq_true, Bool.true_eq_false, Bool.not_true, Bool.not_false, decide_true, decide_false, endF, Int.reduceEq, Int.reduceLT, Int.reduceLE, Int.reduceNeg, Nat.reduceAdd, Nat.reduceLT, Nat.reduceLeDiff, Int.reduceToNat, Int.reduceSub, Int.reduceAdd, Int.reduceMul, hl, e1]
  | cons c r =>
    rw [q, List.length_cons] at e
    have e1 : ((1 : Int) ≤ ((figS z).length : Int)) = True := eq_true (by omega)
    by_cases h8 : r.length ≤ 199
    · have e2 : (((figS z).length : Int) ≤ 200) = True := eq_true (by omega)
      have la := lc_all4 (e0 := some (.sh (.str z))) (e1 := some (.sh (.str (figS z)))) (l := c :: r) (t := op2G inD (varB 3) (cstG (.str FG))) (p := figB) (fun d => by
        unfold ch figB
        simp only [e_thn, e_thnr, e_thnb, e_thnc, e_seq, e_nx, e_bk, e_ct, e_frz, e_frz0, e_frz1, e_bndS, e_bnd, e_asg, e_asgw, e_asg0, e_asgi, e_asgt, e_asgp, e_sa0, e_sa1, e_bdn, e_bdp, e_ret, e_retv, e_retd0, e_retd1, e_retn, e_if, e_if1, e_if0, e_ifi, e_drop, e_app, e_app1, e_set, e_set1, e_set2, e_for, e_for1, e_varG, e_varB, e_rdV, e_rdB, e_rdB1, e_cst, e_op2, e_op1, e_sel, e_sel1, e_sel0, e_seli, e_bG, e_and, e_or, e_not, e_chain, e_on, e_on1, e_argN, e_argC, e_cons, e_itG, e_it1, e_it2, e_it3, e_lc, e_lc1, e_wipe0, e_wipe1, e_sl01, e_sl10, e_sl00, e_sl11, e_isInt, e_sll, e_add, e_addl, e_sub, e_mul, e_fdiv, e_mod, e_pow, e_neg, e_lt, e_le, e_gt, e_ge, e_eq, e_ne, e_int, e_abs, e_max, e_min, e_gcd, e_len1, e_len2, e_len3, e_list1, e_tupD, e_lstD, e_ixl, e_ixt, e_ixs, e_atn, e_at0, e_at1, e_at2, e_at3, e_at4, e_at5, e_at6, e_at7, e_at8, e_at9, e_at10, e_at11, e_at12, e_at13, e_at14, e_at15, e_trui, e_trub, e_notb, e_noti, e_isi_int_int, e_isi_int_bool, e_isi_int_tuple, e_isi_int_list, e_isi_int_str, e_isn_int, e_isnn_int, e_isi_str_int, e_isi_str_bool, e_isi_str_tuple, e_isi_str_list, e_isi_str_str, e_isn_str, e_isnn_str, e_isi_bl_int, e_isi_bl_bool, e_isi_bl_tuple, e_isi_bl_list, e_isi_bl_str, e_isn_bl, e_isnn_bl, e_isi_non_int, e_isi_non_bool, e_isi_non_tuple, e_isi_non_list, e_isi_non_str, e_isn_non, e_isnn_non, e_isi_lst_int, e_isi_lst_bool, e_isi_lst_tuple, e_isi_lst_list, e_isi_lst_str, e_isn_lst, e_isnn_lst, e_isi_tup_int, e_isi_tup_bool, e_isi_tup_tuple, e_isi_tup_list, e_isi_tup_str, e_isn_tup, e_isnn_tup, e_isi_scr_int, e_isi_scr_bool, e_isi_scr_tuple, e_isi_scr_list, e_isi_scr_str, e_isn_scr, e_isnn_scr, e_isb, e_neb, e_eqb, e_eqs, e_nes, e_adds, e_muls, e_lens, e_ixz, e_slz, e_itz, e_inz, e_ninz, e_all, e_intz, e_meth, e_meth1, e_raise, e_thnx, List.getElem?_cons_zero, List.getElem?_cons_succ, List.set_cons_zero, List.set_cons_succ, List.length_cons, List.length_nil, Option.map_some, Option.bind_some, List.map_cons, List.map_nil, List.cons_append, List.nil_append, ↓reduceIte, eq_self, Bool.false_eq_true, Bool.true_eq_false, Bool.not_true, Bool.not_false, decide_true, decide_false, endF, Int.reduceEq, Int.reduceLT, Int.reduceLE, Int.reduceNeg, Nat.reduceAdd, Nat.reduceLT, Nat.reduceLeDiff, Int.reduceToNat, Int.reduceSub, Int.reduceAdd, Int.reduceMul])
      have ls : ((((c :: r).map figB).map Dt.bl).length ≤ 16777216) = True := eq_true (by rw [List.length_map, List.length_map, List.length_cons]; omega)
      have h8' := eq_true h8
      simp only [e_seq, e_if, e_thn, e_bndS, e_not, e_chain, e_bnd, e_cst, e_on, e_on1, e_argC, e_argN, e_cons, e_varB, e_rdB, List.getElem?_cons_zero, List.getElem?_cons_succ, e_lens, hl, if_true, e_le, e1, e2, decide_true, e_sel1, e_sel0, e_if0, e_if1, e_nx, e_lc, e_itG, e_itz, e_lc1, signs_eq, e_wipe1, e_wipe0, List.set_cons_succ, List.set_cons_zero, figS_l, q, e_op1]
      rw [la]
      simp only [Option.bind_some, ls, if_true, e_bnd, e_cons, e_on1, all_bls2, e_trub, h8', decide_true, Bool.true_and]
      cases qa : (c :: r).all figB with
      | false => simp only [e_thn, e_thnr, e_thnb, e_thnc, e_seq, e_nx, e_bk, e_ct, e_frz, e_frz0, e_frz1, e_bndS, e_bnd, e_asg, e_asgw, e_asg0, e_asgi, e_asgt, e_asgp, e_sa0, e_sa1, e_bdn, e_bdp, e_ret, e_retv, e_retd0, e_retd1, e_retn, e_if, e_if1, e_if0, e_ifi, e_drop, e_app, e_app1, e_set, e_set1, e_set2, e_for, e_for1, e_varG, e_varB, e_rdV, e_rdB, e_rdB1, e_cst, e_op2, e_op1, e_sel, e_sel1, e_sel0, e_seli, e_bG, e_and, e_or, e_not, e_chain, e_on, e_on1, e_argN, e_argC, e_cons, e_itG, e_it1, e_it2, e_it3, e_lc, e_lc1, e_wipe0, e_wipe1, e_sl01, e_sl10, e_sl00, e_sl11, e_isInt, e_sll, e_add, e_addl, e_sub, e_mul, e_fdiv, e_mod, e_pow, e_neg, e_lt, e_le, e_gt, e_ge, e_eq, e_ne, e_int, e_abs, e_max, e_min, e_gcd, e_len1, e_len2, e_len3, e_list1, e_tupD, e_lstD, e_ixl, e_ixt, e_ixs, e_atn, e_at0, e_at1, e_at2, e_at3, e_at4, e_at5, e_at6, e_at7, e_at8, e_at9, e_at10, e_at11, e_at12, e_at13, e_at14, e_at15, e_trui, e_trub, e_notb, e_noti, e_isi_int_int, e_isi_int_bool, e_isi_int_tuple, e_isi_int_list, e_isi_int_str, e_isn_int, e_isnn_int, e_isi_str_int, e_isi_str_bool, e_isi_str_tuple, e_isi_str_list, e_isi_str_str, e_isn_str, e_isnn_str, e_isi_bl_int, e_isi_bl_bool, e_isi_bl_tuple, e_isi_bl_list, e_isi_bl_str, e_isn_bl, e_isnn_bl, e_isi_non_int, e_isi_non_bool, e_isi_non_tuple, e_isi_non_list, e_isi_non_str, e_isn_non, e_isnn_non, e_isi_lst_int, e_isi_lst_bool, e_isi_lst_tuple, e_isi_lst_list, e_isi_lst_str, e_isn_lst, e_isnn_lst, e_isi_tup_int, e_isi_tup_bool, e_isi_tup_tuple, e_isi_tup_list, e_isi_tup_str, e_isn_tup, e_isnn_tup, e_isi_scr_int, e_isi_scr_bool, e_isi_scr_tuple, e_isi_scr_list, e_isi_scr_str, e_isn_scr, e_isnn_scr, e_isb, e_neb, e_eqb, e_eqs, e_nes, e_adds, e_muls, e_lens, e_ixz, e_slz, e_itz, e_inz, e_ninz, e_all, e_intz, e_meth, e_meth1, e_raise, e_thnx, List.getElem?_cons_zero, List.getElem?_cons_succ, List.set_cons_zero, List.set_cons_succ, List.length_cons, List.length_nil, Option.map_some, Option.bind_some, List.map_cons, List.map_nil, List.cons_append, List.nil_append, ↓reduceIte, eq_self, Bool.false_eq_true, Bool.true_eq_false, Bool.not_true, Bool.not_false, decide_true, decide_false, endF, Int.reduceEq, Int.reduceLT, Int.reduceLE, Int.reduceNeg, Nat.reduceAdd, Nat.reduceLT, Nat.reduceLeDiff, Int.reduceToNat, Int.reduceSub, Int.reduceAdd, Int.reduceMul, Bool.false_and]
      | true =>
        by_cases hc : c = 48
        · have hc2 : decide ((⟨#[c]⟩ : Str) = ("0" : Str)) = true := by rw [ch_zero]; exact decide_eq_true hc
          have hc' := eq_true hc
          simp only [e_thn, e_thnr, e_thnb, e_thnc, e_seq, e_nx, e_bk, e_ct, e_frz, e_frz0, e_frz1, e_bndS, e_bnd, e_asg, e_asgw, e_asg0, e_asgi, e_asgt, e_asgp, e_sa0, e_sa1, e_bdn, e_bdp, e_ret, e_retv, e_retd0, e_retd1, e_retn, e_if, e_if1, e_if0, e_ifi, e_drop, e_app, e_app1, e_set, e_set1, e_set2, e_for, e_for1, e_varG, e_varB, e_rdV, e_rdB, e_rdB1, e_cst, e_op2, e_op1, e_sel, e_sel1, e_sel0, e_seli, e_bG, e_and, e_or, e_not, e_chain, e_on, e_on1, e_argN, e_argC, e_cons, e_itG, e_it1, e_it2, e_it3, e_lc, e_lc1, e_wipe0, e_wipe1, e_sl01, e_sl10, e_sl00, e_sl11, e_isInt, e_sll, e_add, e_addl, e_sub, e_mul, e_fdiv, e_mod, e_pow, e_neg, e_lt, e_le, e_gt, e_ge, e_eq, e_ne, e_int, e_abs, e_max, e_min, e_gcd, e_len1, e_len2, e_len3, e_list1, e_tupD, e_lstD, e_ixl, e_ixt, e_ixs, e_atn, e_at0, e_at1, e_at2, e_at3, e_at4, e_at5, e_at6, e_at7, e_at8, e_at9, e_at10, e_at11, e_at12, e_at13, e_at14, e_at15, e_trui, e_trub, e_notb, e_noti, e_isi_int_int, e_isi_int_bool, e_isi_int_tuple, e_isi_int_list, e_isi_int_str, e_isn_int, e_isnn_int, e_isi_str_int, e_isi_str_bool, e_isi_str_tuple, e_isi_str_list, e_isi_str_str, e_isn_str, e_isnn_str, e_isi_bl_int, e_isi_bl_bool, e_isi_bl_tuple, e_isi_bl_list, e_isi_bl_str, e_isn_bl, e_isnn_bl, e_isi_non_int, e_isi_non_bool, e_isi_non_tuple, e_isi_non_list, e_isi_non_str, e_isn_non, e_isnn_non, e_isi_lst_int, e_isi_lst_bool, e_isi_lst_tuple, e_isi_lst_list, e_isi_lst_str, e_isn_lst, e_isnn_lst, e_isi_tup_int, e_isi_tup_bool, e_isi_tup_tuple, e_isi_tup_list, e_isi_tup_str, e_isn_tup, e_isnn_tup, e_isi_scr_int, e_isi_scr_bool, e_isi_scr_tuple, e_isi_scr_list, e_isi_scr_str, e_isn_scr, e_isnn_scr, e_isb, e_neb, e_eqb, e_eqs, e_nes, e_adds, e_muls, e_lens, e_ixz, e_slz, e_itz, e_inz, e_ninz, e_all, e_intz, e_meth, e_meth1, e_raise, e_thnx, List.getElem?_cons_zero, List.getElem?_cons_succ, List.set_cons_zero, List.set_cons_succ, List.length_cons, List.length_nil, Option.map_some, Option.bind_some, List.map_cons, List.map_nil, List.cons_append, List.nil_append, ↓reduceIte, eq_self, Bool.false_eq_true, Bool.true_eq_false, Bool.not_true, Bool.not_false, decide_true, decide_false, endF, Int.reduceEq, Int.reduceLT, Int.reduceLE, Int.reduceNeg, Nat.reduceAdd, Nat.reduceLT, Nat.reduceLeDiff, Int.reduceToNat, Int.reduceSub, Int.reduceAdd, Int.reduceMul, hl, hc2, hc', is_zero, figS_l, q, Bool.true_and, Bool.false_or]
        · have hc2 : decide ((⟨#[c]⟩ : Str) = ("0" : Str)) = false := by rw [ch_zero]; exact decide_eq_false hc
          have hc' := eq_false hc
          simp only [e_thn, e_thnr, e_thnb, e_thnc, e_seq, e_nx, e_bk, e_ct, e_frz, e_frz0, e_frz1, e_bndS, e_bnd, e_asg, e_asgw, e_asg0, e_asgi, e_asgt, e_asgp, e_sa0, e_sa1, e_bdn, e_bdp, e_ret, e_retv, e_retd0, e_retd1, e_retn, e_if, e_if1, e_if0, e_ifi, e_drop, e_app, e_app1, e_set, e_set1, e_set2, e_for, e_for1, e_varG, e_varB, e_rdV, e_rdB, e_rdB1, e_cst, e_op2, e_op1, e_sel, e_sel1, e_sel0, e_seli, e_bG, e_and, e_or, e_not, e_chain, e_on, e_on1, e_argN, e_argC, e_cons, e_itG, e_it1, e_it2, e_it3, e_lc, e_lc1, e_wipe0, e_wipe1, e_sl01, e_sl10, e_sl00, e_sl11, e_isInt, e_sll, e_add, e_addl, e_sub, e_mul, e_fdiv, e_mod, e_pow, e_neg, e_lt, e_le, e_gt, e_ge, e_eq, e_ne, e_int, e_abs, e_max, e_min, e_gcd, e_len1, e_len2, e_len3, e_list1, e_tupD, e_lstD, e_ixl, e_ixt, e_ixs, e_atn, e_at0, e_at1, e_at2, e_at3, e_at4, e_at5, e_at6, e_at7, e_at8, e_at9, e_at10, e_at11, e_at12, e_at13, e_at14, e_at15, e_trui, e_trub, e_notb, e_noti, e_isi_int_int, e_isi_int_bool, e_isi_int_tuple, e_isi_int_list, e_isi_int_str, e_isn_int, e_isnn_int, e_isi_str_int, e_isi_str_bool, e_isi_str_tuple, e_isi_str_list, e_isi_str_str, e_isn_str, e_isnn_str, e_isi_bl_int, e_isi_bl_bool, e_isi_bl_tuple, e_isi_bl_list, e_isi_bl_str, e_isn_bl, e_isnn_bl, e_isi_non_int, e_isi_non_bool, e_isi_non_tuple, e_isi_non_list, e_isi_non_str, e_isn_non, e_isnn_non, e_isi_lst_int, e_isi_lst_bool, e_isi_lst_tuple, e_isi_lst_list, e_isi_lst_str, e_isn_lst, e_isnn_lst, e_isi_tup_int, e_isi_tup_bool, e_isi_tup_tuple, e_isi_tup_list, e_isi_tup_str, e_isn_tup, e_isnn_tup, e_isi_scr_int, e_isi_scr_bool, e_isi_scr_tuple, e_isi_scr_list, e_isi_scr_str, e_isn_scr, e_isnn_scr, e_isb, e_neb, e_eqb, e_eqs, e_nes, e_adds, e_muls, e_lens, e_ixz, e_slz, e_itz, e_inz, e_ninz, e_all, e_intz, e_meth, e_meth1, e_raise, e_thnx, List.getElem?_cons_zero, List.getElem?_cons_succ, List.set_cons_zero, List.set_cons_succ, List.length_cons, List.length_nil, Option.map_some, Option.bind_some, List.map_cons, List.map_nil, List.cons_append, List.nil_append, ↓reduceIte, eq_self, Bool.false_eq_true, Bool.true_eq_false, Bool.not_true, Bool.not_false, decide_true, decide_false, endF, Int.reduceEq, Int.reduceLT, Int.reduceLE, Int.reduceNeg, Nat.reduceAdd, Nat.reduceLT, Nat.reduceLeDiff, Int.reduceToNat, Int.reduceSub, Int.reduceAdd, Int.reduceMul, hl, hc2, hc', is_zero, figS_l, q, Bool.true_and, Bool.true_or]
    · have e2 : (((figS z).length : Int) ≤ 200) = False := eq_false (by omega)
      have h8' := eq_false h8
      simp only [e_thn, e_thnr, e_thnb, e_thnc, e_seq, e_nx, e_bk, e_ct, e_frz, e_frz0, e_frz1, e_bndS, e_bnd, e_asg, e_asgw, e_asg0, e_asgi, e_asgt, e_asgp, e_sa0, e_sa1, e_bdn, e_bdp, e_ret, e_retv, e_retd0, e_retd1, e_retn, e_if, e_if1, e_if0, e_ifi, e_drop, e_app, e_app1, e_set, e_set1, e_set2, e_for, e_for1, e_varG, e_varB, e_rdV, e_rdB, e_rdB1, e_cst, e_op2, e_op1, e_sel, e_sel1, e_sel0, e_seli, e_bG, e_and, e_or, e_not, e_chain, e_on, e_on1, e_argN, e_argC, e_cons, e_itG, e_it1, e_it2, e_it3, e_lc, e_lc1, e_wipe0, e_wipe1, e_sl01, e_sl10, e_sl00, e_sl11, e_isInt, e_sll, e_add, e_addl, e_sub, e_mul, e_fdiv, e_mod, e_pow, e_neg, e_lt, e_le, e_gt, e_ge, e_eq, e_ne, e_int, e_abs, e_max, e_min, e_gcd, e_len1, e_len2, e_len3, e_list1, e_tupD, e_lstD, e_ixl, e_ixt, e_ixs, e_atn, e_at0, e_at1, e_at2, e_at3, e_at4, e_at5, e_at6, e_at7, e_at8, e_at9, e_at10, e_at11, e_at12, e_at13, e_at14, e_at15, e_trui, e_trub, e_notb, e_noti, e_isi_int_int, e_isi_int_bool, e_isi_int_tuple, e_isi_int_list, e_isi_int_str, e_isn_int, e_isnn_int, e_isi_str_int, e_isi_str_bool, e_isi_str_tuple, e_isi_str_list, e_isi_str_str, e_isn_str, e_isnn_str, e_isi_bl_int, e_isi_bl_bool, e_isi_bl_tuple, e_isi_bl_list, e_isi_bl_str, e_isn_bl, e_isnn_bl, e_isi_non_int, e_isi_non_bool, e_isi_non_tuple, e_isi_non_list, e_isi_non_str, e_isn_non, e_isnn_non, e_isi_lst_int, e_isi_lst_bool, e_isi_lst_tuple, e_isi_lst_list, e_isi_lst_str, e_isn_lst, e_isnn_lst, e_isi_tup_int, e_isi_tup_bool, e_isi_tup_tuple, e_isi_tup_list, e_isi_tup_str, e_isn_tup, e_isnn_tup, e_isi_scr_int, e_isi_scr_bool, e_isi_scr_tuple, e_isi_scr_list, e_isi_scr_str, e_isn_scr, e_isnn_scr, e_isb, e_neb, e_eqb, e_eqs, e_nes, e_adds, e_muls, e_lens, e_ixz, e_slz, e_itz, e_inz, e_ninz, e_all, e_intz, e_meth, e_meth1, e_raise, e_thnx, List.getElem?_cons_zero, List.getElem?_cons_succ, List.set_cons_zero, List.set_cons_succ, List.length_cons, List.length_nil, Option.map_some, Option.bind_some, List.map_cons, List.map_nil, List.cons_append, List.nil_append, ↓reduceIte, eq_self, Bool.false_eq_true, Bool.true_eq_false, Bool.not_true, Bool.not_false, decide_true, decide_false, endF, Int.reduceEq, Int.reduceLT, Int.reduceLE, Int.reduceNeg, Nat.reduceAdd, Nat.reduceLT, Nat.reduceLeDiff, Int.reduceToNat, Int.reduceSub, Int.reduceAdd, Int.reduceMul, hl, e1, e2, h8', Bool.false_and]
theorem is_whole_ok (z : Str) (hz : z.length ≤ 1000) : F_is_whole [.str z] = some (.ok false (.bl (wholeB z.cps.toList))) := by
  have hl : (z.length ≤ 16777216) = True := eq_true (by omega)
  have rest := is_whole_rest z hz
  show endF (g_is_whole [some (.sh (.str z)), none, none, none]) = _
  unfold g_is_whole
  unfold isWholeRest at rest
  rw [← rest]
  by_cases h : z.cps.toList.take 1 = [45]
  · have h1 : decide (cutS z none (some 1) = ("-" : Str)) = true := by rw [is_minus]; exact decide_eq_true h
    rw [e_seq, e_asg, e_sel]
    simp only [e_op2, e_bnd, e_sl01, e_varB, e_rdB, List.getElem?_cons_zero, e_cst, e_isInt, Option.bind_some, e_slz, hl, if_true, e_eqs, h1, e_sel1, e_sl10, figS_eq1 h, e_bndS, e_asg0, e_thn, List.set_cons_succ, List.set_cons_zero]
  · have h1 : decide (cutS z none (some 1) = ("-" : Str)) = false := by rw [is_minus]; exact decide_eq_false h
    rw [e_seq, e_asg, e_sel]
    simp only [e_op2, e_bnd, e_sl01, e_varB, e_rdB, e_varG, e_rdV, List.getElem?_cons_zero, e_cst, e_isInt, Option.bind_some, e_slz, hl, if_true, e_eqs, h1, e_sel0, e_bndS, e_asg0, e_thn, List.set_cons_succ, List.set_cons_zero]
    rw [← figS_eq0 h]
def lawWrittenRest : Ev → Option SRes :=
  (seqG (ifG (orG (op2G ltD (onG lenD (argC (varB 1) argN)) (cstG (.int 1))) (op2G gtD (onG lenD (argC (varB 1) argN)) (cstG (.int 200)))) (seqG (retG (cstG (.bl false)))
  nxG) nxG)
  (seqG (ifG (op2G gtD (onG lenD (argC (lcG [2, 3] (itG (varB 1)) (.nm 3) (op2G notInD (varB 3) (cstG (.str "0123456789"))) (varG 3)) argN)) (cstG (.int 0))) (seqG (retG (cstG (.bl false)))
  nxG) nxG)
  (seqG (retG (orG (op2G neD (op2G ixD (varB 1) (cstG (.int 0))) (cstG (.str "0"))) (op2G eqD (varB 0) (cstG (.str "0")))))
  nxG)))
theorem fil_len (l : List Nat) (p : Nat → Bool) : decide (0 < (((l.filter fun c => !p c).map ch).length : Int)) = !l.all p := by
  rw [List.length_map]
  induction l with
  | nil => rfl
  | cons d l ih =>
    rw [List.filter_cons, List.all_cons]
    cases p d with
    | true => exact ih
    | false =>
      show decide (0 < ((_ + 1 : Nat) : Int)) = true
      exact decide_eq_true (by omega)
theorem law_written_rest (z : Str) (hz : z.length ≤ 1000) : endF (lawWrittenRest [some (.sh (.str z)), some (.sh (.str (figS z))), none, none]) = some (.ok false (.bl (wholeB z.cps.toList))) := by
  have hn : (figS z).length ≤ 1000 := by
    have := figs_len z.cps.toList
    rw [len_z] at hz ⊢
    rw [figS_l]
    omega
  have hl : ((figS z).length ≤ 16777216) = True := eq_true (by omega)
  unfold lawWrittenRest
  rw [whole_cases]
  have e := len_z (z := figS z)
  rw [figS_l] at e
  cases q : figs z.cps.toList with
  | nil =>
    rw [q] at e
    have e1 : (((figS z).length : Int) < 1) = True := eq_true (by rw [e]; decide)
    simp only [e_thn, e_thnr, e_thnb, e_thnc, e_seq, e_nx, e_bk, e_ct, e_frz, e_frz0, e_frz1, e_bndS, e_bnd, e_asg, e_asgw, e_asg0, e_asgi, e_asgt, e_asgp, e_sa0, e_sa1, e_bdn, e_bdp, e_ret, e_retv, e_retd0, e_retd1, e_retn, e_if, e_if1, e_if0, e_ifi, e_drop, e_app, e_app1, e_set, e_set1, e_set2, e_for, e_for1, e_varG, e_varB, e_rdV, e_rdB, e_rdB1, e_cst, e_op2, e_op1, e_sel, e_sel1, e_sel0, e_seli, e_bG, e_and, e_or, e_not, e_chain, e_on, e_on1, e_argN, e_argC, e_cons, e_itG, e_it1, e_it2, e_it3, e_lc, e_lc1, e_wipe0, e_wipe1, e_sl01, e_sl10, e_sl00, e_sl11, e_isInt, e_sll, e_add, e_addl, e_sub, e_mul, e_fdiv, e_mod, e_pow, e_neg, e_lt, e_le, e_gt, e_ge, e_eq, e_ne, e_int, e_abs, e_max, e_min, e_gcd, e_len1, e_len2, e_len3, e_list1, e_tupD, e_lstD, e_ixl, e_ixt, e_ixs, e_atn, e_at0, e_at1, e_at2, e_at3, e_at4, e_at5, e_at6, e_at7, e_at8, e_at9, e_at10, e_at11, e_at12, e_at13, e_at14, e_at15, e_trui, e_trub, e_notb, e_noti, e_isi_int_int, e_isi_int_bool, e_isi_int_tuple, e_isi_int_list, e_isi_int_str, e_isn_int, e_isnn_int, e_isi_str_int, e_isi_str_bool, e_isi_str_tuple, e_isi_str_list, e_isi_str_str, e_isn_str, e_isnn_str, e_isi_bl_int, e_isi_bl_bool, e_isi_bl_tuple, e_isi_bl_list, e_isi_bl_str, e_isn_bl, e_isnn_bl, e_isi_non_int, e_isi_non_bool, e_isi_non_tuple, e_isi_non_list, e_isi_non_str, e_isn_non, e_isnn_non, e_isi_lst_int, e_isi_lst_bool, e_isi_lst_tuple, e_isi_lst_list, e_isi_lst_str, e_isn_lst, e_isnn_lst, e_isi_tup_int, e_isi_tup_bool, e_isi_tup_tuple, e_isi_tup_list, e_isi_tup_str, e_isn_tup, e_isnn_tup, e_isi_scr_int, e_isi_scr_bool, e_isi_scr_tuple, e_isi_scr_list, e_isi_scr_str, e_isn_scr, e_isnn_scr, e_isb, e_neb, e_eqb, e_eqs, e_nes, e_adds, e_muls, e_lens, e_ixz, e_slz, e_itz, e_inz, e_ninz, e_all, e_intz, e_meth, e_meth1, e_raise, e_thnx, List.getElem?_cons_zero, List.getElem?_cons_succ, List.set_cons_zero, List.set_cons_succ, List.length_cons, List.length_nil, Option.map_some, Option.bind_some, List.map_cons, List.map_nil, List.cons_append, List.nil_append, ↓reduceIte, eq_self, Bool.false_eq_true, Bool.true_eq_false, Bool.not_true, Bool.not_false, decide_true, decide_false, endF, Int.reduceEq, Int.reduceLT, Int.reduceLE, Int.reduceNeg, Nat.reduceAdd, Nat.reduceLT, Nat.reduceLeDiff, Int.reduceToNat, Int.reduceSub, Int.reduceAdd, Int.reduceMul, hl, e1]
  | cons c r =>
    rw [q, List.length_cons] at e
    have e1 : (((figS z).length : Int) < 1) = False := eq_false (by omega)
    by_cases h8 : r.length ≤ 199
    · have e2 : ((200 : Int) < ((figS z).length : Int)) = False := eq_false (by omega)
      have la := lc_pick4 (e0 := some (.sh (.str z))) (e1 := some (.sh (.str (figS z)))) (l := c :: r) (t := op2G notInD (varB 3) (cstG (.str FG))) (p := fun c => !figB c) (fun d => by
        unfold ch figB
        simp only [e_thn, e_thnr, e_thnb, e_thnc, e_seq, e_nx, e_bk, e_ct, e_frz, e_frz0, e_frz1, e_bndS, e_bnd, e_asg, e_asgw, e_asg0, e_asgi, e_asgt, e_asgp, e_sa0, e_sa1, e_bdn, e_bdp, e_ret, e_retv, e_retd0, e_retd1, e_retn, e_if, e_if1, e_if0, e_ifi, e_drop, e_app, e_app1, e_set, e_set1, e_set2, e_for, e_for1, e_varG, e_varB, e_rdV, e_rdB, e_rdB1, e_cst, e_op2, e_op1, e_sel, e_sel1, e_sel0, e_seli, e_bG, e_and, e_or, e_not, e_chain, e_on, e_on1, e_argN, e_argC, e_cons, e_itG, e_it1, e_it2, e_it3, e_lc, e_lc1, e_wipe0, e_wipe1, e_sl01, e_sl10, e_sl00, e_sl11, e_isInt, e_sll, e_add, e_addl, e_sub, e_mul, e_fdiv, e_mod, e_pow, e_neg, e_lt, e_le, e_gt, e_ge, e_eq, e_ne, e_int, e_abs, e_max, e_min, e_gcd, e_len1, e_len2, e_len3, e_list1, e_tupD, e_lstD, e_ixl, e_ixt, e_ixs, e_atn, e_at0, e_at1, e_at2, e_at3, e_at4, e_at5, e_at6, e_at7, e_at8, e_at9, e_at10, e_at11, e_at12, e_at13, e_at14, e_at15, e_trui, e_trub, e_notb, e_noti, e_isi_int_int, e_isi_int_bool, e_isi_int_tuple, e_isi_int_list, e_isi_int_str, e_isn_int, e_isnn_int, e_isi_str_int, e_isi_str_bool, e_isi_str_tuple, e_isi_str_list, e_isi_str_str, e_isn_str, e_isnn_str, e_isi_bl_int, e_isi_bl_bool, e_isi_bl_tuple, e_isi_bl_list, e_isi_bl_str, e_isn_bl, e_isnn_bl, e_isi_non_int, e_isi_non_bool, e_isi_non_tuple, e_isi_non_list, e_isi_non_str, e_isn_non, e_isnn_non, e_isi_lst_int, e_isi_lst_bool, e_isi_lst_tuple, e_isi_lst_list, e_isi_lst_str, e_isn_lst, e_isnn_lst, e_isi_tup_int, e_isi_tup_bool, e_isi_tup_tuple, e_isi_tup_list, e_isi_tup_str, e_isn_tup, e_isnn_tup, e_isi_scr_int, e_isi_scr_bool, e_isi_scr_tuple, e_isi_scr_list, e_isi_scr_str, e_isn_scr, e_isnn_scr, e_isb, e_neb, e_eqb, e_eqs, e_nes, e_adds, e_muls, e_lens, e_ixz, e_slz, e_itz, e_inz, e_ninz, e_all, e_intz, e_meth, e_meth1, e_raise, e_thnx, List.getElem?_cons_zero, List.getElem?_cons_succ, List.set_cons_zero, List.set_cons_succ, List.length_cons, List.length_nil, Option.map_some, Option.bind_some, List.map_cons, List.map_nil, List.cons_append, List.nil_append, ↓reduceIte, eq_self, Bool.false_eq_true, Bool.true_eq_false, Bool.not_true, Bool.not_false, decide_true, decide_false, endF, Int.reduceEq, Int.reduceLT, Int.reduceLE, Int.reduceNeg, Nat.reduceAdd, Nat.reduceLT, Nat.reduceLeDiff, Int.reduceToNat, Int.reduceSub, Int.reduceAdd, Int.reduceMul])
      have ls : ((((c :: r).filter fun c => !figB c).map ch).length ≤ 16777216) = True := eq_true (by
        rw [List.length_map]
        have := List.length_filter_le (fun c => !figB c) (c :: r)
        rw [List.length_cons] at this
        omega)
      have h8' := eq_true h8
      simp only [e_seq, e_if, e_thn, e_bndS, e_or, e_bnd, e_op2, e_cst, e_on, e_on1, e_argC, e_argN, e_cons, e_varB, e_rdB, List.getElem?_cons_zero, List.getElem?_cons_succ, e_lens, hl, if_true, e_lt, e_gt, e1, e2, decide_false, e_sel1, e_sel0, e_if0, e_if1, e_nx, e_lc, e_itG, e_itz, e_lc1, signs_eq, e_wipe1, e_wipe0, List.set_cons_succ, List.set_cons_zero, figS_l, q]
      rw [la]
      simp only [Option.bind_some, ls, if_true, e_bnd, e_cons, e_on1, e_len1, e_gt, fil_len, e_bndS, h8', decide_true, Bool.true_and]
      cases qa : (c :: r).all figB with
      | false => simp only [e_thn, e_thnr, e_thnb, e_thnc, e_seq, e_nx, e_bk, e_ct, e_frz, e_frz0, e_frz1, e_bndS, e_bnd, e_asg, e_asgw, e_asg0, e_asgi, e_asgt, e_asgp, e_sa0, e_sa1, e_bdn, e_bdp, e_ret, e_retv, e_retd0, e_retd1, e_retn, e_if, e_if1, e_if0, e_ifi, e_drop, e_app, e_app1, e_set, e_set1, e_set2, e_for, e_for1, e_varG, e_varB, e_rdV, e_rdB, e_rdB1, e_cst, e_op2, e_op1, e_sel, e_sel1, e_sel0, e_seli, e_bG, e_and, e_or, e_not, e_chain, e_on, e_on1, e_argN, e_argC, e_cons, e_itG, e_it1, e_it2, e_it3, e_lc, e_lc1, e_wipe0, e_wipe1, e_sl01, e_sl10, e_sl00, e_sl11, e_isInt, e_sll, e_add, e_addl, e_sub, e_mul, e_fdiv, e_mod, e_pow, e_neg, e_lt, e_le, e_gt, e_ge, e_eq, e_ne, e_int, e_abs, e_max, e_min, e_gcd, e_len1, e_len2, e_len3, e_list1, e_tupD, e_lstD, e_ixl, e_ixt, e_ixs, e_atn, e_at0, e_at1, e_at2, e_at3, e_at4, e_at5, e_at6, e_at7, e_at8, e_at9, e_at10, e_at11, e_at12, e_at13, e_at14, e_at15, e_trui, e_trub, e_notb, e_noti, e_isi_int_int, e_isi_int_bool, e_isi_int_tuple, e_isi_int_list, e_isi_int_str, e_isn_int, e_isnn_int, e_isi_str_int, e_isi_str_bool, e_isi_str_tuple, e_isi_str_list, e_isi_str_str, e_isn_str, e_isnn_str, e_isi_bl_int, e_isi_bl_bool, e_isi_bl_tuple, e_isi_bl_list, e_isi_bl_str, e_isn_bl, e_isnn_bl, e_isi_non_int, e_isi_non_bool, e_isi_non_tuple, e_isi_non_list, e_isi_non_str, e_isn_non, e_isnn_non, e_isi_lst_int, e_isi_lst_bool, e_isi_lst_tuple, e_isi_lst_list, e_isi_lst_str, e_isn_lst, e_isnn_lst, e_isi_tup_int, e_isi_tup_bool, e_isi_tup_tuple, e_isi_tup_list, e_isi_tup_str, e_isn_tup, e_isnn_tup, e_isi_scr_int, e_isi_scr_bool, e_isi_scr_tuple, e_isi_scr_list, e_isi_scr_str, e_isn_scr, e_isnn_scr, e_isb, e_neb, e_eqb, e_eqs, e_nes, e_adds, e_muls, e_lens, e_ixz, e_slz, e_itz, e_inz, e_ninz, e_all, e_intz, e_meth, e_meth1, e_raise, e_thnx, List.getElem?_cons_zero, List.getElem?_cons_succ, List.set_cons_zero, List.set_cons_succ, List.length_cons, List.length_nil, Option.map_some, Option.bind_some, List.map_cons, List.map_nil, List.cons_append, List.nil_append, ↓reduceIte, eq_self, Bool.false_eq_true, Bool.true_eq_false, Bool.not_true, Bool.not_false, decide_true, decide_false, endF, Int.reduceEq, Int.reduceLT, Int.reduceLE, Int.reduceNeg, Nat.reduceAdd, Nat.reduceLT, Nat.reduceLeDiff, Int.reduceToNat, Int.reduceSub, Int.reduceAdd, Int.reduceMul, Bool.false_and]
      | true =>
        by_cases hc : c = 48
        · have hc2 : decide ((⟨#[c]⟩ : Str) = ("0" : Str)) = true := by rw [ch_zero]; exact decide_eq_true hc
          have hc' := eq_true hc
          simp only [e_thn, e_thnr, e_thnb, e_thnc, e_seq, e_nx, e_bk, e_ct, e_frz, e_frz0, e_frz1, e_bndS, e_bnd, e_asg, e_asgw, e_asg0, e_asgi, e_asgt, e_asgp, e_sa0, e_sa1, e_bdn, e_bdp, e_ret, e_retv, e_retd0, e_retd1, e_retn, e_if, e_if1, e_if0, e_ifi, e_drop, e_app, e_app1, e_set, e_set1, e_set2, e_for, e_for1, e_varG, e_varB, e_rdV, e_rdB, e_rdB1, e_cst, e_op2, e_op1, e_sel, e_sel1, e_sel0, e_seli, e_bG, e_and, e_or, e_not, e_chain, e_on, e_on1, e_argN, e_argC, e_cons, e_itG, e_it1, e_it2, e_it3, e_lc, e_lc1, e_wipe0, e_wipe1, e_sl01, e_sl10, e_sl00, e_sl11, e_isInt, e_sll, e_add, e_addl, e_sub, e_mul, e_fdiv, e_mod, e_pow, e_neg, e_lt, e_le, e_gt, e_ge, e_eq, e_ne, e_int, e_abs, e_max, e_min, e_gcd, e_len1, e_len2, e_len3, e_list1, e_tupD, e_lstD, e_ixl, e_ixt, e_ixs, e_atn, e_at0, e_at1, e_at2, e_at3, e_at4, e_at5, e_at6, e_at7, e_at8, e_at9, e_at10, e_at11, e_at12, e_at13, e_at14, e_at15, e_trui, e_trub, e_notb, e_noti, e_isi_int_int, e_isi_int_bool, e_isi_int_tuple, e_isi_int_list, e_isi_int_str, e_isn_int, e_isnn_int, e_isi_str_int, e_isi_str_bool, e_isi_str_tuple, e_isi_str_list, e_isi_str_str, e_isn_str, e_isnn_str, e_isi_bl_int, e_isi_bl_bool, e_isi_bl_tuple, e_isi_bl_list, e_isi_bl_str, e_isn_bl, e_isnn_bl, e_isi_non_int, e_isi_non_bool, e_isi_non_tuple, e_isi_non_list, e_isi_non_str, e_isn_non, e_isnn_non, e_isi_lst_int, e_isi_lst_bool, e_isi_lst_tuple, e_isi_lst_list, e_isi_lst_str, e_isn_lst, e_isnn_lst, e_isi_tup_int, e_isi_tup_bool, e_isi_tup_tuple, e_isi_tup_list, e_isi_tup_str, e_isn_tup, e_isnn_tup, e_isi_scr_int, e_isi_scr_bool, e_isi_scr_tuple, e_isi_scr_list, e_isi_scr_str, e_isn_scr, e_isnn_scr, e_isb, e_neb, e_eqb, e_eqs, e_nes, e_adds, e_muls, e_lens, e_ixz, e_slz, e_itz, e_inz, e_ninz, e_all, e_intz, e_meth, e_meth1, e_raise, e_thnx, List.getElem?_cons_zero, List.getElem?_cons_succ, List.set_cons_zero, List.set_cons_succ, List.length_cons, List.length_nil, Option.map_some, Option.bind_some, List.map_cons, List.map_nil, List.cons_append, List.nil_append, ↓reduceIte, eq_self, Bool.false_eq_true, Bool.true_eq_false, Bool.not_true, Bool.not_false, decide_true, decide_false, endF, Int.reduceEq, Int.reduceLT, Int.reduceLE, Int.reduceNeg, Nat.reduceAdd, Nat.reduceLT, Nat.reduceLeDiff, Int.reduceToNat, Int.reduceSub, Int.reduceAdd, Int.reduceMul, hl, hc2, hc', is_zero, figS_l, q, Bool.true_and, Bool.false_or]
        · have hc2 : decide ((⟨#[c]⟩ : Str) = ("0" : Str)) = false := by rw [ch_zero]; exact decide_eq_false hc
          have hc' := eq_false hc
          simp only [e_thn, e_thnr, e_thnb, e_thnc, e_seq, e_nx, e_bk, e_ct, e_frz, e_frz0, e_frz1, e_bndS, e_bnd, e_asg, e_asgw, e_asg0, e_asgi, e_asgt, e_asgp, e_sa0, e_sa1, e_bdn, e_bdp, e_ret, e_retv, e_retd0, e_retd1, e_retn, e_if, e_if1, e_if0, e_ifi, e_drop, e_app, e_app1, e_set, e_set1, e_set2, e_for, e_for1, e_varG, e_varB, e_rdV, e_rdB, e_rdB1, e_cst, e_op2, e_op1, e_sel, e_sel1, e_sel0, e_seli, e_bG, e_and, e_or, e_not, e_chain, e_on, e_on1, e_argN, e_argC, e_cons, e_itG, e_it1, e_it2, e_it3, e_lc, e_lc1, e_wipe0, e_wipe1, e_sl01, e_sl10, e_sl00, e_sl11, e_isInt, e_sll, e_add, e_addl, e_sub, e_mul, e_fdiv, e_mod, e_pow, e_neg, e_lt, e_le, e_gt, e_ge, e_eq, e_ne, e_int, e_abs, e_max, e_min, e_gcd, e_len1, e_len2, e_len3, e_list1, e_tupD, e_lstD, e_ixl, e_ixt, e_ixs, e_atn, e_at0, e_at1, e_at2, e_at3, e_at4, e_at5, e_at6, e_at7, e_at8, e_at9, e_at10, e_at11, e_at12, e_at13, e_at14, e_at15, e_trui, e_trub, e_notb, e_noti, e_isi_int_int, e_isi_int_bool, e_isi_int_tuple, e_isi_int_list, e_isi_int_str, e_isn_int, e_isnn_int, e_isi_str_int, e_isi_str_bool, e_isi_str_tuple, e_isi_str_list, e_isi_str_str, e_isn_str, e_isnn_str, e_isi_bl_int, e_isi_bl_bool, e_isi_bl_tuple, e_isi_bl_list, e_isi_bl_str, e_isn_bl, e_isnn_bl, e_isi_non_int, e_isi_non_bool, e_isi_non_tuple, e_isi_non_list, e_isi_non_str, e_isn_non, e_isnn_non, e_isi_lst_int, e_isi_lst_bool, e_isi_lst_tuple, e_isi_lst_list, e_isi_lst_str, e_isn_lst, e_isnn_lst, e_isi_tup_int, e_isi_tup_bool, e_isi_tup_tuple, e_isi_tup_list, e_isi_tup_str, e_isn_tup, e_isnn_tup, e_isi_scr_int, e_isi_scr_bool, e_isi_scr_tuple, e_isi_scr_list, e_isi_scr_str, e_isn_scr, e_isnn_scr, e_isb, e_neb, e_eqb, e_eqs, e_nes, e_adds, e_muls, e_lens, e_ixz, e_slz, e_itz, e_inz, e_ninz, e_all, e_intz, e_meth, e_meth1, e_raise, e_thnx, List.getElem?_cons_zero, List.getElem?_cons_succ, List.set_cons_zero, List.set_cons_succ, List.length_cons, List.length_nil, Option.map_some, Option.bind_some, List.map_cons, List.map_nil, List.cons_append, List.nil_append, ↓reduceIte, eq_self, Bool.false_eq_true, Bool.true_eq_false, Bool.not_true, Bool.not_false, decide_true, decide_false, endF, Int.reduceEq, Int.reduceLT, Int.reduceLE, Int.reduceNeg, Nat.reduceAdd, Nat.reduceLT, Nat.reduceLeDiff, Int.reduceToNat, Int.reduceSub, Int.reduceAdd, Int.reduceMul, hl, hc2, hc', is_zero, figS_l, q, Bool.true_and, Bool.true_or]
    · have e2 : ((200 : Int) < ((figS z).length : Int)) = True := eq_true (by omega)
      have h8' := eq_false h8
      simp only [e_thn, e_thnr, e_thnb, e_thnc, e_seq, e_nx, e_bk, e_ct, e_frz, e_frz0, e_frz1, e_bndS, e_bnd, e_asg, e_asgw, e_asg0, e_asgi, e_asgt, e_asgp, e_sa0, e_sa1, e_bdn, e_bdp, e_ret, e_retv, e_retd0, e_retd1, e_retn, e_if, e_if1, e_if0, e_ifi, e_drop, e_app, e_app1, e_set, e_set1, e_set2, e_for, e_for1, e_varG, e_varB, e_rdV, e_rdB, e_rdB1, e_cst, e_op2, e_op1, e_sel, e_sel1, e_sel0, e_seli, e_bG, e_and, e_or, e_not, e_chain, e_on, e_on1, e_argN, e_argC, e_cons, e_itG, e_it1, e_it2, e_it3, e_lc, e_lc1, e_wipe0, e_wipe1, e_sl01, e_sl10, e_sl00, e_sl11, e_isInt, e_sll, e_add, e_addl, e_sub, e_mul, e_fdiv, e_mod, e_pow, e_neg, e_lt, e_le, e_gt, e_ge, e_eq, e_ne, e_int, e_abs, e_max, e_min, e_gcd, e_len1, e_len2, e_len3, e_list1, e_tupD, e_lstD, e_ixl, e_ixt, e_ixs, e_atn, e_at0, e_at1, e_at2, e_at3, e_at4, e_at5, e_at6, e_at7, e_at8, e_at9, e_at10, e_at11, e_at12, e_at13, e_at14, e_at15, e_trui, e_trub, e_notb, e_noti, e_isi_int_int, e_isi_int_bool, e_isi_int_tuple, e_isi_int_list, e_isi_int_str, e_isn_int, e_isnn_int, e_isi_str_int, e_isi_str_bool, e_isi_str_tuple, e_isi_str_list, e_isi_str_str, e_isn_str, e_isnn_str, e_isi_bl_int, e_isi_bl_bool, e_isi_bl_tuple, e_isi_bl_list, e_isi_bl_str, e_isn_bl, e_isnn_bl, e_isi_non_int, e_isi_non_bool, e_isi_non_tuple, e_isi_non_list, e_isi_non_str, e_isn_non, e_isnn_non, e_isi_lst_int, e_isi_lst_bool, e_isi_lst_tuple, e_isi_lst_list, e_isi_lst_str, e_isn_lst, e_isnn_lst, e_isi_tup_int, e_isi_tup_bool, e_isi_tup_tuple, e_isi_tup_list, e_isi_tup_str, e_isn_tup, e_isnn_tup, e_isi_scr_int, e_isi_scr_bool, e_isi_scr_tuple, e_isi_scr_list, e_isi_scr_str, e_isn_scr, e_isnn_scr, e_isb, e_neb, e_eqb, e_eqs, e_nes, e_adds, e_muls, e_lens, e_ixz, e_slz, e_itz, e_inz, e_ninz, e_all, e_intz, e_meth, e_meth1, e_raise, e_thnx, List.getElem?_cons_zero, List.getElem?_cons_succ, List.set_cons_zero, List.set_cons_succ, List.length_cons, List.length_nil, Option.map_some, Option.bind_some, List.map_cons, List.map_nil, List.cons_append, List.nil_append, ↓reduceIte, eq_self, Bool.false_eq_true, Bool.true_eq_false, Bool.not_true, Bool.not_false, decide_true, decide_false, endF, Int.reduceEq, Int.reduceLT, Int.reduceLE, Int.reduceNeg, Nat.reduceAdd, Nat.reduceLT, Nat.reduceLeDiff, Int.reduceToNat, Int.reduceSub, Int.reduceAdd, Int.reduceMul, hl, e1, e2, h8', Bool.false_and]
theorem law_is_written_ok (z : Str) (hz : z.length ≤ 1000) : F__law_is_written [.str z] = some (.ok false (.bl (wholeB z.cps.toList))) := by
  have hl : (z.length ≤ 16777216) = True := eq_true (by omega)
  have rest := law_written_rest z hz
  show endF (g__law_is_written [some (.sh (.str z)), none, none, none]) = _
  unfold g__law_is_written
  unfold lawWrittenRest at rest
  rw [← rest]
  by_cases h : z.cps.toList.take 1 = [45]
  · have h1 : decide (cutS z none (some 1) = ("-" : Str)) = true := by rw [is_minus]; exact decide_eq_true h
    rw [e_seq, e_asg]
    simp only [e_seq, e_if, e_asg, e_nx, e_op2, e_bnd, e_sl01, e_varB, e_varG, e_rdV, e_rdB, List.getElem?_cons_zero, e_cst, e_isInt, Option.bind_some, e_slz, hl, if_true, e_eqs, h1, e_if1, e_sl10, figS_eq1 h, e_bndS, e_asg0, e_thn, List.set_cons_succ, List.set_cons_zero]
  · have h1 : decide (cutS z none (some 1) = ("-" : Str)) = false := by rw [is_minus]; exact decide_eq_false h
    rw [e_seq, e_asg]
    simp only [e_seq, e_if, e_asg, e_nx, e_op2, e_bnd, e_sl01, e_varB, e_varG, e_rdV, e_rdB, List.getElem?_cons_zero, e_cst, e_isInt, Option.bind_some, e_slz, hl, if_true, e_eqs, h1, e_if0, e_bndS, e_asg0, e_thn, List.set_cons_succ, List.set_cons_zero]
    rw [← figS_eq0 h]
end K00

namespace K00
open PySem PySem.Spec PyProof.Rows L2 Evl Dl
theorem fig_iff (c : Nat) : figB c = true ↔ 48 ≤ c ∧ c ≤ 57 := by
  have e : FG.cps.toList = [48, 49, 50, 51, 52, 53, 54, 55, 56, 57] := by decide +kernel
  unfold figB
  rw [e, decide_eq_true_eq]
  simp
  omega
theorem find_fig {c : Nat} (h : figB c = true) : findD FG (.str ⟨#[c]⟩) = some (.ok false (.int (((c - 48 : Nat) : Nat) : Int))) := by
  have h := (fig_iff c).mp h
  have : c = 48 ∨ c = 49 ∨ c = 50 ∨ c = 51 ∨ c = 52 ∨ c = 53 ∨ c = 54 ∨ c = 55 ∨ c = 56 ∨ c = 57 := by omega
  show okI (Txt.find FG ⟨#[c]⟩) = _
  rcases this with rfl | rfl | rfl | rfl | rfl | rfl | rfl | rfl | rfl | rfl <;> (refine congrArg (fun i => some (Res.ok false (.int i))) ?_; decide +kernel)
theorem ch_minus (c : Nat) : decide ((⟨#[c]⟩ : Str) = ("-" : Str)) = decide (c = 45) := by
  have : ("-" : Str).cps.toList = [45] := by decide +kernel
  exact decide_eq_decide.mpr (by rw [str_ext, this]; simp)
def stepN (t : Nat) (c : Nat) : Nat := t * 10 + (c - 48)
theorem val_lt : ∀ (l : List Nat) (t : Nat), (∀ c ∈ l, 48 ≤ c ∧ c ≤ 57) → l.foldl stepN t < (t + 1) * 10 ^ l.length
  | [], t, _ => by simp
  | c :: l, t, h => by
    have ih := val_lt l (stepN t c) fun d hd => h d (List.mem_cons_of_mem _ hd)
    have hc := h c List.mem_cons_self
    rw [List.foldl_cons, List.length_cons, Nat.pow_succ]
    refine Nat.lt_of_lt_of_le ih ?_
    have : stepN t c + 1 ≤ (t + 1) * 10 := by unfold stepN; omega
    calc (stepN t c + 1) * 10 ^ l.length ≤ (t + 1) * 10 * 10 ^ l.length := Nat.mul_le_mul_right _ this
      _ = (t + 1) * (10 ^ l.length * 10) := by rw [Nat.mul_assoc, Nat.mul_comm 10]
def numBody : Ev → Option SRes := (seqG (ifG (op2G neD (varB 2) (cstG (.str "-"))) (seqG (asgG (.nm 1) (op2G addD (op2G mulD (varB 1) (cstG (.int 10))) (methG findD (cstG (.str "0123456789")) (varB 2))))
  nxG) nxG)
  nxG)
def stepM (t : Nat) (c : Nat) : Nat := if c = 45 then t else stepN t c
theorem num_loop (z : Str) : ∀ (l : List Nat) (t : Nat) (o : Option Sl), (∀ c ∈ l, c = 45 ∨ figB c = true) → ∃ o', loopG (.nm 2) numBody (l.map ch) [some (.sh (.str z)), some (.sh (.int t)), o] = some (.nx [some (.sh (.str z)), some (.sh (.int (l.foldl stepM t : Nat))), o'])
  | [], t, o, _ => ⟨o, rfl⟩
  | c :: l, t, o, h => by
    have m : mulOk (t : Int) 10 = true := mulOk_r (by decide)
    have step : ∃ e, bindE (.nm 2) (ch c) [some (.sh (.str z)), some (.sh (.int t)), o] = some e ∧ numBody e = some (.nx [some (.sh (.str z)), some (.sh (.int (stepM t c : Nat))), some (.sh (ch c))]) := by
      refine ⟨_, e_bdn, ?_⟩
      unfold numBody ch
      rcases h c List.mem_cons_self with rfl | hc
      · have e1 : decide ((⟨#[45]⟩ : Str) = ("-" : Str)) = true := by rw [ch_minus]; rfl
        simp only [e_thn, e_thnr, e_thnb, e_thnc, e_seq, e_nx, e_bk, e_ct, e_frz, e_frz0, e_frz1, e_bndS, e_bnd, e_asg, e_asgw, e_asg0, e_asgi, e_asgt, e_asgp, e_sa0, e_sa1, e_bdn, e_bdp, e_ret, e_retv, e_retd0, e_retd1, e_retn, e_if, e_if1, e_if0, e_ifi, e_drop, e_app, e_app1, e_set, e_set1, e_set2, e_for, e_for1, e_varG, e_varB, e_rdV, e_rdB, e_rdB1, e_cst, e_op2, e_op1, e_sel, e_sel1, e_sel0, e_seli, e_bG, e_and, e_or, e_not, e_chain, e_on, e_on1, e_argN, e_argC, e_cons, e_itG, e_it1, e_it2, e_it3, e_lc, e_lc1, e_wipe0, e_wipe1, e_sl01, e_sl10, e_sl00, e_sl11, e_isInt, e_sll, e_add, e_addl, e_sub, e_mul, e_fdiv, e_mod, e_pow, e_neg, e_lt, e_le, e_gt, e_ge, e_eq, e_ne, e_int, e_abs, e_max, e_min, e_gcd, e_len1, e_len2, e_len3, e_list1, e_tupD, e_lstD, e_ixl, e_ixt, e_ixs, e_atn, e_at0, e_at1, e_at2, e_at3, e_at4, e_at5, e_at6, e_at7, e_at8, e_at9, e_at10, e_at11, e_at12, e_at13, e_at14, e_at15, e_trui, e_trub, e_notb, e_noti, e_isi_int_int, e_isi_int_bool, e_isi_int_tuple, e_isi_int_list, e_isi_int_str, e_isn_int, e_isnn_int, e_isi_str_int, e_isi_str_bool, e_isi_str_tuple, e_isi_str_list, e_isi_str_str, e_isn_str, e_isnn_str, e_isi_bl_int, e_isi_bl_bool, e_isi_bl_tuple, e_isi_bl_list, e_isi_bl_str, e_isn_bl, e_isnn_bl, e_isi_non_int, e_isi_non_bool, e_isi_non_tuple, e_isi_non_list, e_isi_non_str, e_isn_non, e_isnn_non, e_isi_lst_int, e_isi_lst_bool, e_isi_lst_tuple, e_isi_lst_list, e_isi_lst_str, e_isn_lst, e_isnn_lst, e_isi_tup_int, e_isi_tup_bool, e_isi_tup_tuple, e_isi_tup_list, e_isi_tup_str, e_isn_tup, e_isnn_tup, e_isi_scr_int, e_isi_scr_bool, e_isi_scr_tuple, e_isi_scr_list, e_isi_scr_str, e_isn_scr, e_isnn_scr, e_isb, e_neb, e_eqb, e_eqs, e_nes, e_adds, e_muls, e_lens, e_ixz, e_slz, e_itz, e_inz, e_ninz, e_all, e_intz, e_meth, e_meth1, e_raise, e_thnx, List.getElem?_cons_zero, List.getElem?_cons_succ, List.set_cons_zero, List.set_cons_succ, List.length_cons, List.length_nil, Option.map_some, Option.bind_some, List.map_cons, List.map_nil, List.cons_append, List.nil_append, ↓reduceIte, eq_self, Bool.false_eq_true, Bool.true_eq_false, Bool.not_true, Bool.not_false, decide_true, decide_false, endF, Int.reduceEq, Int.reduceLT, Int.reduceLE, Int.reduceNeg, Nat.reduceAdd, Nat.reduceLT, Nat.reduceLeDiff, Int.reduceToNat, Int.reduceSub, Int.reduceAdd, Int.reduceMul, e1]
        rfl
      · have hc45 : c ≠ 45 := by have := (fig_iff c).mp hc; omega
        have e1 : decide ((⟨#[c]⟩ : Str) = ("-" : Str)) = false := by rw [ch_minus]; exact decide_eq_false hc45
        have e2 : ((t : Int) * 10 + ((c - 48 : Nat) : Int)) = ((stepM t c : Nat) : Int) := by unfold stepM stepN; rw [if_neg hc45]; omega
        simp only [e_thn, e_thnr, e_thnb, e_thnc, e_seq, e_nx, e_bk, e_ct, e_frz, e_frz0, e_frz1, e_bndS, e_bnd, e_asg, e_asgw, e_asg0, e_asgi, e_asgt, e_asgp, e_sa0, e_sa1, e_bdn, e_bdp, e_ret, e_retv, e_retd0, e_retd1, e_retn, e_if, e_if1, e_if0, e_ifi, e_drop, e_app, e_app1, e_set, e_set1, e_set2, e_for, e_for1, e_varG, e_varB, e_rdV, e_rdB, e_rdB1, e_cst, e_op2, e_op1, e_sel, e_sel1, e_sel0, e_seli, e_bG, e_and, e_or, e_not, e_chain, e_on, e_on1, e_argN, e_argC, e_cons, e_itG, e_it1, e_it2, e_it3, e_lc, e_lc1, e_wipe0, e_wipe1, e_sl01, e_sl10, e_sl00, e_sl11, e_isInt, e_sll, e_add, e_addl, e_sub, e_mul, e_fdiv, e_mod, e_pow, e_neg, e_lt, e_le, e_gt, e_ge, e_eq, e_ne, e_int, e_abs, e_max, e_min, e_gcd, e_len1, e_len2, e_len3, e_list1, e_tupD, e_lstD, e_ixl, e_ixt, e_ixs, e_atn, e_at0, e_at1, e_at2, e_at3, e_at4, e_at5, e_at6, e_at7, e_at8, e_at9, e_at10, e_at11, e_at12, e_at13, e_at14, e_at15, e_trui, e_trub, e_notb, e_noti, e_isi_int_int, e_isi_int_bool, e_isi_int_tuple, e_isi_int_list, e_isi_int_str, e_isn_int, e_isnn_int, e_isi_str_int, e_isi_str_bool, e_isi_str_tuple, e_isi_str_list, e_isi_str_str, e_isn_str, e_isnn_str, e_isi_bl_int, e_isi_bl_bool, e_isi_bl_tuple, e_isi_bl_list, e_isi_bl_str, e_isn_bl, e_isnn_bl, e_isi_non_int, e_isi_non_bool, e_isi_non_tuple, e_isi_non_list, e_isi_non_str, e_isn_non, e_isnn_non, e_isi_lst_int, e_isi_lst_bool, e_isi_lst_tuple, e_isi_lst_list, e_isi_lst_str, e_isn_lst, e_isnn_lst, e_isi_tup_int, e_isi_tup_bool, e_isi_tup_tuple, e_isi_tup_list, e_isi_tup_str, e_isn_tup, e_isnn_tup, e_isi_scr_int, e_isi_scr_bool, e_isi_scr_tuple, e_isi_scr_list, e_isi_scr_str, e_isn_scr, e_isnn_scr, e_isb, e_neb, e_eqb, e_eqs, e_nes, e_adds, e_muls, e_lens, e_ixz, e_slz, e_itz, e_inz, e_ninz, e_all, e_intz, e_meth, e_meth1, e_raise, e_thnx, List.getElem?_cons_zero, List.getElem?_cons_succ, List.set_cons_zero, List.set_cons_succ, List.length_cons, List.length_nil, Option.map_some, Option.bind_some, List.map_cons, List.map_nil, List.cons_append, List.nil_append, ↓reduceIte, eq_self, Bool.false_eq_true, Bool.true_eq_false, Bool.not_true, Bool.not_false, decide_true, decide_false, endF, Int.reduceEq, Int.reduceLT, Int.reduceLE, Int.reduceNeg, Nat.reduceAdd, Nat.reduceLT, Nat.reduceLeDiff, Int.reduceToNat, Int.reduceSub, Int.reduceAdd, Int.reduceMul, e1, m, find_fig hc, e2]
    obtain ⟨e, h1, h2⟩ := step
    obtain ⟨o', ih⟩ := num_loop z l (stepM t c) (some (.sh (ch c))) fun d hd => h d (List.mem_cons_of_mem _ hd)
    refine ⟨o', ?_⟩
    rw [List.map_cons]
    unfold loopG
    rw [h1]
    show (match numBody e with
      | some (.nx e) => loopG (.nm 2) numBody (l.map ch) e
      | some (.ct e) => loopG (.nm 2) numBody (l.map ch) e
      | some (.bk e) => some (.nx e)
      | r => r) = _
    rw [h2]
    exact ih
def numI (l : List Nat) : Int := if l.take 1 = [45] then -((l.foldl stepM 0 : Nat) : Int) else ((l.foldl stepM 0 : Nat) : Int)
theorem whole_figs {l : List Nat} (h : wholeB l = true) : ∃ c r, figs l = c :: r ∧ r.length ≤ 199 ∧ (∀ d ∈ c :: r, figB d = true) := by
  rw [whole_cases] at h
  cases q : figs l with
  | nil => rw [q] at h; cases h
  | cons c r =>
    rw [q] at h
    simp only [Bool.and_eq_true, decide_eq_true_eq] at h
    exact ⟨c, r, rfl, h.1.1, List.all_eq_true.mp h.1.2⟩
theorem whole_signs {l : List Nat} (h : wholeB l = true) : ∀ c ∈ l, c = 45 ∨ figB c = true := by
  obtain ⟨c, r, q, _, hf⟩ := whole_figs h
  unfold figs at q
  split at q
  · rename_i t
    cases l with
    | nil => cases q
    | cons a l =>
      have t' : [a] = [45] := t
      have q' : l = c :: r := q
      intro d hd
      rcases List.mem_cons.mp hd with e | e
      · rw [e]; exact .inl (List.cons.inj t').1
      · exact .inr (hf d (by rw [← q']; exact e))
  · intro d hd
    exact .inr (hf d (by rw [← q]; exact hd))
theorem law_number_ok (z : Str) (hz : z.length ≤ 1000) (h : wholeB z.cps.toList = true) : F__law_number [.str z] = some (.ok false (.int (numI z.cps.toList))) := by
  have hl : (z.length ≤ 16777216) = True := eq_true (by omega)
  obtain ⟨o', lp⟩ := num_loop z z.cps.toList 0 none (whole_signs h)
  show endF (g__law_number [some (.sh (.str z)), none, none]) = _
  unfold g__law_number
  unfold numBody at lp
  have lp' := lp
  rw [show ((0 : Nat) : Int) = 0 from rfl] at lp'
  by_cases t : z.cps.toList.take 1 = [45]
  · have h1 : decide (cutS z none (some 1) = ("-" : Str)) = true := by rw [is_minus]; exact decide_eq_true t
    simp only [e_thn, e_thnr, e_thnb, e_thnc, e_seq, e_nx, e_bk, e_ct, e_frz, e_frz0, e_frz1, e_bndS, e_bnd, e_asg, e_asgw, e_asg0, e_asgi, e_asgt, e_asgp, e_sa0, e_sa1, e_bdn, e_bdp, e_ret, e_retv, e_retd0, e_retd1, e_retn, e_if, e_if1, e_if0, e_ifi, e_drop, e_app, e_app1, e_set, e_set1, e_set2, e_for, e_for1, e_varG, e_varB, e_rdV, e_rdB, e_rdB1, e_cst, e_op2, e_op1, e_sel, e_sel1, e_sel0, e_seli, e_bG, e_and, e_or, e_not, e_chain, e_on, e_on1, e_argN, e_argC, e_cons, e_itG, e_it1, e_it2, e_it3, e_lc, e_lc1, e_wipe0, e_wipe1, e_sl01, e_sl10, e_sl00, e_sl11, e_isInt, e_sll, e_add, e_addl, e_sub, e_mul, e_fdiv, e_mod, e_pow, e_neg, e_lt, e_le, e_gt, e_ge, e_eq, e_ne, e_int, e_abs, e_max, e_min, e_gcd, e_len1, e_len2, e_len3, e_list1, e_tupD, e_lstD, e_ixl, e_ixt, e_ixs, e_atn, e_at0, e_at1, e_at2, e_at3, e_at4, e_at5, e_at6, e_at7, e_at8, e_at9, e_at10, e_at11, e_at12, e_at13, e_at14, e_at15, e_trui, e_trub, e_notb, e_noti, e_isi_int_int, e_isi_int_bool, e_isi_int_tuple, e_isi_int_list, e_isi_int_str, e_isn_int, e_isnn_int, e_isi_str_int, e_isi_str_bool, e_isi_str_tuple, e_isi_str_list, e_isi_str_str, e_isn_str, e_isnn_str, e_isi_bl_int, e_isi_bl_bool, e_isi_bl_tuple, e_isi_bl_list, e_isi_bl_str, e_isn_bl, e_isnn_bl, e_isi_non_int, e_isi_non_bool, e_isi_non_tuple, e_isi_non_list, e_isi_non_str, e_isn_non, e_isnn_non, e_isi_lst_int, e_isi_lst_bool, e_isi_lst_tuple, e_isi_lst_list, e_isi_lst_str, e_isn_lst, e_isnn_lst, e_isi_tup_int, e_isi_tup_bool, e_isi_tup_tuple, e_isi_tup_list, e_isi_tup_str, e_isn_tup, e_isnn_tup, e_isi_scr_int, e_isi_scr_bool, e_isi_scr_tuple, e_isi_scr_list, e_isi_scr_str, e_isn_scr, e_isnn_scr, e_isb, e_neb, e_eqb, e_eqs, e_nes, e_adds, e_muls, e_lens, e_ixz, e_slz, e_itz, e_inz, e_ninz, e_all, e_intz, e_meth, e_meth1, e_raise, e_thnx, List.getElem?_cons_zero, List.getElem?_cons_succ, List.set_cons_zero, List.set_cons_succ, List.length_cons, List.length_nil, Option.map_some, Option.bind_some, List.map_cons, List.map_nil, List.cons_append, List.nil_append, ↓reduceIte, eq_self, Bool.false_eq_true, Bool.true_eq_false, Bool.not_true, Bool.not_false, decide_true, decide_false, endF, Int.reduceEq, Int.reduceLT, Int.reduceLE, Int.reduceNeg, Nat.reduceAdd, Nat.reduceLT, Nat.reduceLeDiff, Int.reduceToNat, Int.reduceSub, Int.reduceAdd, Int.reduceMul, signs_eq, lp', hl, h1, numI, t]
  · have h1 : decide (cutS z none (some 1) = ("-" : Str)) = false := by rw [is_minus]; exact decide_eq_false t
    simp only [e_thn, e_thnr, e_thnb, e_thnc, e_seq, e_nx, e_bk, e_ct, e_frz, e_frz0, e_frz1, e_bndS, e_bnd, e_asg, e_asgw, e_asg0, e_asgi, e_asgt, e_asgp, e_sa0, e_sa1, e_bdn, e_bdp, e_ret, e_retv, e_retd0, e_retd1, e_retn, e_if, e_if1, e_if0, e_ifi, e_drop, e_app, e_app1, e_set, e_set1, e_set2, e_for, e_for1, e_varG, e_varB, e_rdV, e_rdB, e_rdB1, e_cst, e_op2, e_op1, e_sel, e_sel1, e_sel0, e_seli, e_bG, e_and, e_or, e_not, e_chain, e_on, e_on1, e_argN, e_argC, e_cons, e_itG, e_it1, e_it2, e_it3, e_lc, e_lc1, e_wipe0, e_wipe1, e_sl01, e_sl10, e_sl00, e_sl11, e_isInt, e_sll, e_add, e_addl, e_sub, e_mul, e_fdiv, e_mod, e_pow, e_neg, e_lt, e_le, e_gt, e_ge, e_eq, e_ne, e_int, e_abs, e_max, e_min, e_gcd, e_len1, e_len2, e_len3, e_list1, e_tupD, e_lstD, e_ixl, e_ixt, e_ixs, e_atn, e_at0, e_at1, e_at2, e_at3, e_at4, e_at5, e_at6, e_at7, e_at8, e_at9, e_at10, e_at11, e_at12, e_at13, e_at14, e_at15, e_trui, e_trub, e_notb, e_noti, e_isi_int_int, e_isi_int_bool, e_isi_int_tuple, e_isi_int_list, e_isi_int_str, e_isn_int, e_isnn_int, e_isi_str_int, e_isi_str_bool, e_isi_str_tuple, e_isi_str_list, e_isi_str_str, e_isn_str, e_isnn_str, e_isi_bl_int, e_isi_bl_bool, e_isi_bl_tuple, e_isi_bl_list, e_isi_bl_str, e_isn_bl, e_isnn_bl, e_isi_non_int, e_isi_non_bool, e_isi_non_tuple, e_isi_non_list, e_isi_non_str, e_isn_non, e_isnn_non, e_isi_lst_int, e_isi_lst_bool, e_isi_lst_tuple, e_isi_lst_list, e_isi_lst_str, e_isn_lst, e_isnn_lst, e_isi_tup_int, e_isi_tup_bool, e_isi_tup_tuple, e_isi_tup_list, e_isi_tup_str, e_isn_tup, e_isnn_tup, e_isi_scr_int, e_isi_scr_bool, e_isi_scr_tuple, e_isi_scr_list, e_isi_scr_str, e_isn_scr, e_isnn_scr, e_isb, e_neb, e_eqb, e_eqs, e_nes, e_adds, e_muls, e_lens, e_ixz, e_slz, e_itz, e_inz, e_ninz, e_all, e_intz, e_meth, e_meth1, e_raise, e_thnx, List.getElem?_cons_zero, List.getElem?_cons_succ, List.set_cons_zero, List.set_cons_succ, List.length_cons, List.length_nil, Option.map_some, Option.bind_some, List.map_cons, List.map_nil, List.cons_append, List.nil_append, ↓reduceIte, eq_self, Bool.false_eq_true, Bool.true_eq_false, Bool.not_true, Bool.not_false, decide_true, decide_false, endF, Int.reduceEq, Int.reduceLT, Int.reduceLE, Int.reduceNeg, Nat.reduceAdd, Nat.reduceLT, Nat.reduceLeDiff, Int.reduceToNat, Int.reduceSub, Int.reduceAdd, Int.reduceMul, signs_eq, lp', hl, h1, numI, t]
theorem foldM (l : List Nat) (t : Nat) (h : ∀ c ∈ l, figB c = true) : l.foldl stepM t = l.foldl (fun acc c => acc * 10 + (c - 48)) t := by
  induction l generalizing t with
  | nil => rfl
  | cons c l ih =>
    rw [List.foldl_cons, List.foldl_cons, ih _ fun d hd => h d (List.mem_cons_of_mem _ hd)]
    congr 1
    unfold stepM
    have := (fig_iff c).mp (h c List.mem_cons_self)
    rw [if_neg (by omega)]
    rfl
theorem int_whole (z : Str) (hz : z.length ≤ 640) (h : wholeB z.cps.toList = true) : PySem.intText? z = some (numI z.cps.toList) := by
  obtain ⟨c, r, q, hr, hf⟩ := whole_figs h
  have digs : NumText.AllDigits (c :: r) := fun d hd => (fig_iff d).mp (hf d hd)
  unfold figs at q
  split at q
  · rename_i t
    cases e : z.cps.toList with
    | nil => rw [e] at q; cases q
    | cons a l =>
      rw [e] at q t
      have t' : a = 45 := (List.cons.inj (show [a] = [45] from t)).1
      have q' : l = c :: r := q
      subst t'
      subst q'
      rw [PySem.intText_neg e digs (by simp) (by omega)]
      unfold numI
      rw [if_pos t]
      congr 2
      rw [List.foldl_cons]
      exact congrArg Nat.cast (foldM _ _ hf).symm
  · rename_i t
    rw [PySem.intText_digits (by rw [q]; exact digs) (by rw [q]; simp) (by omega)]
    unfold numI
    rw [if_neg t, q]
    congr 1
    exact congrArg Nat.cast (foldM _ _ hf).symm
theorem whole_len {l : List Nat} (h : wholeB l = true) : l.length ≤ 201 := by
  obtain ⟨c, r, q, hr, hf⟩ := whole_figs h
  have e : (figs l).length = r.length + 1 := by rw [q, List.length_cons]
  unfold figs at e
  split at e
  · rw [List.length_drop] at e; omega
  · omega
theorem read_whole_ok (z : Str) (d : Dt) (hz : z.length ≤ 1000) (h : wholeB z.cps.toList = true) : F_read_whole [.str z, d] = some (.ok false (.int (numI z.cps.toList))) := by
  have hs : scD F_is_whole [.str z] = some (.ok false (.bl true)) := e_sc (by rw [is_whole_ok z hz, h]) rfl
  have hl : z.length ≤ 640 := by have := whole_len h; rw [len_z]; omega
  have hl' := eq_true hl
  show endF (g_read_whole F_is_whole [some (.sh (.str z)), some (.sh d)]) = _
  unfold g_read_whole
  simp only [e_thn, e_thnr, e_thnb, e_thnc, e_seq, e_nx, e_bk, e_ct, e_frz, e_frz0, e_frz1, e_bndS, e_bnd, e_asg, e_asgw, e_asg0, e_asgi, e_asgt, e_asgp, e_sa0, e_sa1, e_bdn, e_bdp, e_ret, e_retv, e_retd0, e_retd1, e_retn, e_if, e_if1, e_if0, e_ifi, e_drop, e_app, e_app1, e_set, e_set1, e_set2, e_for, e_for1, e_varG, e_varB, e_rdV, e_rdB, e_rdB1, e_cst, e_op2, e_op1, e_sel, e_sel1, e_sel0, e_seli, e_bG, e_and, e_or, e_not, e_chain, e_on, e_on1, e_argN, e_argC, e_cons, e_itG, e_it1, e_it2, e_it3, e_lc, e_lc1, e_wipe0, e_wipe1, e_sl01, e_sl10, e_sl00, e_sl11, e_isInt, e_sll, e_add, e_addl, e_sub, e_mul, e_fdiv, e_mod, e_pow, e_neg, e_lt, e_le, e_gt, e_ge, e_eq, e_ne, e_int, e_abs, e_max, e_min, e_gcd, e_len1, e_len2, e_len3, e_list1, e_tupD, e_lstD, e_ixl, e_ixt, e_ixs, e_atn, e_at0, e_at1, e_at2, e_at3, e_at4, e_at5, e_at6, e_at7, e_at8, e_at9, e_at10, e_at11, e_at12, e_at13, e_at14, e_at15, e_trui, e_trub, e_notb, e_noti, e_isi_int_int, e_isi_int_bool, e_isi_int_tuple, e_isi_int_list, e_isi_int_str, e_isn_int, e_isnn_int, e_isi_str_int, e_isi_str_bool, e_isi_str_tuple, e_isi_str_list, e_isi_str_str, e_isn_str, e_isnn_str, e_isi_bl_int, e_isi_bl_bool, e_isi_bl_tuple, e_isi_bl_list, e_isi_bl_str, e_isn_bl, e_isnn_bl, e_isi_non_int, e_isi_non_bool, e_isi_non_tuple, e_isi_non_list, e_isi_non_str, e_isn_non, e_isnn_non, e_isi_lst_int, e_isi_lst_bool, e_isi_lst_tuple, e_isi_lst_list, e_isi_lst_str, e_isn_lst, e_isnn_lst, e_isi_tup_int, e_isi_tup_bool, e_isi_tup_tuple, e_isi_tup_list, e_isi_tup_str, e_isn_tup, e_isnn_tup, e_isi_scr_int, e_isi_scr_bool, e_isi_scr_tuple, e_isi_scr_list, e_isi_scr_str, e_isn_scr, e_isnn_scr, e_isb, e_neb, e_eqb, e_eqs, e_nes, e_adds, e_muls, e_lens, e_ixz, e_slz, e_itz, e_inz, e_ninz, e_all, e_intz, e_meth, e_meth1, e_raise, e_thnx, List.getElem?_cons_zero, List.getElem?_cons_succ, List.set_cons_zero, List.set_cons_succ, List.length_cons, List.length_nil, Option.map_some, Option.bind_some, List.map_cons, List.map_nil, List.cons_append, List.nil_append, ↓reduceIte, eq_self, Bool.false_eq_true, Bool.true_eq_false, Bool.not_true, Bool.not_false, decide_true, decide_false, endF, Int.reduceEq, Int.reduceLT, Int.reduceLE, Int.reduceNeg, Nat.reduceAdd, Nat.reduceLT, Nat.reduceLeDiff, Int.reduceToNat, Int.reduceSub, Int.reduceAdd, Int.reduceMul, hs, hl', int_whole z hl h]
theorem read_whole_ex (z : Str) (p : Int) (hz : z.length ≤ 1000) (h : wholeB z.cps.toList = false) (h0 : 0 ≤ p) (h1 : p < 1000000) : F_read_whole [.str z, .int p] = some (.ex "BadText" [("place", .int p)]) := by
  have hs : scD F_is_whole [.str z] = some (.ok false (.bl false)) := e_sc (by rw [is_whole_ok z hz, h]) rfl
  have hp : (0 ≤ p) = True := eq_true h0
  have hp1 : (p < 10 ^ 10) = True := eq_true (by omega)
  show endF (g_read_whole F_is_whole [some (.sh (.str z)), some (.sh (.int p))]) = _
  unfold g_read_whole
  simp only [e_thn, e_thnr, e_thnb, e_thnc, e_seq, e_nx, e_bk, e_ct, e_frz, e_frz0, e_frz1, e_bndS, e_bnd, e_asg, e_asgw, e_asg0, e_asgi, e_asgt, e_asgp, e_sa0, e_sa1, e_bdn, e_bdp, e_ret, e_retv, e_retd0, e_retd1, e_retn, e_if, e_if1, e_if0, e_ifi, e_drop, e_app, e_app1, e_set, e_set1, e_set2, e_for, e_for1, e_varG, e_varB, e_rdV, e_rdB, e_rdB1, e_cst, e_op2, e_op1, e_sel, e_sel1, e_sel0, e_seli, e_bG, e_and, e_or, e_not, e_chain, e_on, e_on1, e_argN, e_argC, e_cons, e_itG, e_it1, e_it2, e_it3, e_lc, e_lc1, e_wipe0, e_wipe1, e_sl01, e_sl10, e_sl00, e_sl11, e_isInt, e_sll, e_add, e_addl, e_sub, e_mul, e_fdiv, e_mod, e_pow, e_neg, e_lt, e_le, e_gt, e_ge, e_eq, e_ne, e_int, e_abs, e_max, e_min, e_gcd, e_len1, e_len2, e_len3, e_list1, e_tupD, e_lstD, e_ixl, e_ixt, e_ixs, e_atn, e_at0, e_at1, e_at2, e_at3, e_at4, e_at5, e_at6, e_at7, e_at8, e_at9, e_at10, e_at11, e_at12, e_at13, e_at14, e_at15, e_trui, e_trub, e_notb, e_noti, e_isi_int_int, e_isi_int_bool, e_isi_int_tuple, e_isi_int_list, e_isi_int_str, e_isn_int, e_isnn_int, e_isi_str_int, e_isi_str_bool, e_isi_str_tuple, e_isi_str_list, e_isi_str_str, e_isn_str, e_isnn_str, e_isi_bl_int, e_isi_bl_bool, e_isi_bl_tuple, e_isi_bl_list, e_isi_bl_str, e_isn_bl, e_isnn_bl, e_isi_non_int, e_isi_non_bool, e_isi_non_tuple, e_isi_non_list, e_isi_non_str, e_isn_non, e_isnn_non, e_isi_lst_int, e_isi_lst_bool, e_isi_lst_tuple, e_isi_lst_list, e_isi_lst_str, e_isn_lst, e_isnn_lst, e_isi_tup_int, e_isi_tup_bool, e_isi_tup_tuple, e_isi_tup_list, e_isi_tup_str, e_isn_tup, e_isnn_tup, e_isi_scr_int, e_isi_scr_bool, e_isi_scr_tuple, e_isi_scr_list, e_isi_scr_str, e_isn_scr, e_isnn_scr, e_isb, e_neb, e_eqb, e_eqs, e_nes, e_adds, e_muls, e_lens, e_ixz, e_slz, e_itz, e_inz, e_ninz, e_all, e_intz, e_meth, e_meth1, e_raise, e_thnx, List.getElem?_cons_zero, List.getElem?_cons_succ, List.set_cons_zero, List.set_cons_succ, List.length_cons, List.length_nil, Option.map_some, Option.bind_some, List.map_cons, List.map_nil, List.cons_append, List.nil_append, ↓reduceIte, eq_self, Bool.false_eq_true, Bool.true_eq_false, Bool.not_true, Bool.not_false, decide_true, decide_false, endF, Int.reduceEq, Int.reduceLT, Int.reduceLE, Int.reduceNeg, Nat.reduceAdd, Nat.reduceLT, Nat.reduceLeDiff, Int.reduceToNat, Int.reduceSub, Int.reduceAdd, Int.reduceMul, hs, raiseX, shOk, shInt, pickL, hp, hp1, decide_true, and_self, Bool.and_self]
  rfl
end K00

namespace K00
open PySem PySem.Spec PyProof.Rows L2 Evl Dl
theorem tC_bt : tC "BadText" "BadText" = some true := by decide +kernel
theorem tI_f : tI "BadText" "Fault" = true := by decide +kernel
theorem tI_v : tI "BadText" "ValueError" = true := by decide +kernel
theorem tI_l : tI "BadText" "BadLine" = false := by decide +kernel
theorem tI_n : tI "BadText" "BadName" = false := by decide +kernel
theorem tI_m : tI "BadText" "TooMany" = false := by decide +kernel
def rdF (a dx : Addr) (f : Str) : Option (Option Sl) → Option Res
  | some (some (.xc a' dx' _ fs)) => if a' = a ∧ dx' = dx then (fs.lookup f).map (.ok false) else none
  | _ => none
theorem e_fld {i : Nat} {a dx : Addr} {f : Str} {env : Ev} : fldG i a dx f env = rdF a dx f (env[i]?) := by
  unfold fldG rdF; generalize env[i]? = z; cases z with | none => rfl | some z => cases z with | none => rfl | some z => cases z <;> rfl
theorem e_fld1 {a dx : Addr} {f c : Str} {fs : List (Str × Dt)} : rdF a dx f (some (some (.xc a dx c fs))) = (fs.lookup f).map (.ok false) := if_pos ⟨rfl, rfl⟩
def rdX (a dx : Addr) (b : Bool) : Option (Option Sl) → Option Res
  | some (some (.xc a' dx' _ fs)) => if a' = a ∧ dx' = dx then okB b else none
  | _ => none
theorem e_isx {i : Nat} {a dx : Addr} {b : Bool} {env : Ev} : isxG i a dx b env = rdX a dx b (env[i]?) := by
  unfold isxG rdX; generalize env[i]? = z; cases z with | none => rfl | some z => cases z with | none => rfl | some z => cases z <;> rfl
theorem e_isx1 {a dx : Addr} {b : Bool} {c : Str} {fs : List (Str × Dt)} : rdX a dx b (some (some (.xc a dx c fs))) = some (.ok false (.bl b)) := if_pos ⟨rfl, rfl⟩
noncomputable def tryX (cl : Str → Option Bool) (i : Nat) (h : Addr → Addr → Str → Ev → Option SRes) : Option SRes → Option SRes
  | some (.ex env' c fs) => match cl c with
    | some true => pick fun a dx => (h a dx c (env'.set i (some (.xc a dx c fs)))).bind (wipeS i)
    | some false => some (.ex env' c fs)
    | none => none
  | r => r
theorem e_try {cl : Str → Option Bool} {i : Nat} {g : Ev → Option SRes} {h : Addr → Addr → Str → Ev → Option SRes} {env : Ev} : tryG cl i g h env = tryX cl i h (g env) := by
  unfold tryG tryX
  rfl
theorem e_tryr {cl : Str → Option Bool} {i : Nat} {h : Addr → Addr → Str → Ev → Option SRes} {fl : Bool} {d : Dt} : tryX cl i h (some (.rt fl d)) = some (.rt fl d) := id rfl
theorem lk_place {p : Dt} : List.lookup ("place" : Str) [(("place" : Str), p)] = some p := by rw [List.lookup_cons, beq_self_eq_true]
theorem says_t : scD F__law_says [.bl true, .bl true] = some (.ok false (.bl true)) := e_sc says_ok rfl
theorem says_b {b : Bool} : scD F__law_says [.bl b, .bl b] = some (.ok false (.bl true)) := e_sc says_ok rfl
theorem asked_ok (z : Str) (p : Int) (hz : z.length ≤ 1000) (h0 : 0 ≤ p) (h1 : p < 1000000) : F__law_asked [.str z, .int p] = some (.ok false (.bl true)) := by
  have s1 : scD F__law_is_written [.str z] = some (.ok false (.bl (wholeB z.cps.toList))) := e_sc (law_is_written_ok z hz) rfl
  have s2 : scD F_is_whole [.str z] = some (.ok false (.bl (wholeB z.cps.toList))) := e_sc (is_whole_ok z hz) rfl
  have s3 : scD F_is_name [.str z] = some (.ok false (.bl (nameB z.cps.toList))) := e_sc (is_name_ok z hz) rfl
  have s4 : scD F__law_is_name [.str z] = some (.ok false (.bl (nameB z.cps.toList))) := e_sc (law_is_name_ok z hz) rfl
  have s5 : ∀ x, scD F__law_is_whole [.int x] = some (.ok false (.bl true)) := fun x => e_sc is_whole_int rfl
  show endF (g__law_asked F__law_is_written F__law_says F_is_whole F_is_name F__law_is_name F_read_whole F__law_number F__law_is_whole [some (.sh (.str z)), some (.sh (.int p)), none, none, none]) = _
  unfold g__law_asked
  cases q : wholeB z.cps.toList with
  | true =>
    have s6 := read_whole_ok z (.int p) hz q
    have s7 : scD F__law_number [.str z] = some (.ok false (.int (numI z.cps.toList))) := e_sc (law_number_ok z hz q) rfl
    rw [q] at s1 s2
    simp only [e_thn, e_thnr, e_thnb, e_thnc, e_seq, e_nx, e_bk, e_ct, e_frz, e_frz0, e_frz1, e_bndS, e_bnd, e_asg, e_asgw, e_asg0, e_asgi, e_asgt, e_asgp, e_sa0, e_sa1, e_bdn, e_bdp, e_ret, e_retv, e_retd0, e_retd1, e_retn, e_if, e_if1, e_if0, e_ifi, e_drop, e_app, e_app1, e_set, e_set1, e_set2, e_for, e_for1, e_varG, e_varB, e_rdV, e_rdB, e_rdB1, e_cst, e_op2, e_op1, e_sel, e_sel1, e_sel0, e_seli, e_bG, e_and, e_or, e_not, e_chain, e_on, e_on1, e_argN, e_argC, e_cons, e_itG, e_it1, e_it2, e_it3, e_lc, e_lc1, e_wipe0, e_wipe1, e_sl01, e_sl10, e_sl00, e_sl11, e_isInt, e_sll, e_add, e_addl, e_sub, e_mul, e_fdiv, e_mod, e_pow, e_neg, e_lt, e_le, e_gt, e_ge, e_eq, e_ne, e_int, e_abs, e_max, e_min, e_gcd, e_len1, e_len2, e_len3, e_list1, e_tupD, e_lstD, e_ixl, e_ixt, e_ixs, e_atn, e_at0, e_at1, e_at2, e_at3, e_at4, e_at5, e_at6, e_at7, e_at8, e_at9, e_at10, e_at11, e_at12, e_at13, e_at14, e_at15, e_trui, e_trub, e_notb, e_noti, e_isi_int_int, e_isi_int_bool, e_isi_int_tuple, e_isi_int_list, e_isi_int_str, e_isn_int, e_isnn_int, e_isi_str_int, e_isi_str_bool, e_isi_str_tuple, e_isi_str_list, e_isi_str_str, e_isn_str, e_isnn_str, e_isi_bl_int, e_isi_bl_bool, e_isi_bl_tuple, e_isi_bl_list, e_isi_bl_str, e_isn_bl, e_isnn_bl, e_isi_non_int, e_isi_non_bool, e_isi_non_tuple, e_isi_non_list, e_isi_non_str, e_isn_non, e_isnn_non, e_isi_lst_int, e_isi_lst_bool, e_isi_lst_tuple, e_isi_lst_list, e_isi_lst_str, e_isn_lst, e_isnn_lst, e_isi_tup_int, e_isi_tup_bool, e_isi_tup_tuple, e_isi_tup_list, e_isi_tup_str, e_isn_tup, e_isnn_tup, e_isi_scr_int, e_isi_scr_bool, e_isi_scr_tuple, e_isi_scr_list, e_isi_scr_str, e_isn_scr, e_isnn_scr, e_isb, e_neb, e_eqb, e_eqs, e_nes, e_adds, e_muls, e_lens, e_ixz, e_slz, e_itz, e_inz, e_ninz, e_all, e_intz, e_meth, e_meth1, e_raise, e_thnx, List.getElem?_cons_zero, List.getElem?_cons_succ, List.set_cons_zero, List.set_cons_succ, List.length_cons, List.length_nil, Option.map_some, Option.bind_some, List.map_cons, List.map_nil, List.cons_append, List.nil_append, ↓reduceIte, eq_self, Bool.false_eq_true, Bool.true_eq_false, Bool.not_true, Bool.not_false, decide_true, decide_false, endF, Int.reduceEq, Int.reduceLT, Int.reduceLE, Int.reduceNeg, Nat.reduceAdd, Nat.reduceLT, Nat.reduceLeDiff, Int.reduceToNat, Int.reduceSub, Int.reduceAdd, Int.reduceMul, e_try, s1, s2, s3, s4, s5, s6, s7, says_b, e_tryr]
  | false =>
    have s6 := read_whole_ex z p hz q h0 h1
    rw [q] at s1 s2
    have fin : ∀ (G : Addr → Addr → Option SRes), (∀ a dx, G a dx = some (.rt false (.bl true))) → endF (thn (pick G) nxG) = some (.ok false (.bl true)) := fun G hG => by
      rw [pick_of hG]
      rfl
    simp only [e_seq, e_asg, e_on, e_on1, e_argC, e_argN, e_bnd, e_cons, e_varB, e_rdB, List.getElem?_cons_zero, s1, e_bndS, e_asg0, e_thn, List.set_cons_succ, List.set_cons_zero, e_if, e_or, e_not, s3, s4, says_b, e_op1, e_trub, e_sel1, e_sel0, s2, List.getElem?_cons_succ, e_if0, e_nx, e_try, e_varG, e_rdV, s6]
    unfold tryX
    simp only [bndS, Dl.thn, tC_bt]
    refine fin _ fun a dx => ?_
    simp only [List.set_cons_succ, List.set_cons_zero]
    simp only [e_thn, e_thnr, e_thnb, e_thnc, e_seq, e_nx, e_bk, e_ct, e_frz, e_frz0, e_frz1, e_bndS, e_bnd, e_asg, e_asgw, e_asg0, e_asgi, e_asgt, e_asgp, e_sa0, e_sa1, e_bdn, e_bdp, e_ret, e_retv, e_retd0, e_retd1, e_retn, e_if, e_if1, e_if0, e_ifi, e_drop, e_app, e_app1, e_set, e_set1, e_set2, e_for, e_for1, e_varG, e_varB, e_rdV, e_rdB, e_rdB1, e_cst, e_op2, e_op1, e_sel, e_sel1, e_sel0, e_seli, e_bG, e_and, e_or, e_not, e_chain, e_on, e_on1, e_argN, e_argC, e_cons, e_itG, e_it1, e_it2, e_it3, e_lc, e_lc1, e_wipe0, e_wipe1, e_sl01, e_sl10, e_sl00, e_sl11, e_isInt, e_sll, e_add, e_addl, e_sub, e_mul, e_fdiv, e_mod, e_pow, e_neg, e_lt, e_le, e_gt, e_ge, e_eq, e_ne, e_int, e_abs, e_max, e_min, e_gcd, e_len1, e_len2, e_len3, e_list1, e_tupD, e_lstD, e_ixl, e_ixt, e_ixs, e_atn, e_at0, e_at1, e_at2, e_at3, e_at4, e_at5, e_at6, e_at7, e_at8, e_at9, e_at10, e_at11, e_at12, e_at13, e_at14, e_at15, e_trui, e_trub, e_notb, e_noti, e_isi_int_int, e_isi_int_bool, e_isi_int_tuple, e_isi_int_list, e_isi_int_str, e_isn_int, e_isnn_int, e_isi_str_int, e_isi_str_bool, e_isi_str_tuple, e_isi_str_list, e_isi_str_str, e_isn_str, e_isnn_str, e_isi_bl_int, e_isi_bl_bool, e_isi_bl_tuple, e_isi_bl_list, e_isi_bl_str, e_isn_bl, e_isnn_bl, e_isi_non_int, e_isi_non_bool, e_isi_non_tuple, e_isi_non_list, e_isi_non_str, e_isn_non, e_isnn_non, e_isi_lst_int, e_isi_lst_bool, e_isi_lst_tuple, e_isi_lst_list, e_isi_lst_str, e_isn_lst, e_isnn_lst, e_isi_tup_int, e_isi_tup_bool, e_isi_tup_tuple, e_isi_tup_list, e_isi_tup_str, e_isn_tup, e_isnn_tup, e_isi_scr_int, e_isi_scr_bool, e_isi_scr_tuple, e_isi_scr_list, e_isi_scr_str, e_isn_scr, e_isnn_scr, e_isb, e_neb, e_eqb, e_eqs, e_nes, e_adds, e_muls, e_lens, e_ixz, e_slz, e_itz, e_inz, e_ninz, e_all, e_intz, e_meth, e_meth1, e_raise, e_thnx, List.getElem?_cons_zero, List.getElem?_cons_succ, List.set_cons_zero, List.set_cons_succ, List.length_cons, List.length_nil, Option.map_some, Option.bind_some, List.map_cons, List.map_nil, List.cons_append, List.nil_append, ↓reduceIte, eq_self, Bool.false_eq_true, Bool.true_eq_false, Bool.not_true, Bool.not_false, decide_true, decide_false, Int.reduceEq, Int.reduceLT, Int.reduceLE, Int.reduceNeg, Nat.reduceAdd, Nat.reduceLT, Nat.reduceLeDiff, Int.reduceToNat, Int.reduceSub, Int.reduceAdd, Int.reduceMul, e_fld, e_fld1, e_isx, e_isx1, lk_place, s5, tI_f, tI_v, tI_l, tI_n, tI_m, wipeS]
end K00

namespace K00
open PySem PySem.Spec PyProof.Rows L2 Evl Dl
def nears : List Str := (["", "-", "0", "-0", "00", "01", "-01", "+1", "--1", "1-", " 1", "1 ", "1\n", "-\n1", "1_0", "0x1", "1.0", "1e3", "10", "-7", "1,0", "a", "z9", "A", "aB", "9a", "a_b", "a b", "a\n", "\na", "abcdefgh",
  "abcdefghi", "a1234567", "a12345678", "Step", "a-b", "-a"] : List String).map Str.ofString ++ [Txt.mul "9" 199, (Str.ofString "-") ++ Txt.mul "9" 199, Txt.mul "9" 200, (Str.ofString "-") ++ Txt.mul "9" 200, Txt.mul "9" 201, (Str.ofString "-") ++ Txt.mul "9" 201, (Str.ofString "0") ++ Txt.mul "9" 199, (Str.ofString "1") ++ Txt.mul "0" 199]
theorem near_ok : F__law_near [] = some (.ok true (.lst (nears.map Dt.str))) := by
  have r1 : repOk "9" 199 = true := by decide +kernel
  have r2 : repOk "9" 200 = true := by decide +kernel
  have r3 : repOk "9" 201 = true := by decide +kernel
  have r4 : repOk "0" 199 = true := by decide +kernel
  have l1 : ("-" : Str).length + (Txt.mul "9" 199).length ≤ 16777216 := by decide +kernel
  have l2 : ("-" : Str).length + (Txt.mul "9" 200).length ≤ 16777216 := by decide +kernel
  have l3 : ("-" : Str).length + (Txt.mul "9" 201).length ≤ 16777216 := by decide +kernel
  have l4 : ("0" : Str).length + (Txt.mul "9" 199).length ≤ 16777216 := by decide +kernel
  have l5 : ("1" : Str).length + (Txt.mul "0" 199).length ≤ 16777216 := by decide +kernel
  show endF (g__law_near [none, none]) = _
  unfold g__law_near nears
  simp only [e_thn, e_thnr, e_thnb, e_thnc, e_seq, e_nx, e_bk, e_ct, e_frz, e_frz0, e_frz1, e_bndS, e_bnd, e_asg, e_asgw, e_asg0, e_asgi, e_asgt, e_asgp, e_sa0, e_sa1, e_bdn, e_bdp, e_ret, e_retv, e_retd0, e_retd1, e_retn, e_if, e_if1, e_if0, e_ifi, e_drop, e_app, e_app1, e_set, e_set1, e_set2, e_for, e_for1, e_varG, e_varB, e_rdV, e_rdB, e_rdB1, e_cst, e_op2, e_op1, e_sel, e_sel1, e_sel0, e_seli, e_bG, e_and, e_or, e_not, e_chain, e_on, e_on1, e_argN, e_argC, e_cons, e_itG, e_it1, e_it2, e_it3, e_lc, e_lc1, e_wipe0, e_wipe1, e_sl01, e_sl10, e_sl00, e_sl11, e_isInt, e_sll, e_add, e_addl, e_sub, e_mul, e_fdiv, e_mod, e_pow, e_neg, e_lt, e_le, e_gt, e_ge, e_eq, e_ne, e_int, e_abs, e_max, e_min, e_gcd, e_len1, e_len2, e_len3, e_list1, e_tupD, e_lstD, e_ixl, e_ixt, e_ixs, e_atn, e_at0, e_at1, e_at2, e_at3, e_at4, e_at5, e_at6, e_at7, e_at8, e_at9, e_at10, e_at11, e_at12, e_at13, e_at14, e_at15, e_trui, e_trub, e_notb, e_noti, e_isi_int_int, e_isi_int_bool, e_isi_int_tuple, e_isi_int_list, e_isi_int_str, e_isn_int, e_isnn_int, e_isi_str_int, e_isi_str_bool, e_isi_str_tuple, e_isi_str_list, e_isi_str_str, e_isn_str, e_isnn_str, e_isi_bl_int, e_isi_bl_bool, e_isi_bl_tuple, e_isi_bl_list, e_isi_bl_str, e_isn_bl, e_isnn_bl, e_isi_non_int, e_isi_non_bool, e_isi_non_tuple, e_isi_non_list, e_isi_non_str, e_isn_non, e_isnn_non, e_isi_lst_int, e_isi_lst_bool, e_isi_lst_tuple, e_isi_lst_list, e_isi_lst_str, e_isn_lst, e_isnn_lst, e_isi_tup_int, e_isi_tup_bool, e_isi_tup_tuple, e_isi_tup_list, e_isi_tup_str, e_isn_tup, e_isnn_tup, e_isi_scr_int, e_isi_scr_bool, e_isi_scr_tuple, e_isi_scr_list, e_isi_scr_str, e_isn_scr, e_isnn_scr, e_isb, e_neb, e_eqb, e_eqs, e_nes, e_adds, e_muls, e_lens, e_ixz, e_slz, e_itz, e_inz, e_ninz, e_all, e_intz, e_meth, e_meth1, e_raise, e_thnx, List.getElem?_cons_zero, List.getElem?_cons_succ, List.set_cons_zero, List.set_cons_succ, List.length_cons, List.length_nil, Option.map_some, Option.bind_some, List.map_cons, List.map_nil, List.cons_append, List.nil_append, ↓reduceIte, eq_self, Bool.false_eq_true, Bool.true_eq_false, Bool.not_true, Bool.not_false, decide_true, decide_false, endF, Int.reduceEq, Int.reduceLT, Int.reduceLE, Int.reduceNeg, Nat.reduceAdd, Nat.reduceLT, Nat.reduceLeDiff, Int.reduceToNat, Int.reduceSub, Int.reduceAdd, Int.reduceMul, loopG, r1, r2, r3, r4, l1, l2, l3, l4, l5]
theorem near_len : ∀ w ∈ nears, w.length ≤ 1000 := by decide +kernel
def strB (B : Nat) (r : Option Res) : Prop := ∃ w : Str, r = some (.ok false (.str w)) ∧ w.length ≤ B
theorem strB.sc {B : Nat} {g : List Dt → Option Res} {ds : List Dt} (h : strB B (g ds)) : strB B (scD g ds) := by
  obtain ⟨w, h1, h2⟩ := h
  exact ⟨w, e_sc h1 rfl, h2⟩
theorem atI_ok {α : Type} {l : List α} {i : Int} (h0 : 0 ≤ i) (h : i < l.length) : ∃ x, atI l i = some x ∧ x ∈ l := by
  have e : i = (i.toNat : Int) := (Int.toNat_of_nonneg h0).symm
  have hl : i.toNat < l.length := by omega
  rw [e, e_atn, List.getElem?_eq_getElem hl]
  exact ⟨_, rfl, List.getElem_mem hl⟩
theorem len1 (c : Nat) : (⟨#[c]⟩ : Str).length = 1 := rfl
abbrev SG : Str := Str.ofString " !\"#$&'()*+,-./0123456789:;<=>?@ABCDEFGHIJKLMNOPQRSTUVWXYZ[\\]^_`" ++ Str.ofString "abcdefghijklmnopqrstuvwxyz{|}~\n"
def sgc (x : Int) : Nat := SG.cps.toList.getD (x.fmod 95).toNat 0
theorem sign_ok (x : Int) : F__law_sign [.int x] = some (.ok false (.str ⟨#[sgc x]⟩)) := by
  have h1 : (Str.ofString " !\"#$&'()*+,-./0123456789:;<=>?@ABCDEFGHIJKLMNOPQRSTUVWXYZ[\\]^_`").length + (Str.ofString "abcdefghijklmnopqrstuvwxyz{|}~\n").length ≤ 16777216 := by decide +kernel
  have h2 : SG.length ≤ 16777216 := by decide +kernel
  have h3 : SG.cps.toList.length ≥ 95 := by decide +kernel
  have hm := fmod_nn (x := x) (m := 95) (by decide)
  have e : x.fmod 95 = ((x.fmod 95).toNat : Int) := (Int.toNat_of_nonneg hm.1).symm
  have hl : (x.fmod 95).toNat < SG.cps.toList.length := by omega
  have e2 : atI SG.cps.toList (x.fmod 95) = some (sgc x) := by
    rw [e, e_atn, List.getElem?_eq_getElem hl]
    unfold sgc
    rw [List.getD_eq_getElem?_getD, List.getElem?_eq_getElem hl]
    rfl
  show endF (g__law_sign [some (.sh (.int x)), none]) = _
  unfold g__law_sign
  simp only [e_thn, e_thnr, e_thnb, e_thnc, e_seq, e_nx, e_bk, e_ct, e_frz, e_frz0, e_frz1, e_bndS, e_bnd, e_asg, e_asgw, e_asg0, e_asgi, e_asgt, e_asgp, e_sa0, e_sa1, e_bdn, e_bdp, e_ret, e_retv, e_retd0, e_retd1, e_retn, e_if, e_if1, e_if0, e_ifi, e_drop, e_app, e_app1, e_set, e_set1, e_set2, e_for, e_for1, e_varG, e_varB, e_rdV, e_rdB, e_rdB1, e_cst, e_op2, e_op1, e_sel, e_sel1, e_sel0, e_seli, e_bG, e_and, e_or, e_not, e_chain, e_on, e_on1, e_argN, e_argC, e_cons, e_itG, e_it1, e_it2, e_it3, e_lc, e_lc1, e_wipe0, e_wipe1, e_sl01, e_sl10, e_sl00, e_sl11, e_isInt, e_sll, e_add, e_addl, e_sub, e_mul, e_fdiv, e_mod, e_pow, e_neg, e_lt, e_le, e_gt, e_ge, e_eq, e_ne, e_int, e_abs, e_max, e_min, e_gcd, e_len1, e_len2, e_len3, e_list1, e_tupD, e_lstD, e_ixl, e_ixt, e_ixs, e_atn, e_at0, e_at1, e_at2, e_at3, e_at4, e_at5, e_at6, e_at7, e_at8, e_at9, e_at10, e_at11, e_at12, e_at13, e_at14, e_at15, e_trui, e_trub, e_notb, e_noti, e_isi_int_int, e_isi_int_bool, e_isi_int_tuple, e_isi_int_list, e_isi_int_str, e_isn_int, e_isnn_int, e_isi_str_int, e_isi_str_bool, e_isi_str_tuple, e_isi_str_list, e_isi_str_str, e_isn_str, e_isnn_str, e_isi_bl_int, e_isi_bl_bool, e_isi_bl_tuple, e_isi_bl_list, e_isi_bl_str, e_isn_bl, e_isnn_bl, e_isi_non_int, e_isi_non_bool, e_isi_non_tuple, e_isi_non_list, e_isi_non_str, e_isn_non, e_isnn_non, e_isi_lst_int, e_isi_lst_bool, e_isi_lst_tuple, e_isi_lst_list, e_isi_lst_str, e_isn_lst, e_isnn_lst, e_isi_tup_int, e_isi_tup_bool, e_isi_tup_tuple, e_isi_tup_list, e_isi_tup_str, e_isn_tup, e_isnn_tup, e_isi_scr_int, e_isi_scr_bool, e_isi_scr_tuple, e_isi_scr_list, e_isi_scr_str, e_isn_scr, e_isnn_scr, e_isb, e_neb, e_eqb, e_eqs, e_nes, e_adds, e_muls, e_lens, e_ixz, e_slz, e_itz, e_inz, e_ninz, e_all, e_intz, e_meth, e_meth1, e_raise, e_thnx, List.getElem?_cons_zero, List.getElem?_cons_succ, List.set_cons_zero, List.set_cons_succ, List.length_cons, List.length_nil, Option.map_some, Option.bind_some, List.map_cons, List.map_nil, List.cons_append, List.nil_append, ↓reduceIte, eq_self, Bool.false_eq_true, Bool.true_eq_false, Bool.not_true, Bool.not_false, decide_true, decide_false, endF, Int.reduceEq, Int.reduceLT, Int.reduceLE, Int.reduceNeg, Nat.reduceAdd, Nat.reduceLT, Nat.reduceLeDiff, Int.reduceToNat, Int.reduceSub, Int.reduceAdd, Int.reduceMul, h1, h2, e2]
theorem asStrs_map {α : Type} (f : α → Str) (l : List α) : asStrs (l.map fun a => Dt.str (f a)) = some (l.map f) := by
  induction l with
  | nil => rfl
  | cons a l ih => show (asStrs (l.map fun a => Dt.str (f a))).map (f a :: ·) = _; rw [ih]; rfl
theorem join_one {α : Type} (f : α → Nat) (l : List α) (hl : l.length ≤ 1000) : ∃ w, joinD ("" : Str) (.lst (l.map fun a => Dt.str ⟨#[f a]⟩)) = some (.ok false (.str w)) ∧ w.length = l.length := by
  refine ⟨Txt.join "" (l.map fun a => ⟨#[f a]⟩), ?_, ?_⟩
  · show (asStrs (l.map fun a => Dt.str ((fun a => (⟨#[f a]⟩ : Str)) a))).bind _ = _
    rw [asStrs_map (fun a => (⟨#[f a]⟩ : Str))]
    show (if _ then _ else _) = _
    have : (((l.map fun a => (⟨#[f a]⟩ : Str)).map fun (y : Str) => y.length).sum) = l.length := by
      clear hl
      induction l with
      | nil => rfl
      | cons a l ih => simp only [List.map_cons, List.sum_cons, ih, List.length_cons, len1]; omega
    rw [this, if_pos]
    rw [List.length_map, show ("" : Str).length = 0 by decide +kernel]
    omega
  · rw [PySem.W.KT.join_ones _ (fun a ha => by
      obtain ⟨b, _, rfl⟩ := List.mem_map.mp ha
      rfl), List.length_map]
theorem free_ok (ns : List Int) {k many : Int} (hk : 0 ≤ k) (hm0 : 0 ≤ many) (hm : many < 1000) : strB 1000 (F__law_free [.scr ns, .int k, .int many]) := by
  obtain ⟨xs, h1, h2, _⟩ := many_at ns (k := k) (many := many) (limit := 95) hk hm0 (by omega) (by decide) (by decide)
  have lp := lc_map (envw := [some (.sh (.scr ns)), some (.sh (.int k)), some (.sh (.int many)), none, none]) (t := .nm 4) (fe := onG (scD F__law_sign) (argC (varB 4) argN))
    (F := fun d => match d with | .int x => .str ⟨#[sgc x]⟩ | d => d) (ds := xs.map Dt.int) (fun d hd => by
      obtain ⟨x, _, rfl⟩ := List.mem_map.mp hd
      have s := e_sc (sign_ok x) rfl
      refine ⟨_, e_bdn, false, ?_⟩
      simp only [e_thn, e_thnr, e_thnb, e_thnc, e_seq, e_nx, e_bk, e_ct, e_frz, e_frz0, e_frz1, e_bndS, e_bnd, e_asg, e_asgw, e_asg0, e_asgi, e_asgt, e_asgp, e_sa0, e_sa1, e_bdn, e_bdp, e_ret, e_retv, e_retd0, e_retd1, e_retn, e_if, e_if1, e_if0, e_ifi, e_drop, e_app, e_app1, e_set, e_set1, e_set2, e_for, e_for1, e_varG, e_varB, e_rdV, e_rdB, e_rdB1, e_cst, e_op2, e_op1, e_sel, e_sel1, e_sel0, e_seli, e_bG, e_and, e_or, e_not, e_chain, e_on, e_on1, e_argN, e_argC, e_cons, e_itG, e_it1, e_it2, e_it3, e_lc, e_lc1, e_wipe0, e_wipe1, e_sl01, e_sl10, e_sl00, e_sl11, e_isInt, e_sll, e_add, e_addl, e_sub, e_mul, e_fdiv, e_mod, e_pow, e_neg, e_lt, e_le, e_gt, e_ge, e_eq, e_ne, e_int, e_abs, e_max, e_min, e_gcd, e_len1, e_len2, e_len3, e_list1, e_tupD, e_lstD, e_ixl, e_ixt, e_ixs, e_atn, e_at0, e_at1, e_at2, e_at3, e_at4, e_at5, e_at6, e_at7, e_at8, e_at9, e_at10, e_at11, e_at12, e_at13, e_at14, e_at15, e_trui, e_trub, e_notb, e_noti, e_isi_int_int, e_isi_int_bool, e_isi_int_tuple, e_isi_int_list, e_isi_int_str, e_isn_int, e_isnn_int, e_isi_str_int, e_isi_str_bool, e_isi_str_tuple, e_isi_str_list, e_isi_str_str, e_isn_str, e_isnn_str, e_isi_bl_int, e_isi_bl_bool, e_isi_bl_tuple, e_isi_bl_list, e_isi_bl_str, e_isn_bl, e_isnn_bl, e_isi_non_int, e_isi_non_bool, e_isi_non_tuple, e_isi_non_list, e_isi_non_str, e_isn_non, e_isnn_non, e_isi_lst_int, e_isi_lst_bool, e_isi_lst_tuple, e_isi_lst_list, e_isi_lst_str, e_isn_lst, e_isnn_lst, e_isi_tup_int, e_isi_tup_bool, e_isi_tup_tuple, e_isi_tup_list, e_isi_tup_str, e_isn_tup, e_isnn_tup, e_isi_scr_int, e_isi_scr_bool, e_isi_scr_tuple, e_isi_scr_list, e_isi_scr_str, e_isn_scr, e_isnn_scr, e_isb, e_neb, e_eqb, e_eqs, e_nes, e_adds, e_muls, e_lens, e_ixz, e_slz, e_itz, e_inz, e_ninz, e_all, e_intz, e_meth, e_meth1, e_raise, e_thnx, List.getElem?_cons_zero, List.getElem?_cons_succ, List.set_cons_zero, List.set_cons_succ, List.length_cons, List.length_nil, Option.map_some, Option.bind_some, List.map_cons, List.map_nil, List.cons_append, List.nil_append, ↓reduceIte, eq_self, Bool.false_eq_true, Bool.true_eq_false, Bool.not_true, Bool.not_false, decide_true, decide_false, endF, Int.reduceEq, Int.reduceLT, Int.reduceLE, Int.reduceNeg, Nat.reduceAdd, Nat.reduceLT, Nat.reduceLeDiff, Int.reduceToNat, Int.reduceSub, Int.reduceAdd, Int.reduceMul, s])
  rw [List.map_map] at lp
  have lp' : lcL [some (.sh (.scr ns)), some (.sh (.int k)), some (.sh (.int many)), none, none] (.nm 4) (bG true) (onG (scD F__law_sign) (argC (varB 4) argN)) (xs.map Dt.int) = some (xs.map fun x => Dt.str ⟨#[sgc x]⟩) := lp
  obtain ⟨w, j1, j2⟩ := join_one sgc xs (by omega)
  refine ⟨w, ?_, by omega⟩
  have hl : ((xs.map fun x => Dt.str ⟨#[sgc x]⟩).length ≤ 16777216) = True := eq_true (by rw [List.length_map]; omega)
  show endF (g__law_free F__law_many F__law_sign [some (.sh (.scr ns)), some (.sh (.int k)), some (.sh (.int many)), none, none]) = _
  unfold g__law_free
  simp only [e_thn, e_thnr, e_thnb, e_thnc, e_seq, e_nx, e_bk, e_ct, e_frz, e_frz0, e_frz1, e_bndS, e_bnd, e_asg, e_asgw, e_asg0, e_asgi, e_asgt, e_asgp, e_sa0, e_sa1, e_bdn, e_bdp, e_ret, e_retv, e_retd0, e_retd1, e_retn, e_if, e_if1, e_if0, e_ifi, e_drop, e_app, e_app1, e_set, e_set1, e_set2, e_for, e_for1, e_varG, e_varB, e_rdV, e_rdB, e_rdB1, e_cst, e_op2, e_op1, e_sel, e_sel1, e_sel0, e_seli, e_bG, e_and, e_or, e_not, e_chain, e_on, e_on1, e_argN, e_argC, e_cons, e_itG, e_it1, e_it2, e_it3, e_lc, e_lc1, e_wipe0, e_wipe1, e_sl01, e_sl10, e_sl00, e_sl11, e_isInt, e_sll, e_add, e_addl, e_sub, e_mul, e_fdiv, e_mod, e_pow, e_neg, e_lt, e_le, e_gt, e_ge, e_eq, e_ne, e_int, e_abs, e_max, e_min, e_gcd, e_len1, e_len2, e_len3, e_list1, e_tupD, e_lstD, e_ixl, e_ixt, e_ixs, e_atn, e_at0, e_at1, e_at2, e_at3, e_at4, e_at5, e_at6, e_at7, e_at8, e_at9, e_at10, e_at11, e_at12, e_at13, e_at14, e_at15, e_trui, e_trub, e_notb, e_noti, e_isi_int_int, e_isi_int_bool, e_isi_int_tuple, e_isi_int_list, e_isi_int_str, e_isn_int, e_isnn_int, e_isi_str_int, e_isi_str_bool, e_isi_str_tuple, e_isi_str_list, e_isi_str_str, e_isn_str, e_isnn_str, e_isi_bl_int, e_isi_bl_bool, e_isi_bl_tuple, e_isi_bl_list, e_isi_bl_str, e_isn_bl, e_isnn_bl, e_isi_non_int, e_isi_non_bool, e_isi_non_tuple, e_isi_non_list, e_isi_non_str, e_isn_non, e_isnn_non, e_isi_lst_int, e_isi_lst_bool, e_isi_lst_tuple, e_isi_lst_list, e_isi_lst_str, e_isn_lst, e_isnn_lst, e_isi_tup_int, e_isi_tup_bool, e_isi_tup_tuple, e_isi_tup_list, e_isi_tup_str, e_isn_tup, e_isnn_tup, e_isi_scr_int, e_isi_scr_bool, e_isi_scr_tuple, e_isi_scr_list, e_isi_scr_str, e_isn_scr, e_isnn_scr, e_isb, e_neb, e_eqb, e_eqs, e_nes, e_adds, e_muls, e_lens, e_ixz, e_slz, e_itz, e_inz, e_ninz, e_all, e_intz, e_meth, e_meth1, e_raise, e_thnx, List.getElem?_cons_zero, List.getElem?_cons_succ, List.set_cons_zero, List.set_cons_succ, List.length_cons, List.length_nil, Option.map_some, Option.bind_some, List.map_cons, List.map_nil, List.cons_append, List.nil_append, ↓reduceIte, eq_self, Bool.false_eq_true, Bool.true_eq_false, Bool.not_true, Bool.not_false, decide_true, decide_false, endF, Int.reduceEq, Int.reduceLT, Int.reduceLE, Int.reduceNeg, Nat.reduceAdd, Nat.reduceLT, Nat.reduceLeDiff, Int.reduceToNat, Int.reduceSub, Int.reduceAdd, Int.reduceMul, h1, lp', hl, j1]
def namBody : Ev → Option SRes := (seqG (ifG (op2G eqD (varB 5) (cstG (.int 0))) (seqG (asgG (.nm 4) (op2G ixD (cstG (.str "abcdefghijklmnopqrstuvwxyz")) (op2G modD (onG intD (argC (op2G ixD (varB 3) (cstG (.int 0))) argN)) (cstG (.int 26)))))
  nxG) (seqG (asgG (.nm 4) (op2G addD (varB 4) (op2G ixD (cstG (.str "abcdefghijklmnopqrstuvwxyz0123456789")) (op2G modD (onG intD (argC (op2G ixD (varB 3) (varB 5)) argN)) (cstG (.int 36))))))
  nxG))
  nxG)
theorem named_ok (ns : List Int) {k many : Int} (hk : 0 ≤ k) (hm0 : 0 ≤ many) (hm : many < 250) : strB 300 (F__law_named [.scr ns, .int k, .int many]) := by
  obtain ⟨xs, h1, h2, _⟩ := many_at ns (k := k) (many := many) (limit := 95) hk hm0 (by omega) (by decide) (by decide)
  obtain ⟨e, l1, w, o5, rfl, hw⟩ := over_nx (loop_inv (t := .nm 5) (g := namBody) (J := fun e => ∃ (w : Str) (o5 : Option Sl), e = [some (.sh (.scr ns)), some (.sh (.int k)), some (.sh (.int many)), some (.ow (xs.map Dt.int)), some (.sh (.str w)), o5] ∧ w.length ≤ many.toNat)
    (fun i e => ∃ (w : Str) (o5 : Option Sl), e = [some (.sh (.scr ns)), some (.sh (.int k)), some (.sh (.int many)), some (.ow (xs.map Dt.int)), some (.sh (.str w)), o5] ∧ w.length ≤ i)
    (rngD 0 many.toNat) 0 [some (.sh (.scr ns)), some (.sh (.int k)), some (.sh (.int many)), some (.ow (xs.map Dt.int)), some (.sh (.str "")), none]
    ⟨"", none, rfl, Nat.zero_le _⟩ (fun i d e hk hI => by
      obtain ⟨w, o5, rfl, h5⟩ := hI
      obtain ⟨hk2, rfl⟩ := rng_get hk
      refine ⟨_, e_bdn, ?_⟩
      simp only [List.set_cons_succ, List.set_cons_zero]
      have fin : ∃ w' : Str, namBody [some (.sh (.scr ns)), some (.sh (.int k)), some (.sh (.int many)), some (.ow (xs.map Dt.int)), some (.sh (.str w)), some (.sh (.int (0 + (i : Int))))] = some (.nx [some (.sh (.scr ns)), some (.sh (.int k)), some (.sh (.int many)), some (.ow (xs.map Dt.int)), some (.sh (.str w')), some (.sh (.int (0 + (i : Int))))]) ∧ w'.length ≤ w.length + 1 := by
        rw [Int.zero_add]
        have hx : i < xs.length := by omega
        have ex : (xs.map Dt.int)[i]? = some (.int xs[i]) := by rw [List.getElem?_map, List.getElem?_eq_getElem hx]; rfl
        have ex0 : (xs.map Dt.int)[0]? = some (.int xs[0]) := by rw [List.getElem?_map, List.getElem?_eq_getElem (show 0 < xs.length by omega)]; rfl
        unfold namBody
        by_cases q : i = 0
        · have q1 : ((i : Int) = 0) = True := eq_true (by omega)
          have hm := fmod_nn (x := xs[0]) (m := 26) (by decide)
          obtain ⟨c, hc, _⟩ := atI_ok (l := (Str.ofString "abcdefghijklmnopqrstuvwxyz").cps.toList) hm.1 (by
            have : (Str.ofString "abcdefghijklmnopqrstuvwxyz").cps.toList.length = 26 := by decide +kernel
            omega)
          have hl : (Str.ofString "abcdefghijklmnopqrstuvwxyz").length ≤ 16777216 := by decide +kernel
          refine ⟨⟨#[c]⟩, ?_, by rw [len1]; omega⟩
          simp only [e_thn, e_thnr, e_thnb, e_thnc, e_seq, e_nx, e_bk, e_ct, e_frz, e_frz0, e_frz1, e_bndS, e_bnd, e_asg, e_asgw, e_asg0, e_asgi, e_asgt, e_asgp, e_sa0, e_sa1, e_bdn, e_bdp, e_ret, e_retv, e_retd0, e_retd1, e_retn, e_if, e_if1, e_if0, e_ifi, e_drop, e_app, e_app1, e_set, e_set1, e_set2, e_for, e_for1, e_varG, e_varB, e_rdV, e_rdB, e_rdB1, e_cst, e_op2, e_op1, e_sel, e_sel1, e_sel0, e_seli, e_bG, e_and, e_or, e_not, e_chain, e_on, e_on1, e_argN, e_argC, e_cons, e_itG, e_it1, e_it2, e_it3, e_lc, e_lc1, e_wipe0, e_wipe1, e_sl01, e_sl10, e_sl00, e_sl11, e_isInt, e_sll, e_add, e_addl, e_sub, e_mul, e_fdiv, e_mod, e_pow, e_neg, e_lt, e_le, e_gt, e_ge, e_eq, e_ne, e_int, e_abs, e_max, e_min, e_gcd, e_len1, e_len2, e_len3, e_list1, e_tupD, e_lstD, e_ixl, e_ixt, e_ixs, e_atn, e_at0, e_at1, e_at2, e_at3, e_at4, e_at5, e_at6, e_at7, e_at8, e_at9, e_at10, e_at11, e_at12, e_at13, e_at14, e_at15, e_trui, e_trub, e_notb, e_noti, e_isi_int_int, e_isi_int_bool, e_isi_int_tuple, e_isi_int_list, e_isi_int_str, e_isn_int, e_isnn_int, e_isi_str_int, e_isi_str_bool, e_isi_str_tuple, e_isi_str_list, e_isi_str_str, e_isn_str, e_isnn_str, e_isi_bl_int, e_isi_bl_bool, e_isi_bl_tuple, e_isi_bl_list, e_isi_bl_str, e_isn_bl, e_isnn_bl, e_isi_non_int, e_isi_non_bool, e_isi_non_tuple, e_isi_non_list, e_isi_non_str, e_isn_non, e_isnn_non, e_isi_lst_int, e_isi_lst_bool, e_isi_lst_tuple, e_isi_lst_list, e_isi_lst_str, e_isn_lst, e_isnn_lst, e_isi_tup_int, e_isi_tup_bool, e_isi_tup_tuple, e_isi_tup_list, e_isi_tup_str, e_isn_tup, e_isnn_tup, e_isi_scr_int, e_isi_scr_bool, e_isi_scr_tuple, e_isi_scr_list, e_isi_scr_str, e_isn_scr, e_isnn_scr, e_isb, e_neb, e_eqb, e_eqs, e_nes, e_adds, e_muls, e_lens, e_ixz, e_slz, e_itz, e_inz, e_ninz, e_all, e_intz, e_meth, e_meth1, e_raise, e_thnx, List.getElem?_cons_zero, List.getElem?_cons_succ, List.set_cons_zero, List.set_cons_succ, List.length_cons, List.length_nil, Option.map_some, Option.bind_some, List.map_cons, List.map_nil, List.cons_append, List.nil_append, ↓reduceIte, eq_self, Bool.false_eq_true, Bool.true_eq_false, Bool.not_true, Bool.not_false, decide_true, decide_false, endF, Int.reduceEq, Int.reduceLT, Int.reduceLE, Int.reduceNeg, Nat.reduceAdd, Nat.reduceLT, Nat.reduceLeDiff, Int.reduceToNat, Int.reduceSub, Int.reduceAdd, Int.reduceMul, q1, ex0, hc, hl]
        · have q1 : ((i : Int) = 0) = False := eq_false (by omega)
          have hm := fmod_nn (x := xs[i]) (m := 36) (by decide)
          obtain ⟨c, hc, _⟩ := atI_ok (l := (Str.ofString "abcdefghijklmnopqrstuvwxyz0123456789").cps.toList) hm.1 (by
            have : (Str.ofString "abcdefghijklmnopqrstuvwxyz0123456789").cps.toList.length = 36 := by decide +kernel
            omega)
          have hl : (Str.ofString "abcdefghijklmnopqrstuvwxyz0123456789").length ≤ 16777216 := by decide +kernel
          have hw : w.length + (⟨#[c]⟩ : Str).length ≤ 16777216 := by rw [len1]; omega
          refine ⟨w ++ ⟨#[c]⟩, ?_, by rw [PySem.Str.length_append, len1]; exact Nat.le_refl _⟩
          simp only [e_thn, e_thnr, e_thnb, e_thnc, e_seq, e_nx, e_bk, e_ct, e_frz, e_frz0, e_frz1, e_bndS, e_bnd, e_asg, e_asgw, e_asg0, e_asgi, e_asgt, e_asgp, e_sa0, e_sa1, e_bdn, e_bdp, e_ret, e_retv, e_retd0, e_retd1, e_retn, e_if, e_if1, e_if0, e_ifi, e_drop, e_app, e_app1, e_set, e_set1, e_set2, e_for, e_for1, e_varG, e_varB, e_rdV, e_rdB, e_rdB1, e_cst, e_op2, e_op1, e_sel, e_sel1, e_sel0, e_seli, e_bG, e_and, e_or, e_not, e_chain, e_on, e_on1, e_argN, e_argC, e_cons, e_itG, e_it1, e_it2, e_it3, e_lc, e_lc1, e_wipe0, e_wipe1, e_sl01, e_sl10, e_sl00, e_sl11, e_isInt, e_sll, e_add, e_addl, e_sub, e_mul, e_fdiv, e_mod, e_pow, e_neg, e_lt, e_le, e_gt, e_ge, e_eq, e_ne, e_int, e_abs, e_max, e_min, e_gcd, e_len1, e_len2, e_len3, e_list1, e_tupD, e_lstD, e_ixl, e_ixt, e_ixs, e_atn, e_at0, e_at1, e_at2, e_at3, e_at4, e_at5, e_at6, e_at7, e_at8, e_at9, e_at10, e_at11, e_at12, e_at13, e_at14, e_at15, e_trui, e_trub, e_notb, e_noti, e_isi_int_int, e_isi_int_bool, e_isi_int_tuple, e_isi_int_list, e_isi_int_str, e_isn_int, e_isnn_int, e_isi_str_int, e_isi_str_bool, e_isi_str_tuple, e_isi_str_list, e_isi_str_str, e_isn_str, e_isnn_str, e_isi_bl_int, e_isi_bl_bool, e_isi_bl_tuple, e_isi_bl_list, e_isi_bl_str, e_isn_bl, e_isnn_bl, e_isi_non_int, e_isi_non_bool, e_isi_non_tuple, e_isi_non_list, e_isi_non_str, e_isn_non, e_isnn_non, e_isi_lst_int, e_isi_lst_bool, e_isi_lst_tuple, e_isi_lst_list, e_isi_lst_str, e_isn_lst, e_isnn_lst, e_isi_tup_int, e_isi_tup_bool, e_isi_tup_tuple, e_isi_tup_list, e_isi_tup_str, e_isn_tup, e_isnn_tup, e_isi_scr_int, e_isi_scr_bool, e_isi_scr_tuple, e_isi_scr_list, e_isi_scr_str, e_isn_scr, e_isnn_scr, e_isb, e_neb, e_eqb, e_eqs, e_nes, e_adds, e_muls, e_lens, e_ixz, e_slz, e_itz, e_inz, e_ninz, e_all, e_intz, e_meth, e_meth1, e_raise, e_thnx, List.getElem?_cons_zero, List.getElem?_cons_succ, List.set_cons_zero, List.set_cons_succ, List.length_cons, List.length_nil, Option.map_some, Option.bind_some, List.map_cons, List.map_nil, List.cons_append, List.nil_append, ↓reduceIte, eq_self, Bool.false_eq_true, Bool.true_eq_false, Bool.not_true, Bool.not_false, decide_true, decide_false, endF, Int.reduceEq, Int.reduceLT, Int.reduceLE, Int.reduceNeg, Nat.reduceAdd, Nat.reduceLT, Nat.reduceLeDiff, Int.reduceToNat, Int.reduceSub, Int.reduceAdd, Int.reduceMul, q1, ex, e_atn, hc, hl, hw]
      obtain ⟨w', f1, f2⟩ := fin
      rw [f1]
      exact ⟨w', _, rfl, by omega⟩) (fun e hI => by
      rw [rng_len, Nat.zero_add] at hI
      exact hI))
  refine ⟨w, ?_, by omega⟩
  have hr := rng_int (i := many) (by omega) hm0
  show endF (g__law_named F__law_many [some (.sh (.scr ns)), some (.sh (.int k)), some (.sh (.int many)), none, none, none]) = _
  unfold g__law_named
  unfold namBody at l1
  simp only [e_thn, e_thnr, e_thnb, e_thnc, e_seq, e_nx, e_bk, e_ct, e_frz, e_frz0, e_frz1, e_bndS, e_bnd, e_asg, e_asgw, e_asg0, e_asgi, e_asgt, e_asgp, e_sa0, e_sa1, e_bdn, e_bdp, e_ret, e_retv, e_retd0, e_retd1, e_retn, e_if, e_if1, e_if0, e_ifi, e_drop, e_app, e_app1, e_set, e_set1, e_set2, e_for, e_for1, e_varG, e_varB, e_rdV, e_rdB, e_rdB1, e_cst, e_op2, e_op1, e_sel, e_sel1, e_sel0, e_seli, e_bG, e_and, e_or, e_not, e_chain, e_on, e_on1, e_argN, e_argC, e_cons, e_itG, e_it1, e_it2, e_it3, e_lc, e_lc1, e_wipe0, e_wipe1, e_sl01, e_sl10, e_sl00, e_sl11, e_isInt, e_sll, e_add, e_addl, e_sub, e_mul, e_fdiv, e_mod, e_pow, e_neg, e_lt, e_le, e_gt, e_ge, e_eq, e_ne, e_int, e_abs, e_max, e_min, e_gcd, e_len1, e_len2, e_len3, e_list1, e_tupD, e_lstD, e_ixl, e_ixt, e_ixs, e_atn, e_at0, e_at1, e_at2, e_at3, e_at4, e_at5, e_at6, e_at7, e_at8, e_at9, e_at10, e_at11, e_at12, e_at13, e_at14, e_at15, e_trui, e_trub, e_notb, e_noti, e_isi_int_int, e_isi_int_bool, e_isi_int_tuple, e_isi_int_list, e_isi_int_str, e_isn_int, e_isnn_int, e_isi_str_int, e_isi_str_bool, e_isi_str_tuple, e_isi_str_list, e_isi_str_str, e_isn_str, e_isnn_str, e_isi_bl_int, e_isi_bl_bool, e_isi_bl_tuple, e_isi_bl_list, e_isi_bl_str, e_isn_bl, e_isnn_bl, e_isi_non_int, e_isi_non_bool, e_isi_non_tuple, e_isi_non_list, e_isi_non_str, e_isn_non, e_isnn_non, e_isi_lst_int, e_isi_lst_bool, e_isi_lst_tuple, e_isi_lst_list, e_isi_lst_str, e_isn_lst, e_isnn_lst, e_isi_tup_int, e_isi_tup_bool, e_isi_tup_tuple, e_isi_tup_list, e_isi_tup_str, e_isn_tup, e_isnn_tup, e_isi_scr_int, e_isi_scr_bool, e_isi_scr_tuple, e_isi_scr_list, e_isi_scr_str, e_isn_scr, e_isnn_scr, e_isb, e_neb, e_eqb, e_eqs, e_nes, e_adds, e_muls, e_lens, e_ixz, e_slz, e_itz, e_inz, e_ninz, e_all, e_intz, e_meth, e_meth1, e_raise, e_thnx, List.getElem?_cons_zero, List.getElem?_cons_succ, List.set_cons_zero, List.set_cons_succ, List.length_cons, List.length_nil, Option.map_some, Option.bind_some, List.map_cons, List.map_nil, List.cons_append, List.nil_append, ↓reduceIte, eq_self, Bool.false_eq_true, Bool.true_eq_false, Bool.not_true, Bool.not_false, decide_true, decide_false, endF, Int.reduceEq, Int.reduceLT, Int.reduceLE, Int.reduceNeg, Nat.reduceAdd, Nat.reduceLT, Nat.reduceLeDiff, Int.reduceToNat, Int.reduceSub, Int.reduceAdd, Int.reduceMul, h1, hr, l1]
theorem cut_len (z : Str) (lo hi : Option Int) : (cutS z lo hi).length ≤ z.length := by
  unfold cutS
  rw [len_z, len_z]
  show (List.take _ (List.drop _ z.cps.toList)).length ≤ _
  rw [List.length_take, List.length_drop]
  omega
theorem app_len (a b : Str) : (a ++ b).length = a.length + b.length := PySem.Str.length_append a b
theorem int_at {xs : List Int} {i : Nat} (h : i < xs.length) : (xs.map Dt.int)[i]? = some (.int xs[i]) := by rw [List.getElem?_map, List.getElem?_eq_getElem h]; rfl
theorem changed_ok (w : Str) (hw : w.length ≤ 300) (xs : List Int) (hx : xs.length = 8) : strB 1000 (F__law_changed [.str w, .lst (xs.map Dt.int)]) := by
  have hl : (w.length ≤ 16777216) = True := eq_true (by omega)
  have s : scD F__law_sign [.int xs[4]] = some (.ok false (.str ⟨#[sgc xs[4]]⟩)) := e_sc (sign_ok _) rfl
  have x2 := int_at (xs := xs) (i := 2) (by omega)
  have x3 := int_at (xs := xs) (i := 3) (by omega)
  have x4 := int_at (xs := xs) (i := 4) (by omega)
  have nz : ((w.length : Int) + 1 = 0) = False := eq_false (by omega)
  generalize ea : (xs[3] : Int).fmod ((w.length : Int) + 1) = a
  generalize ew : (xs[2] : Int).fmod 6 = y
  have b1 := cut_len w none (some a)
  have b2 := cut_len w (some (a + 1)) none
  have b3 := cut_len w (some a) (some (a + 1))
  have b4 := cut_len w (some a) none
  show strB 1000 (endF (g__law_changed F__law_sign [some (.sh (.str w)), some (.sh (.lst (xs.map Dt.int))), none, none, none]))
  unfold g__law_changed
  by_cases y1 : y = 1
  · have c1 : (cutS w none (some a)).length + (⟨#[sgc xs[4]]⟩ : Str).length ≤ 16777216 := by rw [len1]; omega
    have c2 : (cutS w none (some a) ++ (⟨#[sgc xs[4]]⟩ : Str)).length + (cutS w (some (a + 1)) none).length ≤ 16777216 := by rw [app_len, len1]; omega
    refine ⟨cutS w none (some a) ++ ⟨#[sgc xs[4]]⟩ ++ cutS w (some (a + 1)) none, ?_, by rw [app_len, app_len, len1]; omega⟩
    have y1' := eq_true y1
    simp only [e_thn, e_thnr, e_thnb, e_thnc, e_seq, e_nx, e_bk, e_ct, e_frz, e_frz0, e_frz1, e_bndS, e_bnd, e_asg, e_asgw, e_asg0, e_asgi, e_asgt, e_asgp, e_sa0, e_sa1, e_bdn, e_bdp, e_ret, e_retv, e_retd0, e_retd1, e_retn, e_if, e_if1, e_if0, e_ifi, e_drop, e_app, e_app1, e_set, e_set1, e_set2, e_for, e_for1, e_varG, e_varB, e_rdV, e_rdB, e_rdB1, e_cst, e_op2, e_op1, e_sel, e_sel1, e_sel0, e_seli, e_bG, e_and, e_or, e_not, e_chain, e_on, e_on1, e_argN, e_argC, e_cons, e_itG, e_it1, e_it2, e_it3, e_lc, e_lc1, e_wipe0, e_wipe1, e_sl01, e_sl10, e_sl00, e_sl11, e_isInt, e_sll, e_add, e_addl, e_sub, e_mul, e_fdiv, e_mod, e_pow, e_neg, e_lt, e_le, e_gt, e_ge, e_eq, e_ne, e_int, e_abs, e_max, e_min, e_gcd, e_len1, e_len2, e_len3, e_list1, e_tupD, e_lstD, e_ixl, e_ixt, e_ixs, e_atn, e_at0, e_at1, e_at2, e_at3, e_at4, e_at5, e_at6, e_at7, e_at8, e_at9, e_at10, e_at11, e_at12, e_at13, e_at14, e_at15, e_trui, e_trub, e_notb, e_noti, e_isi_int_int, e_isi_int_bool, e_isi_int_tuple, e_isi_int_list, e_isi_int_str, e_isn_int, e_isnn_int, e_isi_str_int, e_isi_str_bool, e_isi_str_tuple, e_isi_str_list, e_isi_str_str, e_isn_str, e_isnn_str, e_isi_bl_int, e_isi_bl_bool, e_isi_bl_tuple, e_isi_bl_list, e_isi_bl_str, e_isn_bl, e_isnn_bl, e_isi_non_int, e_isi_non_bool, e_isi_non_tuple, e_isi_non_list, e_isi_non_str, e_isn_non, e_isnn_non, e_isi_lst_int, e_isi_lst_bool, e_isi_lst_tuple, e_isi_lst_list, e_isi_lst_str, e_isn_lst, e_isnn_lst, e_isi_tup_int, e_isi_tup_bool, e_isi_tup_tuple, e_isi_tup_list, e_isi_tup_str, e_isn_tup, e_isnn_tup, e_isi_scr_int, e_isi_scr_bool, e_isi_scr_tuple, e_isi_scr_list, e_isi_scr_str, e_isn_scr, e_isnn_scr, e_isb, e_neb, e_eqb, e_eqs, e_nes, e_adds, e_muls, e_lens, e_ixz, e_slz, e_itz, e_inz, e_ninz, e_all, e_intz, e_meth, e_meth1, e_raise, e_thnx, List.getElem?_cons_zero, List.getElem?_cons_succ, List.set_cons_zero, List.set_cons_succ, List.length_cons, List.length_nil, Option.map_some, Option.bind_some, List.map_cons, List.map_nil, List.cons_append, List.nil_append, ↓reduceIte, eq_self, Bool.false_eq_true, Bool.true_eq_false, Bool.not_true, Bool.not_false, decide_true, decide_false, endF, Int.reduceEq, Int.reduceLT, Int.reduceLE, Int.reduceNeg, Nat.reduceAdd, Nat.reduceLT, Nat.reduceLeDiff, Int.reduceToNat, Int.reduceSub, Int.reduceAdd, Int.reduceMul, hl, nz, x2, x3, x4, s, ea, ew, y1', c1, c2]
  · have y1' := eq_false y1
    by_cases y2 : y = 2
    · have c1 : (cutS w none (some a)).length + (cutS w (some (a + 1)) none).length ≤ 16777216 := by omega
      refine ⟨cutS w none (some a) ++ cutS w (some (a + 1)) none, ?_, by rw [app_len]; omega⟩
      have y2' := eq_true y2
      simp only [e_thn, e_thnr, e_thnb, e_thnc, e_seq, e_nx, e_bk, e_ct, e_frz, e_frz0, e_frz1, e_bndS, e_bnd, e_asg, e_asgw, e_asg0, e_asgi, e_asgt, e_asgp, e_sa0, e_sa1, e_bdn, e_bdp, e_ret, e_retv, e_retd0, e_retd1, e_retn, e_if, e_if1, e_if0, e_ifi, e_drop, e_app, e_app1, e_set, e_set1, e_set2, e_for, e_for1, e_varG, e_varB, e_rdV, e_rdB, e_rdB1, e_cst, e_op2, e_op1, e_sel, e_sel1, e_sel0, e_seli, e_bG, e_and, e_or, e_not, e_chain, e_on, e_on1, e_argN, e_argC, e_cons, e_itG, e_it1, e_it2, e_it3, e_lc, e_lc1, e_wipe0, e_wipe1, e_sl01, e_sl10, e_sl00, e_sl11, e_isInt, e_sll, e_add, e_addl, e_sub, e_mul, e_fdiv, e_mod, e_pow, e_neg, e_lt, e_le, e_gt, e_ge, e_eq, e_ne, e_int, e_abs, e_max, e_min, e_gcd, e_len1, e_len2, e_len3, e_list1, e_tupD, e_lstD, e_ixl, e_ixt, e_ixs, e_atn, e_at0, e_at1, e_at2, e_at3, e_at4, e_at5, e_at6, e_at7, e_at8, e_at9, e_at10, e_at11, e_at12, e_at13, e_at14, e_at15, e_trui, e_trub, e_notb, e_noti, e_isi_int_int, e_isi_int_bool, e_isi_int_tuple, e_isi_int_list, e_isi_int_str, e_isn_int, e_isnn_int, e_isi_str_int, e_isi_str_bool, e_isi_str_tuple, e_isi_str_list, e_isi_str_str, e_isn_str, e_isnn_str, e_isi_bl_int, e_isi_bl_bool, e_isi_bl_tuple, e_isi_bl_list, e_isi_bl_str, e_isn_bl, e_isnn_bl, e_isi_non_int, e_isi_non_bool, e_isi_non_tuple, e_isi_non_list, e_isi_non_str, e_isn_non, e_isnn_non, e_isi_lst_int, e_isi_lst_bool, e_isi_lst_tuple, e_isi_lst_list, e_isi_lst_str, e_isn_lst, e_isnn_lst, e_isi_tup_int, e_isi_tup_bool, e_isi_tup_tuple, e_isi_tup_list, e_isi_tup_str, e_isn_tup, e_isnn_tup, e_isi_scr_int, e_isi_scr_bool, e_isi_scr_tuple, e_isi_scr_list, e_isi_scr_str, e_isn_scr, e_isnn_scr, e_isb, e_neb, e_eqb, e_eqs, e_nes, e_adds, e_muls, e_lens, e_ixz, e_slz, e_itz, e_inz, e_ninz, e_all, e_intz, e_meth, e_meth1, e_raise, e_thnx, List.getElem?_cons_zero, List.getElem?_cons_succ, List.set_cons_zero, List.set_cons_succ, List.length_cons, List.length_nil, Option.map_some, Option.bind_some, List.map_cons, List.map_nil, List.cons_append, List.nil_append, ↓reduceIte, eq_self, Bool.false_eq_true, Bool.true_eq_false, Bool.not_true, Bool.not_false, decide_true, decide_false, endF, Int.reduceEq, Int.reduceLT, Int.reduceLE, Int.reduceNeg, Nat.reduceAdd, Nat.reduceLT, Nat.reduceLeDiff, Int.reduceToNat, Int.reduceSub, Int.reduceAdd, Int.reduceMul, hl, nz, x2, x3, x4, s, ea, ew, y1', y2', c1]
    · have y2' := eq_false y2
      by_cases y3 : y = 3
      · have c1 : (cutS w none (some a)).length + (cutS w (some a) (some (a + 1))).length ≤ 16777216 := by omega
        have c2 : (cutS w none (some a) ++ cutS w (some a) (some (a + 1))).length + (cutS w (some a) none).length ≤ 16777216 := by rw [app_len]; omega
        refine ⟨cutS w none (some a) ++ cutS w (some a) (some (a + 1)) ++ cutS w (some a) none, ?_, by rw [app_len, app_len]; omega⟩
        have y3' := eq_true y3
        simp only [e_thn, e_thnr, e_thnb, e_thnc, e_seq, e_nx, e_bk, e_ct, e_frz, e_frz0, e_frz1, e_bndS, e_bnd, e_asg, e_asgw, e_asg0, e_asgi, e_asgt, e_asgp, e_sa0, e_sa1, e_bdn, e_bdp, e_ret, e_retv, e_retd0, e_retd1, e_retn, e_if, e_if1, e_if0, e_ifi, e_drop, e_app, e_app1, e_set, e_set1, e_set2, e_for, e_for1, e_varG, e_varB, e_rdV, e_rdB, e_rdB1, e_cst, e_op2, e_op1, e_sel, e_sel1, e_sel0, e_seli, e_bG, e_and, e_or, e_not, e_chain, e_on, e_on1, e_argN, e_argC, e_cons, e_itG, e_it1, e_it2, e_it3, e_lc, e_lc1, e_wipe0, e_wipe1, e_sl01, e_sl10, e_sl00, e_sl11, e_isInt, e_sll, e_add, e_addl, e_sub, e_mul, e_fdiv, e_mod, e_pow, e_neg, e_lt, e_le, e_gt, e_ge, e_eq, e_ne, e_int, e_abs, e_max, e_min, e_gcd, e_len1, e_len2, e_len3, e_list1, e_tupD, e_lstD, e_ixl, e_ixt, e_ixs, e_atn, e_at0, e_at1, e_at2, e_at3, e_at4, e_at5, e_at6, e_at7, e_at8, e_at9, e_at10, e_at11, e_at12, e_at13, e_at14, e_at15, e_trui, e_trub, e_notb, e_noti, e_isi_int_int, e_isi_int_bool, e_isi_int_tuple, e_isi_int_list, e_isi_int_str, e_isn_int, e_isnn_int, e_isi_str_int, e_isi_str_bool, e_isi_str_tuple, e_isi_str_list, e_isi_str_str, e_isn_str, e_isnn_str, e_isi_bl_int, e_isi_bl_bool, e_isi_bl_tuple, e_isi_bl_list, e_isi_bl_str, e_isn_bl, e_isnn_bl, e_isi_non_int, e_isi_non_bool, e_isi_non_tuple, e_isi_non_list, e_isi_non_str, e_isn_non, e_isnn_non, e_isi_lst_int, e_isi_lst_bool, e_isi_lst_tuple, e_isi_lst_list, e_isi_lst_str, e_isn_lst, e_isnn_lst, e_isi_tup_int, e_isi_tup_bool, e_isi_tup_tuple, e_isi_tup_list, e_isi_tup_str, e_isn_tup, e_isnn_tup, e_isi_scr_int, e_isi_scr_bool, e_isi_scr_tuple, e_isi_scr_list, e_isi_scr_str, e_isn_scr, e_isnn_scr, e_isb, e_neb, e_eqb, e_eqs, e_nes, e_adds, e_muls, e_lens, e_ixz, e_slz, e_itz, e_inz, e_ninz, e_all, e_intz, e_meth, e_meth1, e_raise, e_thnx, List.getElem?_cons_zero, List.getElem?_cons_succ, List.set_cons_zero, List.set_cons_succ, List.length_cons, List.length_nil, Option.map_some, Option.bind_some, List.map_cons, List.map_nil, List.cons_append, List.nil_append, ↓reduceIte, eq_self, Bool.false_eq_true, Bool.true_eq_false, Bool.not_true, Bool.not_false, decide_true, decide_false, endF, Int.reduceEq, Int.reduceLT, Int.reduceLE, Int.reduceNeg, Nat.reduceAdd, Nat.reduceLT, Nat.reduceLeDiff, Int.reduceToNat, Int.reduceSub, Int.reduceAdd, Int.reduceMul, hl, nz, x2, x3, x4, s, ea, ew, y1', y2', y3', c1, c2]
      · have y3' := eq_false y3
        by_cases y4 : y = 4
        · have c1 : (cutS w none (some a)).length + (⟨#[sgc xs[4]]⟩ : Str).length ≤ 16777216 := by rw [len1]; omega
          have c2 : (cutS w none (some a) ++ (⟨#[sgc xs[4]]⟩ : Str)).length + (cutS w (some a) none).length ≤ 16777216 := by rw [app_len, len1]; omega
          refine ⟨cutS w none (some a) ++ ⟨#[sgc xs[4]]⟩ ++ cutS w (some a) none, ?_, by rw [app_len, app_len, len1]; omega⟩
          have y4' := eq_true y4
          simp only [e_thn, e_thnr, e_thnb, e_thnc, e_seq, e_nx, e_bk, e_ct, e_frz, e_frz0, e_frz1, e_bndS, e_bnd, e_asg, e_asgw, e_asg0, e_asgi, e_asgt, e_asgp, e_sa0, e_sa1, e_bdn, e_bdp, e_ret, e_retv, e_retd0, e_retd1, e_retn, e_if, e_if1, e_if0, e_ifi, e_drop, e_app, e_app1, e_set, e_set1, e_set2, e_for, e_for1, e_varG, e_varB, e_rdV, e_rdB, e_rdB1, e_cst, e_op2, e_op1, e_sel, e_sel1, e_sel0, e_seli, e_bG, e_and, e_or, e_not, e_chain, e_on, e_on1, e_argN, e_argC, e_cons, e_itG, e_it1, e_it2, e_it3, e_lc, e_lc1, e_wipe0, e_wipe1, e_sl01, e_sl10, e_sl00, e_sl11, e_isInt, e_sll, e_add, e_addl, e_sub, e_mul, e_fdiv, e_mod, e_pow, e_neg, e_lt, e_le, e_gt, e_ge, e_eq, e_ne, e_int, e_abs, e_max, e_min, e_gcd, e_len1, e_len2, e_len3, e_list1, e_tupD, e_lstD, e_ixl, e_ixt, e_ixs, e_atn, e_at0, e_at1, e_at2, e_at3, e_at4, e_at5, e_at6, e_at7, e_at8, e_at9, e_at10, e_at11, e_at12, e_at13, e_at14, e_at15, e_trui, e_trub, e_notb, e_noti, e_isi_int_int, e_isi_int_bool, e_isi_int_tuple, e_isi_int_list, e_isi_int_str, e_isn_int, e_isnn_int, e_isi_str_int, e_isi_str_bool, e_isi_str_tuple, e_isi_str_list, e_isi_str_str, e_isn_str, e_isnn_str, e_isi_bl_int, e_isi_bl_bool, e_isi_bl_tuple, e_isi_bl_list, e_isi_bl_str, e_isn_bl, e_isnn_bl, e_isi_non_int, e_isi_non_bool, e_isi_non_tuple, e_isi_non_list, e_isi_non_str, e_isn_non, e_isnn_non, e_isi_lst_int, e_isi_lst_bool, e_isi_lst_tuple, e_isi_lst_list, e_isi_lst_str, e_isn_lst, e_isnn_lst, e_isi_tup_int, e_isi_tup_bool, e_isi_tup_tuple, e_isi_tup_list, e_isi_tup_str, e_isn_tup, e_isnn_tup, e_isi_scr_int, e_isi_scr_bool, e_isi_scr_tuple, e_isi_scr_list, e_isi_scr_str, e_isn_scr, e_isnn_scr, e_isb, e_neb, e_eqb, e_eqs, e_nes, e_adds, e_muls, e_lens, e_ixz, e_slz, e_itz, e_inz, e_ninz, e_all, e_intz, e_meth, e_meth1, e_raise, e_thnx, List.getElem?_cons_zero, List.getElem?_cons_succ, List.set_cons_zero, List.set_cons_succ, List.length_cons, List.length_nil, Option.map_some, Option.bind_some, List.map_cons, List.map_nil, List.cons_append, List.nil_append, ↓reduceIte, eq_self, Bool.false_eq_true, Bool.true_eq_false, Bool.not_true, Bool.not_false, decide_true, decide_false, endF, Int.reduceEq, Int.reduceLT, Int.reduceLE, Int.reduceNeg, Nat.reduceAdd, Nat.reduceLT, Nat.reduceLeDiff, Int.reduceToNat, Int.reduceSub, Int.reduceAdd, Int.reduceMul, hl, nz, x2, x3, x4, s, ea, ew, y1', y2', y3', y4', c1, c2]
        · have y4' := eq_false y4
          refine ⟨w, ?_, by omega⟩
          simp only [e_thn, e_thnr, e_thnb, e_thnc, e_seq, e_nx, e_bk, e_ct, e_frz, e_frz0, e_frz1, e_bndS, e_bnd, e_asg, e_asgw, e_asg0, e_asgi, e_asgt, e_asgp, e_sa0, e_sa1, e_bdn, e_bdp, e_ret, e_retv, e_retd0, e_retd1, e_retn, e_if, e_if1, e_if0, e_ifi, e_drop, e_app, e_app1, e_set, e_set1, e_set2, e_for, e_for1, e_varG, e_varB, e_rdV, e_rdB, e_rdB1, e_cst, e_op2, e_op1, e_sel, e_sel1, e_sel0, e_seli, e_bG, e_and, e_or, e_not, e_chain, e_on, e_on1, e_argN, e_argC, e_cons, e_itG, e_it1, e_it2, e_it3, e_lc, e_lc1, e_wipe0, e_wipe1, e_sl01, e_sl10, e_sl00, e_sl11, e_isInt, e_sll, e_add, e_addl, e_sub, e_mul, e_fdiv, e_mod, e_pow, e_neg, e_lt, e_le, e_gt, e_ge, e_eq, e_ne, e_int, e_abs, e_max, e_min, e_gcd, e_len1, e_len2, e_len3, e_list1, e_tupD, e_lstD, e_ixl, e_ixt, e_ixs, e_atn, e_at0, e_at1, e_at2, e_at3, e_at4, e_at5, e_at6, e_at7, e_at8, e_at9, e_at10, e_at11, e_at12, e_at13, e_at14, e_at15, e_trui, e_trub, e_notb, e_noti, e_isi_int_int, e_isi_int_bool, e_isi_int_tuple, e_isi_int_list, e_isi_int_str, e_isn_int, e_isnn_int, e_isi_str_int, e_isi_str_bool, e_isi_str_tuple, e_isi_str_list, e_isi_str_str, e_isn_str, e_isnn_str, e_isi_bl_int, e_isi_bl_bool, e_isi_bl_tuple, e_isi_bl_list, e_isi_bl_str, e_isn_bl, e_isnn_bl, e_isi_non_int, e_isi_non_bool, e_isi_non_tuple, e_isi_non_list, e_isi_non_str, e_isn_non, e_isnn_non, e_isi_lst_int, e_isi_lst_bool, e_isi_lst_tuple, e_isi_lst_list, e_isi_lst_str, e_isn_lst, e_isnn_lst, e_isi_tup_int, e_isi_tup_bool, e_isi_tup_tuple, e_isi_tup_list, e_isi_tup_str, e_isn_tup, e_isnn_tup, e_isi_scr_int, e_isi_scr_bool, e_isi_scr_tuple, e_isi_scr_list, e_isi_scr_str, e_isn_scr, e_isnn_scr, e_isb, e_neb, e_eqb, e_eqs, e_nes, e_adds, e_muls, e_lens, e_ixz, e_slz, e_itz, e_inz, e_ninz, e_all, e_intz, e_meth, e_meth1, e_raise, e_thnx, List.getElem?_cons_zero, List.getElem?_cons_succ, List.set_cons_zero, List.set_cons_succ, List.length_cons, List.length_nil, Option.map_some, Option.bind_some, List.map_cons, List.map_nil, List.cons_append, List.nil_append, ↓reduceIte, eq_self, Bool.false_eq_true, Bool.true_eq_false, Bool.not_true, Bool.not_false, decide_true, decide_false, endF, Int.reduceEq, Int.reduceLT, Int.reduceLE, Int.reduceNeg, Nat.reduceAdd, Nat.reduceLT, Nat.reduceLeDiff, Int.reduceToNat, Int.reduceSub, Int.reduceAdd, Int.reduceMul, hl, nz, x2, x3, x4, s, ea, ew, y1', y2', y3', y4']
def figRest : Ev → Option SRes :=
  (seqG (asgG (.nm 5) (methG joinD (cstG (.str "")) (lcG [6, 7] (itG (varB 4)) (.nm 7) (bG true) (op2G ixD (cstG (.str "0123456789")) (varB 7)))))
  (seqG (ifG (op2G eqD (op2G modD (onG intD (argC (op2G fdivD (op2G ixD (varB 3) (cstG (.int 5))) (cstG (.int 5))) argN)) (cstG (.int 3))) (cstG (.int 0))) (seqG (asgG (.nm 5) (op2G addD (cstG (.str "-")) (varB 5)))
  nxG) nxG)
  (seqG (retV 5)
  nxG)))
theorem fig_rest (d0 d1 d2 : Dt) (xs ys : List Int) (hx : xs.length = 8) (hy : ∀ y ∈ ys, 0 ≤ y ∧ y < 10) (hl : ys.length ≤ 250) : strB 300 (endF (figRest [some (.sh d0), some (.sh d1), some (.sh d2), some (.sh (.lst (xs.map Dt.int))), some (.ow (ys.map Dt.int)), none, none, none])) := by
  have x5 := int_at (xs := xs) (i := 5) (by omega)
  have hd : divOk 5 = true := divOk_31 (by decide) (by decide)
  have hF : (Str.ofString "0123456789").length ≤ 16777216 := by decide +kernel
  have hF2 : (Str.ofString "0123456789").cps.toList.length = 10 := by decide +kernel
  have lp := lc_map (envw := [some (.sh d0), some (.sh d1), some (.sh d2), some (.sh (.lst (xs.map Dt.int))), some (.ow (ys.map Dt.int)), none, none, none]) (t := .nm 7) (fe := op2G ixD (cstG (.str "0123456789")) (varB 7))
    (F := fun d => match d with | .int x => .str ⟨#[(Str.ofString "0123456789").cps.toList.getD x.toNat 0]⟩ | d => d) (ds := ys.map Dt.int) (fun d hd => by
      obtain ⟨x, hx, rfl⟩ := List.mem_map.mp hd
      have hb := hy x hx
      have e : x = (x.toNat : Int) := (Int.toNat_of_nonneg hb.1).symm
      have hlt : x.toNat < (Str.ofString "0123456789").cps.toList.length := by omega
      have e2 : atI (Str.ofString "0123456789").cps.toList x = some ((Str.ofString "0123456789").cps.toList.getD x.toNat 0) := by
        rw [e, e_atn, List.getElem?_eq_getElem hlt]
        simp only [Int.toNat_natCast]
        rw [List.getD_eq_getElem?_getD, List.getElem?_eq_getElem hlt]
        rfl
      refine ⟨_, e_bdn, false, ?_⟩
      simp only [e_thn, e_thnr, e_thnb, e_thnc, e_seq, e_nx, e_bk, e_ct, e_frz, e_frz0, e_frz1, e_bndS, e_bnd, e_asg, e_asgw, e_asg0, e_asgi, e_asgt, e_asgp, e_sa0, e_sa1, e_bdn, e_bdp, e_ret, e_retv, e_retd0, e_retd1, e_retn, e_if, e_if1, e_if0, e_ifi, e_drop, e_app, e_app1, e_set, e_set1, e_set2, e_for, e_for1, e_varG, e_varB, e_rdV, e_rdB, e_rdB1, e_cst, e_op2, e_op1, e_sel, e_sel1, e_sel0, e_seli, e_bG, e_and, e_or, e_not, e_chain, e_on, e_on1, e_argN, e_argC, e_cons, e_itG, e_it1, e_it2, e_it3, e_lc, e_lc1, e_wipe0, e_wipe1, e_sl01, e_sl10, e_sl00, e_sl11, e_isInt, e_sll, e_add, e_addl, e_sub, e_mul, e_fdiv, e_mod, e_pow, e_neg, e_lt, e_le, e_gt, e_ge, e_eq, e_ne, e_int, e_abs, e_max, e_min, e_gcd, e_len1, e_len2, e_len3, e_list1, e_tupD, e_lstD, e_ixl, e_ixt, e_ixs, e_atn, e_at0, e_at1, e_at2, e_at3, e_at4, e_at5, e_at6, e_at7, e_at8, e_at9, e_at10, e_at11, e_at12, e_at13, e_at14, e_at15, e_trui, e_trub, e_notb, e_noti, e_isi_int_int, e_isi_int_bool, e_isi_int_tuple, e_isi_int_list, e_isi_int_str, e_isn_int, e_isnn_int, e_isi_str_int, e_isi_str_bool, e_isi_str_tuple, e_isi_str_list, e_isi_str_str, e_isn_str, e_isnn_str, e_isi_bl_int, e_isi_bl_bool, e_isi_bl_tuple, e_isi_bl_list, e_isi_bl_str, e_isn_bl, e_isnn_bl, e_isi_non_int, e_isi_non_bool, e_isi_non_tuple, e_isi_non_list, e_isi_non_str, e_isn_non, e_isnn_non, e_isi_lst_int, e_isi_lst_bool, e_isi_lst_tuple, e_isi_lst_list, e_isi_lst_str, e_isn_lst, e_isnn_lst, e_isi_tup_int, e_isi_tup_bool, e_isi_tup_tuple, e_isi_tup_list, e_isi_tup_str, e_isn_tup, e_isnn_tup, e_isi_scr_int, e_isi_scr_bool, e_isi_scr_tuple, e_isi_scr_list, e_isi_scr_str, e_isn_scr, e_isnn_scr, e_isb, e_neb, e_eqb, e_eqs, e_nes, e_adds, e_muls, e_lens, e_ixz, e_slz, e_itz, e_inz, e_ninz, e_all, e_intz, e_meth, e_meth1, e_raise, e_thnx, List.getElem?_cons_zero, List.getElem?_cons_succ, List.set_cons_zero, List.set_cons_succ, List.length_cons, List.length_nil, Option.map_some, Option.bind_some, List.map_cons, List.map_nil, List.cons_append, List.nil_append, ↓reduceIte, eq_self, Bool.false_eq_true, Bool.true_eq_false, Bool.not_true, Bool.not_false, decide_true, decide_false, endF, Int.reduceEq, Int.reduceLT, Int.reduceLE, Int.reduceNeg, Nat.reduceAdd, Nat.reduceLT, Nat.reduceLeDiff, Int.reduceToNat, Int.reduceSub, Int.reduceAdd, Int.reduceMul, hF, e2])
  rw [List.map_map] at lp
  have lp' : lcL [some (.sh d0), some (.sh d1), some (.sh d2), some (.sh (.lst (xs.map Dt.int))), some (.ow (ys.map Dt.int)), none, none, none] (.nm 7) (bG true) (op2G ixD (cstG (.str "0123456789")) (varB 7)) (ys.map Dt.int) = some (ys.map fun x => Dt.str ⟨#[(Str.ofString "0123456789").cps.toList.getD x.toNat 0]⟩) := lp
  obtain ⟨w, j1, j2⟩ := join_one (fun x : Int => (Str.ofString "0123456789").cps.toList.getD x.toNat 0) ys (by omega)
  have hz : ((ys.map fun x => Dt.str ⟨#[(Str.ofString "0123456789").cps.toList.getD x.toNat 0]⟩).length ≤ 16777216) = True := eq_true (by rw [List.length_map]; omega)
  generalize em : (Int.fdiv xs[5] 5).fmod 3 = y
  unfold figRest
  by_cases q : y = 0
  · have q' := eq_true q
    have hs : (Str.ofString "-").length = 1 := by decide +kernel
    have c : (Str.ofString "-").length + w.length ≤ 16777216 := by omega
    refine ⟨Str.ofString "-" ++ w, ?_, by rw [app_len]; omega⟩
    simp only [e_thn, e_thnr, e_thnb, e_thnc, e_seq, e_nx, e_bk, e_ct, e_frz, e_frz0, e_frz1, e_bndS, e_bnd, e_asg, e_asgw, e_asg0, e_asgi, e_asgt, e_asgp, e_sa0, e_sa1, e_bdn, e_bdp, e_ret, e_retv, e_retd0, e_retd1, e_retn, e_if, e_if1, e_if0, e_ifi, e_drop, e_app, e_app1, e_set, e_set1, e_set2, e_for, e_for1, e_varG, e_varB, e_rdV, e_rdB, e_rdB1, e_cst, e_op2, e_op1, e_sel, e_sel1, e_sel0, e_seli, e_bG, e_and, e_or, e_not, e_chain, e_on, e_on1, e_argN, e_argC, e_cons, e_itG, e_it1, e_it2, e_it3, e_lc, e_lc1, e_wipe0, e_wipe1, e_sl01, e_sl10, e_sl00, e_sl11, e_isInt, e_sll, e_add, e_addl, e_sub, e_mul, e_fdiv, e_mod, e_pow, e_neg, e_lt, e_le, e_gt, e_ge, e_eq, e_ne, e_int, e_abs, e_max, e_min, e_gcd, e_len1, e_len2, e_len3, e_list1, e_tupD, e_lstD, e_ixl, e_ixt, e_ixs, e_atn, e_at0, e_at1, e_at2, e_at3, e_at4, e_at5, e_at6, e_at7, e_at8, e_at9, e_at10, e_at11, e_at12, e_at13, e_at14, e_at15, e_trui, e_trub, e_notb, e_noti, e_isi_int_int, e_isi_int_bool, e_isi_int_tuple, e_isi_int_list, e_isi_int_str, e_isn_int, e_isnn_int, e_isi_str_int, e_isi_str_bool, e_isi_str_tuple, e_isi_str_list, e_isi_str_str, e_isn_str, e_isnn_str, e_isi_bl_int, e_isi_bl_bool, e_isi_bl_tuple, e_isi_bl_list, e_isi_bl_str, e_isn_bl, e_isnn_bl, e_isi_non_int, e_isi_non_bool, e_isi_non_tuple, e_isi_non_list, e_isi_non_str, e_isn_non, e_isnn_non, e_isi_lst_int, e_isi_lst_bool, e_isi_lst_tuple, e_isi_lst_list, e_isi_lst_str, e_isn_lst, e_isnn_lst, e_isi_tup_int, e_isi_tup_bool, e_isi_tup_tuple, e_isi_tup_list, e_isi_tup_str, e_isn_tup, e_isnn_tup, e_isi_scr_int, e_isi_scr_bool, e_isi_scr_tuple, e_isi_scr_list, e_isi_scr_str, e_isn_scr, e_isnn_scr, e_isb, e_neb, e_eqb, e_eqs, e_nes, e_adds, e_muls, e_lens, e_ixz, e_slz, e_itz, e_inz, e_ninz, e_all, e_intz, e_meth, e_meth1, e_raise, e_thnx, List.getElem?_cons_zero, List.getElem?_cons_succ, List.set_cons_zero, List.set_cons_succ, List.length_cons, List.length_nil, Option.map_some, Option.bind_some, List.map_cons, List.map_nil, List.cons_append, List.nil_append, ↓reduceIte, eq_self, Bool.false_eq_true, Bool.true_eq_false, Bool.not_true, Bool.not_false, decide_true, decide_false, endF, Int.reduceEq, Int.reduceLT, Int.reduceLE, Int.reduceNeg, Nat.reduceAdd, Nat.reduceLT, Nat.reduceLeDiff, Int.reduceToNat, Int.reduceSub, Int.reduceAdd, Int.reduceMul, lp', hz, j1, x5, hd, em, q', c]
  · have q' := eq_false q
    refine ⟨w, ?_, by omega⟩
    simp only [e_thn, e_thnr, e_thnb, e_thnc, e_seq, e_nx, e_bk, e_ct, e_frz, e_frz0, e_frz1, e_bndS, e_bnd, e_asg, e_asgw, e_asg0, e_asgi, e_asgt, e_asgp, e_sa0, e_sa1, e_bdn, e_bdp, e_ret, e_retv, e_retd0, e_retd1, e_retn, e_if, e_if1, e_if0, e_ifi, e_drop, e_app, e_app1, e_set, e_set1, e_set2, e_for, e_for1, e_varG, e_varB, e_rdV, e_rdB, e_rdB1, e_cst, e_op2, e_op1, e_sel, e_sel1, e_sel0, e_seli, e_bG, e_and, e_or, e_not, e_chain, e_on, e_on1, e_argN, e_argC, e_cons, e_itG, e_it1, e_it2, e_it3, e_lc, e_lc1, e_wipe0, e_wipe1, e_sl01, e_sl10, e_sl00, e_sl11, e_isInt, e_sll, e_add, e_addl, e_sub, e_mul, e_fdiv, e_mod, e_pow, e_neg, e_lt, e_le, e_gt, e_ge, e_eq, e_ne, e_int, e_abs, e_max, e_min, e_gcd, e_len1, e_len2, e_len3, e_list1, e_tupD, e_lstD, e_ixl, e_ixt, e_ixs, e_atn, e_at0, e_at1, e_at2, e_at3, e_at4, e_at5, e_at6, e_at7, e_at8, e_at9, e_at10, e_at11, e_at12, e_at13, e_at14, e_at15, e_trui, e_trub, e_notb, e_noti, e_isi_int_int, e_isi_int_bool, e_isi_int_tuple, e_isi_int_list, e_isi_int_str, e_isn_int, e_isnn_int, e_isi_str_int, e_isi_str_bool, e_isi_str_tuple, e_isi_str_list, e_isi_str_str, e_isn_str, e_isnn_str, e_isi_bl_int, e_isi_bl_bool, e_isi_bl_tuple, e_isi_bl_list, e_isi_bl_str, e_isn_bl, e_isnn_bl, e_isi_non_int, e_isi_non_bool, e_isi_non_tuple, e_isi_non_list, e_isi_non_str, e_isn_non, e_isnn_non, e_isi_lst_int, e_isi_lst_bool, e_isi_lst_tuple, e_isi_lst_list, e_isi_lst_str, e_isn_lst, e_isnn_lst, e_isi_tup_int, e_isi_tup_bool, e_isi_tup_tuple, e_isi_tup_list, e_isi_tup_str, e_isn_tup, e_isnn_tup, e_isi_scr_int, e_isi_scr_bool, e_isi_scr_tuple, e_isi_scr_list, e_isi_scr_str, e_isn_scr, e_isnn_scr, e_isb, e_neb, e_eqb, e_eqs, e_nes, e_adds, e_muls, e_lens, e_ixz, e_slz, e_itz, e_inz, e_ninz, e_all, e_intz, e_meth, e_meth1, e_raise, e_thnx, List.getElem?_cons_zero, List.getElem?_cons_succ, List.set_cons_zero, List.set_cons_succ, List.length_cons, List.length_nil, Option.map_some, Option.bind_some, List.map_cons, List.map_nil, List.cons_append, List.nil_append, ↓reduceIte, eq_self, Bool.false_eq_true, Bool.true_eq_false, Bool.not_true, Bool.not_false, decide_true, decide_false, endF, Int.reduceEq, Int.reduceLT, Int.reduceLE, Int.reduceNeg, Nat.reduceAdd, Nat.reduceLT, Nat.reduceLeDiff, Int.reduceToNat, Int.reduceSub, Int.reduceAdd, Int.reduceMul, lp', hz, j1, x5, hd, em, q']
theorem figured_ok (ns : List Int) {k many : Int} (hk : 0 ≤ k) (hm0 : 1 ≤ many) (hm : many ≤ 250) (xs : List Int) (hx : xs.length = 8) : strB 300 (F__law_figured [.scr ns, .int k, .int many, .lst (xs.map Dt.int)]) := by
  obtain ⟨ys, h1, h2, h3⟩ := many_at ns (k := k) (many := many) (limit := 10) hk (by omega) (by omega) (by decide) (by decide)
  have x5 := int_at (xs := xs) (i := 5) (by omega)
  have x6 := int_at (xs := xs) (i := 6) (by omega)
  have y0 := int_at (xs := ys) (i := 0) (by omega)
  have hix : ixN (ys.map Dt.int).length 0 = some 0 := by
    have : 0 < ys.length := by omega
    rw [List.length_map]
    simp [ixN, this]
  have m6 := fmod_nn (x := xs[6]) (m := 9) (by decide)
  have r1 := fig_rest (.scr ns) (.int k) (.int many) xs ys hx h3 (by omega)
  have r2 := fig_rest (.scr ns) (.int k) (.int many) xs (ys.set 0 (1 + (xs[6] : Int).fmod 9)) hx (fun y hy => by
    rcases List.mem_or_eq_of_mem_set hy with h | h
    · exact h3 y h
    · rw [h]; omega) (by rw [List.length_set]; omega)
  rw [List.map_set] at r2
  have hl : (xs[5] : Int).fmod 5 = (xs[5] : Int).fmod 5 := rfl
  generalize ea : (xs[5] : Int).fmod 5 = a
  generalize eb : (ys[0] : Int) = b at y0
  show strB 300 (endF (g__law_figured F__law_many [some (.sh (.scr ns)), some (.sh (.int k)), some (.sh (.int many)), some (.sh (.lst (xs.map Dt.int))), none, none, none, none]))
  unfold g__law_figured
  unfold figRest at r1 r2
  by_cases q : 0 < a
  · have q' := eq_true q
    by_cases z : b = 0
    · have z' := eq_true z
      simp only [e_seq, e_asg, e_on, e_on1, e_argC, e_argN, e_bnd, e_cons, e_varG, e_rdV, e_cst, List.getElem?_cons_zero, List.getElem?_cons_succ, h1, e_bndS, e_asgw, e_thn, List.set_cons_succ, List.set_cons_zero, e_if, e_and, e_op2, e_varB, e_rdB, e_rdB1, e_ixl, e_at5, x5, Option.map_some, e_int, e_mod, Int.reduceEq, if_false, ea, e_gt, q', decide_true, e_sel1, e_at0, y0, e_eq, z', e_if1, e_set, e_set1, e_set2, e_at6, x6, e_add, hix, e_nx]
      simp only [e_seq] at r2
      exact r2
    · have z' := eq_false z
      simp only [e_seq, e_asg, e_on, e_on1, e_argC, e_argN, e_bnd, e_cons, e_varG, e_rdV, e_cst, List.getElem?_cons_zero, List.getElem?_cons_succ, h1, e_bndS, e_asgw, e_thn, List.set_cons_succ, List.set_cons_zero, e_if, e_and, e_op2, e_varB, e_rdB, e_rdB1, e_ixl, e_at5, x5, Option.map_some, e_int, e_mod, Int.reduceEq, if_false, ea, e_gt, q', decide_true, e_sel1, e_at0, y0, e_eq, z', decide_false, e_if0, e_nx]
      simp only [e_seq, e_asg] at r1
      exact r1
  · have q' := eq_false q
    simp only [e_seq, e_asg, e_on, e_on1, e_argC, e_argN, e_bnd, e_cons, e_varG, e_rdV, e_cst, List.getElem?_cons_zero, List.getElem?_cons_succ, h1, e_bndS, e_asgw, e_thn, List.set_cons_succ, List.set_cons_zero, e_if, e_and, e_op2, e_varB, e_rdB, e_rdB1, e_ixl, e_at5, x5, Option.map_some, e_int, e_mod, Int.reduceEq, if_false, ea, e_gt, q', decide_false, e_sel0, e_if0, e_nx]
    simp only [e_seq, e_asg] at r1
    exact r1
end K00

namespace K00
open PySem PySem.Spec PyProof.Rows L2 Evl Dl
theorem drawn_ok (ns : List Int) (t : Nat) (ht : t < 6) : strB 1000 (F__law_drawn [.scr ns, .int t]) := by
  obtain ⟨xs, h1, hx, hb⟩ := many_at ns (k := 4 * (t : Int)) (many := 8) (limit := 2520) (by omega) (by decide) (by decide) (by decide) (by decide)
  have hx : xs.length = 8 := hx
  have x0 := int_at (xs := xs) (i := 0) (by omega)
  have x1 := int_at (xs := xs) (i := 1) (by omega)
  have x7 := int_at (xs := xs) (i := 7) (by omega)
  have m4 : mulOk 4 (t : Int) = true := mulOk_l (by decide)
  have m10 := fmod_nn (x := xs[1]) (m := 10) (by decide)
  have m9 := fmod_nn (x := xs[1]) (m := 9) (by decide)
  have m8 := fmod_nn (x := xs[1]) (m := 8) (by decide)
  have m201 := fmod_nn (x := xs[7]) (m := 201) (by decide)
  generalize e0 : (xs[0] : Int).fmod 3 = w
  generalize e10 : (xs[1] : Int).fmod 10 = a10 at m10
  generalize e9 : (xs[1] : Int).fmod 9 = a9 at m9
  generalize e8 : (xs[1] : Int).fmod 8 = a8 at m8
  generalize e201 : (xs[7] : Int).fmod 201 = a201 at m201
  show strB 1000 (endF (g__law_drawn F__law_many F__law_free F__law_changed F__law_named F__law_figured [some (.sh (.scr ns)), some (.sh (.int t)), none, none, none]))
  unfold g__law_drawn
  by_cases q : w = 0
  · have q' := eq_true q
    obtain ⟨z, f1, f2⟩ := (free_ok ns (k := 4 * (t : Int) + 1) (many := a10) (by omega) m10.1 (by omega)).sc
    refine ⟨z, ?_, f2⟩
    simp only [e_thn, e_thnr, e_thnb, e_thnc, e_seq, e_nx, e_bk, e_ct, e_frz, e_frz0, e_frz1, e_bndS, e_bnd, e_asg, e_asgw, e_asg0, e_asgi, e_asgt, e_asgp, e_sa0, e_sa1, e_bdn, e_bdp, e_ret, e_retv, e_retd0, e_retd1, e_retn, e_if, e_if1, e_if0, e_ifi, e_drop, e_app, e_app1, e_set, e_set1, e_set2, e_for, e_for1, e_varG, e_varB, e_rdV, e_rdB, e_rdB1, e_cst, e_op2, e_op1, e_sel, e_sel1, e_sel0, e_seli, e_bG, e_and, e_or, e_not, e_chain, e_on, e_on1, e_argN, e_argC, e_cons, e_itG, e_it1, e_it2, e_it3, e_lc, e_lc1, e_wipe0, e_wipe1, e_sl01, e_sl10, e_sl00, e_sl11, e_isInt, e_sll, e_add, e_addl, e_sub, e_mul, e_fdiv, e_mod, e_pow, e_neg, e_lt, e_le, e_gt, e_ge, e_eq, e_ne, e_int, e_abs, e_max, e_min, e_gcd, e_len1, e_len2, e_len3, e_list1, e_tupD, e_lstD, e_ixl, e_ixt, e_ixs, e_atn, e_at0, e_at1, e_at2, e_at3, e_at4, e_at5, e_at6, e_at7, e_at8, e_at9, e_at10, e_at11, e_at12, e_at13, e_at14, e_at15, e_trui, e_trub, e_notb, e_noti, e_isi_int_int, e_isi_int_bool, e_isi_int_tuple, e_isi_int_list, e_isi_int_str, e_isn_int, e_isnn_int, e_isi_str_int, e_isi_str_bool, e_isi_str_tuple, e_isi_str_list, e_isi_str_str, e_isn_str, e_isnn_str, e_isi_bl_int, e_isi_bl_bool, e_isi_bl_tuple, e_isi_bl_list, e_isi_bl_str, e_isn_bl, e_isnn_bl, e_isi_non_int, e_isi_non_bool, e_isi_non_tuple, e_isi_non_list, e_isi_non_str, e_isn_non, e_isnn_non, e_isi_lst_int, e_isi_lst_bool, e_isi_lst_tuple, e_isi_lst_list, e_isi_lst_str, e_isn_lst, e_isnn_lst, e_isi_tup_int, e_isi_tup_bool, e_isi_tup_tuple, e_isi_tup_list, e_isi_tup_str, e_isn_tup, e_isnn_tup, e_isi_scr_int, e_isi_scr_bool, e_isi_scr_tuple, e_isi_scr_list, e_isi_scr_str, e_isn_scr, e_isnn_scr, e_isb, e_neb, e_eqb, e_eqs, e_nes, e_adds, e_muls, e_lens, e_ixz, e_slz, e_itz, e_inz, e_ninz, e_all, e_intz, e_meth, e_meth1, e_raise, e_thnx, List.getElem?_cons_zero, List.getElem?_cons_succ, List.set_cons_zero, List.set_cons_succ, List.length_cons, List.length_nil, Option.map_some, Option.bind_some, List.map_cons, List.map_nil, List.cons_append, List.nil_append, ↓reduceIte, eq_self, Bool.false_eq_true, Bool.true_eq_false, Bool.not_true, Bool.not_false, decide_true, decide_false, endF, Int.reduceEq, Int.reduceLT, Int.reduceLE, Int.reduceNeg, Nat.reduceAdd, Nat.reduceLT, Nat.reduceLeDiff, Int.reduceToNat, Int.reduceSub, Int.reduceAdd, Int.reduceMul, h1, m4, x0, x1, e0, q', e10, f1]
  · have q' := eq_false q
    by_cases q2 : w = 1
    · have q2' := eq_true q2
      obtain ⟨z, f1, f2⟩ := (named_ok ns (k := 4 * (t : Int) + 2) (many := 1 + a9) (by omega) (by omega) (by omega)).sc
      obtain ⟨z2, g1, g2⟩ := (changed_ok z f2 xs hx).sc
      refine ⟨z2, ?_, g2⟩
      simp only [e_thn, e_thnr, e_thnb, e_thnc, e_seq, e_nx, e_bk, e_ct, e_frz, e_frz0, e_frz1, e_bndS, e_bnd, e_asg, e_asgw, e_asg0, e_asgi, e_asgt, e_asgp, e_sa0, e_sa1, e_bdn, e_bdp, e_ret, e_retv, e_retd0, e_retd1, e_retn, e_if, e_if1, e_if0, e_ifi, e_drop, e_app, e_app1, e_set, e_set1, e_set2, e_for, e_for1, e_varG, e_varB, e_rdV, e_rdB, e_rdB1, e_cst, e_op2, e_op1, e_sel, e_sel1, e_sel0, e_seli, e_bG, e_and, e_or, e_not, e_chain, e_on, e_on1, e_argN, e_argC, e_cons, e_itG, e_it1, e_it2, e_it3, e_lc, e_lc1, e_wipe0, e_wipe1, e_sl01, e_sl10, e_sl00, e_sl11, e_isInt, e_sll, e_add, e_addl, e_sub, e_mul, e_fdiv, e_mod, e_pow, e_neg, e_lt, e_le, e_gt, e_ge, e_eq, e_ne, e_int, e_abs, e_max, e_min, e_gcd, e_len1, e_len2, e_len3, e_list1, e_tupD, e_lstD, e_ixl, e_ixt, e_ixs, e_atn, e_at0, e_at1, e_at2, e_at3, e_at4, e_at5, e_at6, e_at7, e_at8, e_at9, e_at10, e_at11, e_at12, e_at13, e_at14, e_at15, e_trui, e_trub, e_notb, e_noti, e_isi_int_int, e_isi_int_bool, e_isi_int_tuple, e_isi_int_list, e_isi_int_str, e_isn_int, e_isnn_int, e_isi_str_int, e_isi_str_bool, e_isi_str_tuple, e_isi_str_list, e_isi_str_str, e_isn_str, e_isnn_str, e_isi_bl_int, e_isi_bl_bool, e_isi_bl_tuple, e_isi_bl_list, e_isi_bl_str, e_isn_bl, e_isnn_bl, e_isi_non_int, e_isi_non_bool, e_isi_non_tuple, e_isi_non_list, e_isi_non_str, e_isn_non, e_isnn_non, e_isi_lst_int, e_isi_lst_bool, e_isi_lst_tuple, e_isi_lst_list, e_isi_lst_str, e_isn_lst, e_isnn_lst, e_isi_tup_int, e_isi_tup_bool, e_isi_tup_tuple, e_isi_tup_list, e_isi_tup_str, e_isn_tup, e_isnn_tup, e_isi_scr_int, e_isi_scr_bool, e_isi_scr_tuple, e_isi_scr_list, e_isi_scr_str, e_isn_scr, e_isnn_scr, e_isb, e_neb, e_eqb, e_eqs, e_nes, e_adds, e_muls, e_lens, e_ixz, e_slz, e_itz, e_inz, e_ninz, e_all, e_intz, e_meth, e_meth1, e_raise, e_thnx, List.getElem?_cons_zero, List.getElem?_cons_succ, List.set_cons_zero, List.set_cons_succ, List.length_cons, List.length_nil, Option.map_some, Option.bind_some, List.map_cons, List.map_nil, List.cons_append, List.nil_append, ↓reduceIte, eq_self, Bool.false_eq_true, Bool.true_eq_false, Bool.not_true, Bool.not_false, decide_true, decide_false, endF, Int.reduceEq, Int.reduceLT, Int.reduceLE, Int.reduceNeg, Nat.reduceAdd, Nat.reduceLT, Nat.reduceLeDiff, Int.reduceToNat, Int.reduceSub, Int.reduceAdd, Int.reduceMul, h1, m4, x0, x1, e0, q', q2', e9, f1, g1]
    · have q2' := eq_false q2
      obtain ⟨d, k1, k2⟩ := atI_ok (l := [Dt.int 1, Dt.int 2, Dt.int 3, Dt.int 9, Dt.int 199, Dt.int 200, Dt.int 201, Dt.int (1 + a201)]) m8.1 (by simp only [List.length_cons, List.length_nil]; omega)
      have k3 : ∃ m, d = .int m ∧ 1 ≤ m ∧ m ≤ 201 := by
        simp only [List.mem_cons, List.not_mem_nil, or_false] at k2
        rcases k2 with rfl | rfl | rfl | rfl | rfl | rfl | rfl | rfl <;> exact ⟨_, rfl, by omega, by omega⟩
      obtain ⟨m, rfl, n1, n2⟩ := k3
      obtain ⟨z, f1, f2⟩ := (figured_ok ns (k := 4 * (t : Int) + 3) (many := m) (by omega) n1 (by omega) xs hx).sc
      obtain ⟨z2, g1, g2⟩ := (changed_ok z f2 xs hx).sc
      refine ⟨z2, ?_, g2⟩
      have hl : (([Dt.int 1, Dt.int 2, Dt.int 3, Dt.int 9, Dt.int 199, Dt.int 200, Dt.int 201, Dt.int (1 + a201)] : List Dt).length ≤ 16777216) = True := eq_true (by simp only [List.length_cons, List.length_nil]; omega)
      simp only [List.length_cons, List.length_nil, Nat.reduceAdd] at hl
      simp only [e_thn, e_thnr, e_thnb, e_thnc, e_seq, e_nx, e_bk, e_ct, e_frz, e_frz0, e_frz1, e_bndS, e_bnd, e_asg, e_asgw, e_asg0, e_asgi, e_asgt, e_asgp, e_sa0, e_sa1, e_bdn, e_bdp, e_ret, e_retv, e_retd0, e_retd1, e_retn, e_if, e_if1, e_if0, e_ifi, e_drop, e_app, e_app1, e_set, e_set1, e_set2, e_for, e_for1, e_varG, e_varB, e_rdV, e_rdB, e_rdB1, e_cst, e_op2, e_op1, e_sel, e_sel1, e_sel0, e_seli, e_bG, e_and, e_or, e_not, e_chain, e_on, e_on1, e_argN, e_argC, e_cons, e_itG, e_it1, e_it2, e_it3, e_lc, e_lc1, e_wipe0, e_wipe1, e_sl01, e_sl10, e_sl00, e_sl11, e_isInt, e_sll, e_add, e_addl, e_sub, e_mul, e_fdiv, e_mod, e_pow, e_neg, e_lt, e_le, e_gt, e_ge, e_eq, e_ne, e_int, e_abs, e_max, e_min, e_gcd, e_len1, e_len2, e_len3, e_list1, e_tupD, e_lstD, e_ixl, e_ixt, e_ixs, e_atn, e_at0, e_at1, e_at2, e_at3, e_at4, e_at5, e_at6, e_at7, e_at8, e_at9, e_at10, e_at11, e_at12, e_at13, e_at14, e_at15, e_trui, e_trub, e_notb, e_noti, e_isi_int_int, e_isi_int_bool, e_isi_int_tuple, e_isi_int_list, e_isi_int_str, e_isn_int, e_isnn_int, e_isi_str_int, e_isi_str_bool, e_isi_str_tuple, e_isi_str_list, e_isi_str_str, e_isn_str, e_isnn_str, e_isi_bl_int, e_isi_bl_bool, e_isi_bl_tuple, e_isi_bl_list, e_isi_bl_str, e_isn_bl, e_isnn_bl, e_isi_non_int, e_isi_non_bool, e_isi_non_tuple, e_isi_non_list, e_isi_non_str, e_isn_non, e_isnn_non, e_isi_lst_int, e_isi_lst_bool, e_isi_lst_tuple, e_isi_lst_list, e_isi_lst_str, e_isn_lst, e_isnn_lst, e_isi_tup_int, e_isi_tup_bool, e_isi_tup_tuple, e_isi_tup_list, e_isi_tup_str, e_isn_tup, e_isnn_tup, e_isi_scr_int, e_isi_scr_bool, e_isi_scr_tuple, e_isi_scr_list, e_isi_scr_str, e_isn_scr, e_isnn_scr, e_isb, e_neb, e_eqb, e_eqs, e_nes, e_adds, e_muls, e_lens, e_ixz, e_slz, e_itz, e_inz, e_ninz, e_all, e_intz, e_meth, e_meth1, e_raise, e_thnx, List.getElem?_cons_zero, List.getElem?_cons_succ, List.set_cons_zero, List.set_cons_succ, List.length_cons, List.length_nil, Option.map_some, Option.bind_some, List.map_cons, List.map_nil, List.cons_append, List.nil_append, ↓reduceIte, eq_self, Bool.false_eq_true, Bool.true_eq_false, Bool.not_true, Bool.not_false, decide_true, decide_false, endF, Int.reduceEq, Int.reduceLT, Int.reduceLE, Int.reduceNeg, Nat.reduceAdd, Nat.reduceLT, Nat.reduceLeDiff, Int.reduceToNat, Int.reduceSub, Int.reduceAdd, Int.reduceMul, h1, m4, x0, x1, x7, e0, q', q2', e8, e201, k1, f1, g1]
noncomputable def lawBody : Ev → Option SRes := (seqG (ifG (notG (op1G truD (onG (scD F__law_asked) (argC (varB 3) (argC (varB 1) argN))))) (seqG (retG (cstG (.bl false)))
  nxG) nxG)
  nxG)
theorem law_loop (d0 : Dt) (p : Int) (s2 : Option Sl) (o4 o5 : Option Sl) (h0 : 0 ≤ p) (h1 : p < 1000000) : ∀ (ws : List Str) (o3 : Option Sl), (∀ w ∈ ws, w.length ≤ 1000) →
    ∃ o3', loopG (.nm 3) lawBody (ws.map Dt.str) [some (.sh d0), some (.sh (.int p)), s2, o3, o4, o5] = some (.nx [some (.sh d0), some (.sh (.int p)), s2, o3', o4, o5])
  | [], o3, _ => ⟨o3, rfl⟩
  | w :: ws, o3, h => by
    have s := e_sc (asked_ok w p (h w List.mem_cons_self) h0 h1) rfl
    obtain ⟨o3', ih⟩ := law_loop d0 p s2 o4 o5 h0 h1 ws (some (.sh (.str w))) fun v hv => h v (List.mem_cons_of_mem _ hv)
    refine ⟨o3', ?_⟩
    rw [List.map_cons]
    unfold loopG
    show (match lawBody [some (.sh d0), some (.sh (.int p)), s2, some (.sh (.str w)), o4, o5] with
      | some (.nx e) => loopG (.nm 3) lawBody (ws.map Dt.str) e
      | some (.ct e) => loopG (.nm 3) lawBody (ws.map Dt.str) e
      | some (.bk e) => some (.nx e)
      | r => r) = _
    have st : lawBody [some (.sh d0), some (.sh (.int p)), s2, some (.sh (.str w)), o4, o5] = some (.nx [some (.sh d0), some (.sh (.int p)), s2, some (.sh (.str w)), o4, o5]) := by
      unfold lawBody
      simp only [e_thn, e_thnr, e_thnb, e_thnc, e_seq, e_nx, e_bk, e_ct, e_frz, e_frz0, e_frz1, e_bndS, e_bnd, e_asg, e_asgw, e_asg0, e_asgi, e_asgt, e_asgp, e_sa0, e_sa1, e_bdn, e_bdp, e_ret, e_retv, e_retd0, e_retd1, e_retn, e_if, e_if1, e_if0, e_ifi, e_drop, e_app, e_app1, e_set, e_set1, e_set2, e_for, e_for1, e_varG, e_varB, e_rdV, e_rdB, e_rdB1, e_cst, e_op2, e_op1, e_sel, e_sel1, e_sel0, e_seli, e_bG, e_and, e_or, e_not, e_chain, e_on, e_on1, e_argN, e_argC, e_cons, e_itG, e_it1, e_it2, e_it3, e_lc, e_lc1, e_wipe0, e_wipe1, e_sl01, e_sl10, e_sl00, e_sl11, e_isInt, e_sll, e_add, e_addl, e_sub, e_mul, e_fdiv, e_mod, e_pow, e_neg, e_lt, e_le, e_gt, e_ge, e_eq, e_ne, e_int, e_abs, e_max, e_min, e_gcd, e_len1, e_len2, e_len3, e_list1, e_tupD, e_lstD, e_ixl, e_ixt, e_ixs, e_atn, e_at0, e_at1, e_at2, e_at3, e_at4, e_at5, e_at6, e_at7, e_at8, e_at9, e_at10, e_at11, e_at12, e_at13, e_at14, e_at15, e_trui, e_trub, e_notb, e_noti, e_isi_int_int, e_isi_int_bool, e_isi_int_tuple, e_isi_int_list, e_isi_int_str, e_isn_int, e_isnn_int, e_isi_str_int, e_isi_str_bool, e_isi_str_tuple, e_isi_str_list, e_isi_str_str, e_isn_str, e_isnn_str, e_isi_bl_int, e_isi_bl_bool, e_isi_bl_tuple, e_isi_bl_list, e_isi_bl_str, e_isn_bl, e_isnn_bl, e_isi_non_int, e_isi_non_bool, e_isi_non_tuple, e_isi_non_list, e_isi_non_str, e_isn_non, e_isnn_non, e_isi_lst_int, e_isi_lst_bool, e_isi_lst_tuple, e_isi_lst_list, e_isi_lst_str, e_isn_lst, e_isnn_lst, e_isi_tup_int, e_isi_tup_bool, e_isi_tup_tuple, e_isi_tup_list, e_isi_tup_str, e_isn_tup, e_isnn_tup, e_isi_scr_int, e_isi_scr_bool, e_isi_scr_tuple, e_isi_scr_list, e_isi_scr_str, e_isn_scr, e_isnn_scr, e_isb, e_neb, e_eqb, e_eqs, e_nes, e_adds, e_muls, e_lens, e_ixz, e_slz, e_itz, e_inz, e_ninz, e_all, e_intz, e_meth, e_meth1, e_raise, e_thnx, List.getElem?_cons_zero, List.getElem?_cons_succ, List.set_cons_zero, List.set_cons_succ, List.length_cons, List.length_nil, Option.map_some, Option.bind_some, List.map_cons, List.map_nil, List.cons_append, List.nil_append, ↓reduceIte, eq_self, Bool.false_eq_true, Bool.true_eq_false, Bool.not_true, Bool.not_false, decide_true, decide_false, endF, Int.reduceEq, Int.reduceLT, Int.reduceLE, Int.reduceNeg, Nat.reduceAdd, Nat.reduceLT, Nat.reduceLeDiff, Int.reduceToNat, Int.reduceSub, Int.reduceAdd, Int.reduceMul, s]
    rw [st]
    exact ih
theorem law_ok (ns : List Int) : F_law [.scr ns] = some (.ok false (.bl true)) := by
  obtain ⟨c, hc⟩ := cell_ok ns 24
  have hc2 : scD F__law_cell [.scr ns, .int 24] = some (.ok false (.int c)) := e_sc hc rfl
  have hm := fmod_nn (x := c) (m := 1000000) (by decide)
  have dr : ∀ t : Nat, t < 6 → ∃ w : Str, scD F__law_drawn [.scr ns, .int t] = some (.ok false (.str w)) ∧ w.length ≤ 1000 := fun t ht => (drawn_ok ns t ht).sc
  obtain ⟨w0, a0, b0⟩ := dr 0 (by decide)
  obtain ⟨w1, a1, b1⟩ := dr 1 (by decide)
  obtain ⟨w2, a2, b2⟩ := dr 2 (by decide)
  obtain ⟨w3, a3, b3⟩ := dr 3 (by decide)
  obtain ⟨w4, a4, b4⟩ := dr 4 (by decide)
  obtain ⟨w5, a5, b5⟩ := dr 5 (by decide)
  generalize ep : (c : Int).fmod 1000000 = p at hm
  have rg : rng1D [.int 6] = some (.ok false (.lst [.int 0, .int 1, .int 2, .int 3, .int 4, .int 5])) := by rfl
  have lp : lcL [some (.sh (.scr ns)), some (.sh (.int p)), none, none, none, none] (.nm 5) (bG true) (onG (scD F__law_drawn) (argC (varB 0) (argC (varB 5) argN))) [.int 0, .int 1, .int 2, .int 3, .int 4, .int 5] = some [.str w0, .str w1, .str w2, .str w3, .str w4, .str w5] := by
    unfold lcL
    simp only [e_thn, e_thnr, e_thnb, e_thnc, e_seq, e_nx, e_bk, e_ct, e_frz, e_frz0, e_frz1, e_bndS, e_bnd, e_asg, e_asgw, e_asg0, e_asgi, e_asgt, e_asgp, e_sa0, e_sa1, e_bdn, e_bdp, e_ret, e_retv, e_retd0, e_retd1, e_retn, e_if, e_if1, e_if0, e_ifi, e_drop, e_app, e_app1, e_set, e_set1, e_set2, e_for, e_for1, e_varG, e_varB, e_rdV, e_rdB, e_rdB1, e_cst, e_op2, e_op1, e_sel, e_sel1, e_sel0, e_seli, e_bG, e_and, e_or, e_not, e_chain, e_on, e_on1, e_argN, e_argC, e_cons, e_itG, e_it1, e_it2, e_it3, e_lc, e_lc1, e_wipe0, e_wipe1, e_sl01, e_sl10, e_sl00, e_sl11, e_isInt, e_sll, e_add, e_addl, e_sub, e_mul, e_fdiv, e_mod, e_pow, e_neg, e_lt, e_le, e_gt, e_ge, e_eq, e_ne, e_int, e_abs, e_max, e_min, e_gcd, e_len1, e_len2, e_len3, e_list1, e_tupD, e_lstD, e_ixl, e_ixt, e_ixs, e_atn, e_at0, e_at1, e_at2, e_at3, e_at4, e_at5, e_at6, e_at7, e_at8, e_at9, e_at10, e_at11, e_at12, e_at13, e_at14, e_at15, e_trui, e_trub, e_notb, e_noti, e_isi_int_int, e_isi_int_bool, e_isi_int_tuple, e_isi_int_list, e_isi_int_str, e_isn_int, e_isnn_int, e_isi_str_int, e_isi_str_bool, e_isi_str_tuple, e_isi_str_list, e_isi_str_str, e_isn_str, e_isnn_str, e_isi_bl_int, e_isi_bl_bool, e_isi_bl_tuple, e_isi_bl_list, e_isi_bl_str, e_isn_bl, e_isnn_bl, e_isi_non_int, e_isi_non_bool, e_isi_non_tuple, e_isi_non_list, e_isi_non_str, e_isn_non, e_isnn_non, e_isi_lst_int, e_isi_lst_bool, e_isi_lst_tuple, e_isi_lst_list, e_isi_lst_str, e_isn_lst, e_isnn_lst, e_isi_tup_int, e_isi_tup_bool, e_isi_tup_tuple, e_isi_tup_list, e_isi_tup_str, e_isn_tup, e_isnn_tup, e_isi_scr_int, e_isi_scr_bool, e_isi_scr_tuple, e_isi_scr_list, e_isi_scr_str, e_isn_scr, e_isnn_scr, e_isb, e_neb, e_eqb, e_eqs, e_nes, e_adds, e_muls, e_lens, e_ixz, e_slz, e_itz, e_inz, e_ninz, e_all, e_intz, e_meth, e_meth1, e_raise, e_thnx, List.getElem?_cons_zero, List.getElem?_cons_succ, List.set_cons_zero, List.set_cons_succ, List.length_cons, List.length_nil, Option.map_some, Option.bind_some, List.map_cons, List.map_nil, List.cons_append, List.nil_append, ↓reduceIte, eq_self, Bool.false_eq_true, Bool.true_eq_false, Bool.not_true, Bool.not_false, decide_true, decide_false, endF, Int.reduceEq, Int.reduceLT, Int.reduceLE, Int.reduceNeg, Nat.reduceAdd, Nat.reduceLT, Nat.reduceLeDiff, Int.reduceToNat, Int.reduceSub, Int.reduceAdd, Int.reduceMul, lcL, show scD F__law_drawn [.scr ns, .int 0] = _ from a0, show scD F__law_drawn [.scr ns, .int 1] = _ from a1, show scD F__law_drawn [.scr ns, .int 2] = _ from a2, show scD F__law_drawn [.scr ns, .int 3] = _ from a3, show scD F__law_drawn [.scr ns, .int 4] = _ from a4, show scD F__law_drawn [.scr ns, .int 5] = _ from a5]
  have cut : cutL [Dt.str w0, Dt.str w1, Dt.str w2, Dt.str w3, Dt.str w4, Dt.str w5] none (some 1) = [.str w0] := by rfl
  have nl : nears.length ≤ 1000 := by decide +kernel
  have l1 : (nears.map Dt.str).length + 6 ≤ 16777216 := by rw [List.length_map]; omega
  have l2 : (nears.map Dt.str ++ [Dt.str w0, Dt.str w1, Dt.str w2, Dt.str w3, Dt.str w4, Dt.str w5]).length + 1 ≤ 16777216 := by rw [List.length_append, List.length_map]; simp only [List.length_cons, List.length_nil]; omega
  obtain ⟨o3, lo⟩ := law_loop (.scr ns) p (some (.ow [Dt.str w0, Dt.str w1, Dt.str w2, Dt.str w3, Dt.str w4, Dt.str w5])) none none hm.1 hm.2 (nears ++ [w0, w1, w2, w3, w4, w5] ++ [w0]) none (fun w hw => by
    rcases List.mem_append.mp hw with h | h
    · rcases List.mem_append.mp h with h | h
      · exact near_len w h
      · simp only [List.mem_cons, List.not_mem_nil, or_false] at h
        rcases h with rfl | rfl | rfl | rfl | rfl | rfl <;> assumption
    · rw [List.mem_singleton.mp h]
      exact b0)
  rw [List.map_append, List.map_append] at lo
  show endF (g_law F__law_cell F__law_drawn F__law_near F__law_asked [some (.sh (.scr ns)), none, none, none, none, none]) = _
  unfold g_law
  unfold lawBody at lo
  simp only [List.map_cons, List.map_nil] at lo
  have nb : ∀ (r : List Dt), r = [.str w0, .str w1, .str w2, .str w3, .str w4, .str w5] → (r.length ≤ 16777216) = True := fun r hr => eq_true (by rw [hr]; simp only [List.length_cons, List.length_nil]; omega)
  have nb1 := nb _ rfl
  simp only [e_seq, e_asg, e_on, e_on1, e_argC, e_argN, e_bnd, e_cons, e_varB, e_rdB, e_cst, List.getElem?_cons_zero, e_op2, hc2, e_int, e_mod, Int.reduceEq, if_false, ep, e_bndS, e_asg0, e_thn, List.set_cons_succ, List.set_cons_zero, e_lc, rg, e_lc1, e_wipe1, e_wipe0, lp, Option.bind_some, nb1, if_true, e_asgw]
  simp only [e_for, e_itG, e_op2, e_bnd, near_ok, e_varB, e_rdB1, List.getElem?_cons_zero, List.getElem?_cons_succ, e_addl, List.length_cons, List.length_nil, Nat.reduceAdd, l1, if_true, e_sl01, e_cst, e_isInt, Option.bind_some, e_sll, cut, l2, e_it1, e_bndS, e_for1, lo, e_thn, e_seq, e_ret, e_thnr, endF]
end K00

open PySem PySem.W PyProof.Rows
set_option maxHeartbeats 0 in
theorem PySem.Challenge.cw_scalesfound_k00_names_and_whole_numbers_holds : PySem.Challenge.rw_scalesfound_k00_names_and_whole_numbers.Holds := by
  w_on; o_law; k_head; (case hw => w_witness2)
  k_fill
  refine L2.walk_ofB (l := PySem.Challenge.rw_scalesfound_k00_names_and_whole_numbers) (n := 63) (k := 5) (x := "script") (CX := fun w => L2.CX PySem.Challenge.rw_scalesfound_k00_names_and_whole_numbers.prog w) (sp := fun w => Dl.PSO _ K00.F_law) rfl (by decide) rfl ⟨rfl, by decide, by decide⟩ (fun w h Y => PySem.W.kIn_of Y) ?F (fun _ _ a ns hl hz _ hS => Dl.sp_law hS (K00.law_ok ns)) (fun _ _ _ _ _ h => Dl.noCX h)
  case F =>
    intro w mg fa h KX G hmg
    refine' K00.all_mk KX G hmg ?a1 ?l1 ?c1 ?k1 ?a2 ?l2 ?c2 ?k2 ?a3 ?l3 ?c3 ?k3 ?a4 ?l4 ?c4 ?k4 ?a5 ?l5 ?c5 ?k5 ?a6 ?l6 ?c6 ?k6 ?a7 ?l7 ?c7 ?k7 ?a8 ?l8 ?c8 ?k8 ?a9 ?l9 ?c9 ?k9 ?a10 ?l10 ?c10 ?k10 ?a11 ?l11 ?c11 ?k11 ?a12 ?l12 ?c12 ?k12 ?a13 ?l13 ?c13 ?k13 ?a14 ?l14 ?c14 ?k14 ?a15 ?l15 ?c15 ?k15 ?a16 ?l16 ?c16 ?k16 ?a17 ?l17 ?c17 ?k17 ?a18 ?l18 ?c18 ?k18 ?a19 ?l19 ?c19 ?k19 ?z0 ?z1 ?z2 ?z3 ?z4 ?z5 ?z6 ?z7 ?z8 ?z9 ?z10 ?z11 ?z12 ?z13 ?z14 ?z15 ?kc_SMALL ?kc_FIGURES ?kc_LONGEST ?spN ?anyN ?spG ?tkG ?aC0 ?kd0 ?ty0 ?aC1 ?kd1 ?ty1 ?aC2 ?kd2 ?ty2 ?aC3 ?kd3 ?ty3 ?aC4 ?kd4 ?ty4 ?xC1 ?rf1 ?sa1 ?ga1 ?gg1 ?gc1 ?eC1 ?kC1 ?dC1 ?vB1 ?mC1 ?mO1 ?iC1 ?tI1 ?lI1 ?cI1 ?lc1 ?lk1 ?v21 ?fl1 ?sI1 ?nf_place_1 ?sb0_1 ?sb1_1 ?sb2_1 ?sb3_1 ?sb4_1 ?eH1 ?dH1 ?veN ?htop
    (case a1 => k_is); (case l1 => k_is); (case c1 => k_is); (case k1 => k_is); (case a2 => k_is); (case l2 => k_is); (case c2 => k_is); (case k2 => k_is)
    (case a3 => k_is); (case l3 => k_is); (case c3 => k_is); (case k3 => k_is); (case a4 => k_is); (case l4 => k_is); (case c4 => k_is); (case k4 => k_is)
    (case a5 => k_is); (case l5 => k_is); (case c5 => k_is); (case k5 => k_is); (case a6 => k_is); (case l6 => k_is); (case c6 => k_is); (case k6 => k_is)
    (case a7 => k_is); (case l7 => k_is); (case c7 => k_is); (case k7 => k_is); (case a8 => k_is); (case l8 => k_is); (case c8 => k_is); (case k8 => k_is)
    (case a9 => k_is); (case l9 => k_is); (case c9 => k_is); (case k9 => k_is); (case a10 => k_is); (case l10 => k_is); (case c10 => k_is); (case k10 => k_is)
    (case a11 => k_is); (case l11 => k_is); (case c11 => k_is); (case k11 => k_is); (case a12 => k_is); (case l12 => k_is); (case c12 => k_is); (case k12 => k_is)
    (case a13 => k_is); (case l13 => k_is); (case c13 => k_is); (case k13 => k_is); (case a14 => k_is); (case l14 => k_is); (case c14 => k_is); (case k14 => k_is)
    (case a15 => k_is); (case l15 => k_is); (case c15 => k_is); (case k15 => k_is); (case a16 => k_is); (case l16 => k_is); (case c16 => k_is); (case k16 => k_is)
    (case a17 => k_is); (case l17 => k_is); (case c17 => k_is); (case k17 => k_is); (case a18 => k_is); (case l18 => k_is); (case c18 => k_is); (case k18 => k_is)
    (case a19 => k_is); (case l19 => k_is); (case c19 => k_is); (case k19 => k_is); (case z0 => k_is); (case z1 => k_is); (case z2 => k_is); (case z3 => k_is)
    (case z4 => k_is); (case z5 => k_is); (case z6 => k_is); (case z7 => k_is); (case z8 => k_is); (case z9 => k_is); (case z10 => k_is); (case z11 => k_is)
    (case z12 => k_is); (case z13 => k_is); (case z14 => k_is); (case z15 => k_is); (case kc_SMALL => k_is); (case kc_FIGURES => k_is); (case kc_LONGEST => k_is); (case spN => k_is)
    (case anyN => k_is); (case spG => k_is); (case tkG => k_is); (case aC0 => k_is); (case kd0 => k_is); (case ty0 => k_is); (case aC1 => k_is); (case kd1 => k_is)
    (case ty1 => k_is); (case aC2 => k_is); (case kd2 => k_is); (case ty2 => k_is); (case aC3 => k_is); (case kd3 => k_is); (case ty3 => k_is); (case aC4 => k_is)
    (case kd4 => k_is); (case ty4 => k_is); (case xC1 => k_is); (case rf1 => first | rfl | decide +kernel); (case sa1 => k_is); (case ga1 => k_is); (case gg1 => k_is); (case gc1 => k_is)
    (case eC1 => k_is); (case kC1 => k_is); (case dC1 => k_is); (case vB1 => k_is); (case mC1 => k_is); (case mO1 => k_is); (case iC1 => k_is); (case tI1 => k_is)
    (case lI1 => k_is); (case cI1 => k_is); (case lc1 => k_is); (case lk1 => k_is); (case v21 => first | rfl | decide +kernel); (case fl1 => first | rfl | decide +kernel); (case sI1 => ks_is); (case nf_place_1 => k_is)
    (case sb0_1 => k_is); (case sb1_1 => k_is); (case sb2_1 => k_is); (case sb3_1 => k_is); (case sb4_1 => k_is); (case eH1 => k_is); (case dH1 => k_is); (case veN => k_is)
    (case htop => first | rfl | decide +kernel)
