import PyProof.Rows.All
import Wide.All
import OpenK.AllK
import Wide.FinOn
import HandS.ForMost
import HandS.NoneIn
import HandS.Wide
import HandS.Style
import KE.DataEq
import KE.DataCmp
import KE.DataMinMax
import KE.DataFind
import KE.SortData
import HandS.Star
import HandS.Text
import HandS.IsInst
import HandS.SortKw
import HandS.Strs
import HandS.SetFor
import KE.KDictSum
import HandS.Conv
import KE.KDictWalk
import KE.KDictCopyH
import HandS.ClsMeth
import PyProof.LongRange
import KE.GoesZip
import KE.GoesEnum
import KE.GoesMore
import HandS.DictTup
import HandS.Defaults
import HandS.Deep
import PySem.Challenge.RW_idealtwin_k73_whole_busy_rows_with_one_s
set_option Elab.async false
set_option linter.all false
set_option maxRecDepth 100000
namespace Dd
open PySem PySem.Spec PyProof.Rows L2

abbrev D := PyData
abbrev Sg := L2.St
def kD : Key → D
  | .inl i => .int i
  | .inr s => .str s
def tD (ks : List Key) : D := .tuple (ks.map kD)

mutual
inductive Rep (K : PySem.W.Frag) (F : Hp) : V → D → Prop
  | non : Rep K F .non .none
  | bl (b : Bool) : Rep K F (.bl b) (.bool b)
  | int (i : Int) : Rep K F (.int i) (.int i)
  | str (x : Str) : Rep K F (.str x) (.str x)
  | lst {a : Addr} {xs : List V} {ds : List D} : SqL K F a xs → Reps K F xs ds → Rep K F (.ref a) (.list ds)
  | tup {a : Addr} {xs : List V} {ds : List D} : F a = some (.tup xs) → Reps K F xs ds → Rep K F (.ref a) (.tuple ds)
  | dK {a : Addr} {kvs : List (Key × V)} {ds : List (D × D)} : Rd F a (.dK kvs) → RepK K F kvs ds → Rep K F (.ref a) (.dict ds)
  | dT {a : Addr} {kvs : List (List Key × V)} {ds : List (D × D)} : Rd F a (.dT kvs) → RepT K F kvs ds → Rep K F (.ref a) (.dict ((.none, .none) :: ds))
inductive Reps (K : PySem.W.Frag) (F : Hp) : List V → List D → Prop
  | nil : Reps K F [] []
  | cons {v : V} {vs : List V} {d : D} {ds : List D} : Rep K F v d → Reps K F vs ds → Reps K F (v :: vs) (d :: ds)
inductive RepK (K : PySem.W.Frag) (F : Hp) : List (Key × V) → List (D × D) → Prop
  | nil : RepK K F [] []
  | cons {k : Key} {v : V} {vs : List (Key × V)} {d : D} {ds : List (D × D)} : Rep K F v d → RepK K F vs ds → RepK K F ((k, v) :: vs) ((kD k, d) :: ds)
inductive RepT (K : PySem.W.Frag) (F : Hp) : List (List Key × V) → List (D × D) → Prop
  | nil : RepT K F [] []
  | cons {k : List Key} {v : V} {vs : List (List Key × V)} {d : D} {ds : List (D × D)} : Rep K F v d → RepT K F vs ds → RepT K F ((k, v) :: vs) ((tD k, d) :: ds)
end

theorem rd_mono {F F' : Hp} {a : Addr} {o : HO} (s : Same F F') (h : Rd F a o) : Rd F' a o := by
  rcases h with h | ⟨u, h⟩
  · exact .inl (s _ _ h)
  · exact .inr ⟨u, s _ _ h⟩
theorem sqL_mono {K : PySem.W.Frag} {F F' : Hp} {a : Addr} {xs : List V} (s : Same F F') (h : SqL K F a xs) : SqL K F' a xs := by
  rcases h with h | h
  · exact .inl (rd_mono s h)
  · exact .inr h
theorem sqT_mono {K : PySem.W.Frag} {F F' : Hp} {a : Addr} {xs : List V} (s : Same F F') (h : SqT K F a xs) : SqT K F' a xs := by
  rcases h with h | h
  · exact .inl (rd_mono s h)
  · exact .inr h
mutual
theorem Rep.mono {K : PySem.W.Frag} {F F' : Hp} (s : Same F F') : ∀ {v : V} {d : D}, Rep K F v d → Rep K F' v d
  | _, _, .non => .non
  | _, _, .bl b => .bl b
  | _, _, .int i => .int i
  | _, _, .str x => .str x
  | _, _, .lst h r => .lst (sqL_mono s h) (Reps.mono s r)
  | _, _, .tup h r => .tup (s _ _ h) (Reps.mono s r)
  | _, _, .dK h r => .dK (rd_mono s h) (RepK.mono s r)
  | _, _, .dT h r => .dT (rd_mono s h) (RepT.mono s r)
theorem Reps.mono {K : PySem.W.Frag} {F F' : Hp} (s : Same F F') : ∀ {vs : List V} {ds : List D}, Reps K F vs ds → Reps K F' vs ds
  | _, _, .nil => .nil
  | _, _, .cons h r => .cons (Rep.mono s h) (Reps.mono s r)
theorem RepK.mono {K : PySem.W.Frag} {F F' : Hp} (s : Same F F') : ∀ {vs : List (Key × V)} {ds : List (D × D)}, RepK K F vs ds → RepK K F' vs ds
  | _, _, .nil => .nil
  | _, _, .cons h r => .cons (Rep.mono s h) (RepK.mono s r)
theorem RepT.mono {K : PySem.W.Frag} {F F' : Hp} (s : Same F F') : ∀ {vs : List (List Key × V)} {ds : List (D × D)}, RepT K F vs ds → RepT K F' vs ds
  | _, _, .nil => .nil
  | _, _, .cons h r => .cons (Rep.mono s h) (RepT.mono s r)
end

section reps
variable {K : PySem.W.Frag} {F : Hp}
theorem Reps.len : ∀ {vs : List V} {ds : List D}, Reps K F vs ds → vs.length = ds.length
  | _, _, .nil => rfl
  | _, _, .cons _ r => by simp [Reps.len r]
theorem Reps.get : ∀ {vs : List V} {ds : List D} {i : Nat} {d : D}, Reps K F vs ds → ds[i]? = some d → ∃ v, vs[i]? = some v ∧ Rep K F v d
  | _, _, _, _, .nil, h => by simp at h
  | _, _, 0, _, .cons r _, h => by simp at h; subst h; exact ⟨_, rfl, r⟩
  | _, _, i + 1, _, .cons _ r, h => by
    obtain ⟨v, e, q⟩ := Reps.get (i := i) r (by simpa using h)
    exact ⟨v, by simpa using e, q⟩
theorem Reps.get' : ∀ {vs : List V} {ds : List D} {i : Nat} {v : V}, Reps K F vs ds → vs[i]? = some v → ∃ d, ds[i]? = some d ∧ Rep K F v d
  | _, _, _, _, .nil, h => by simp at h
  | _, _, 0, _, .cons r _, h => by simp at h; subst h; exact ⟨_, rfl, r⟩
  | _, _, i + 1, _, .cons _ r, h => by
    obtain ⟨v, e, q⟩ := Reps.get' (i := i) r (by simpa using h)
    exact ⟨v, by simpa using e, q⟩
theorem Reps.append : ∀ {vs ws : List V} {ds es : List D}, Reps K F vs ds → Reps K F ws es → Reps K F (vs ++ ws) (ds ++ es)
  | _, _, _, _, .nil, q => q
  | _, _, _, _, .cons h r, q => .cons h (Reps.append r q)
theorem Reps.take : ∀ {vs : List V} {ds : List D} (n : Nat), Reps K F vs ds → Reps K F (vs.take n) (ds.take n)
  | _, _, 0, _ => by simp; exact .nil
  | _, _, _ + 1, .nil => by simp; exact .nil
  | _, _, n + 1, .cons h r => by simp; exact .cons h (Reps.take n r)
theorem Reps.drop : ∀ {vs : List V} {ds : List D} (n : Nat), Reps K F vs ds → Reps K F (vs.drop n) (ds.drop n)
  | _, _, 0, r => by simpa using r
  | _, _, _ + 1, .nil => by simp; exact .nil
  | _, _, n + 1, .cons h r => by simpa using Reps.drop n r
theorem Reps.set : ∀ {vs : List V} {ds : List D} (n : Nat) {v : V} {d : D}, Reps K F vs ds → Rep K F v d → Reps K F (vs.set n v) (ds.set n d)
  | _, _, _, _, _, .nil, _ => .nil
  | _, _, 0, _, _, .cons h r, q => .cons q r
  | _, _, n + 1, _, _, .cons h r, q => .cons h (Reps.set n r q)
theorem Reps.one {v : V} {d : D} (h : Rep K F v d) : Reps K F [v] [d] := .cons h .nil
theorem Reps.rev : ∀ {vs : List V} {ds : List D}, Reps K F vs ds → Reps K F vs.reverse ds.reverse
  | _, _, .nil => .nil
  | _, _, .cons h r => by simp only [List.reverse_cons]; exact (Reps.rev r).append (.one h)
theorem Reps.ints : ∀ {vs : List V} {ns : List Int}, Reps K F vs (ns.map PyData.int) → vs = ns.map V.int
  | _, [], .nil => rfl
  | _, n :: ns, .cons h r => by cases h; rw [Reps.ints r]; rfl
theorem Reps.of_ints : ∀ (ns : List Int), Reps K F (ns.map V.int) (ns.map PyData.int)
  | [] => .nil
  | n :: ns => .cons (.int n) (Reps.of_ints ns)
theorem Reps.bools : ∀ {vs : List V} {ns : List Bool}, Reps K F vs (ns.map PyData.bool) → vs = ns.map V.bl
  | _, [], .nil => rfl
  | _, n :: ns, .cons h r => by cases h; rw [Reps.bools r]; rfl
end reps

/-- what an owned object holds -/
inductive OwO (K : PySem.W.Frag) (F : Hp) : HO → D → Prop
  | lst {vs : List V} {ds : List D} : Reps K F vs ds → OwO K F (.lst vs) (.list ds)
  | dK {kvs : List (Key × V)} {ds : List (D × D)} : RepK K F kvs ds → OwO K F (.dK kvs) (.dict ds)
  | dT {kvs : List (List Key × V)} {ds : List (D × D)} : RepT K F kvs ds → OwO K F (.dT kvs) (.dict ((.none, .none) :: ds))
theorem OwO.mono {K : PySem.W.Frag} {F F' : Hp} (s : Same F F') {o : HO} {d : D} : OwO K F o d → OwO K F' o d
  | .lst r => .lst (r.mono s)
  | .dK r => .dK (r.mono s)
  | .dT r => .dT (r.mono s)
/-- at a stands an object of ours that nothing else knows -/
def Ow (K : PySem.W.Frag) (F H : Hp) (a : Addr) (d : D) : Prop := F a = none ∧ ∃ o, H a = some o ∧ OwO K F o d
theorem OwO.rep {K : PySem.W.Frag} {F F' : Hp} {o : HO} {d : D} {a : Addr} (x : OwO K F o d) (s : Same F F') (h : F' a = some o) : Rep K F' (.ref a) d := by
  cases x with
  | lst r => exact .lst (.inl (.inl h)) (r.mono s)
  | dK r => exact .dK (.inl h) (r.mono s)
  | dT r => exact .dT (.inl h) (r.mono s)

/-- sh: shared, never changed again; ow: a slot's own object; io: an argument that the caller owns -/
inductive Tg where
  | sh | ow | io
  deriving DecidableEq
abbrev Ev := List (Option (D × Tg))

structure Rl (K : PySem.W.Frag) (F H : Hp) (σ : Sg) (env : Ev) : Prop where
  sub : Same F H
  len : σ.length = env.length
  sh : ∀ (i : Nat) d, env[i]? = some (some (d, Tg.sh)) → ∃ v, σ[i]? = some (some v) ∧ Rep K F v d
  ow : ∀ (i : Nat) d t, t ≠ Tg.sh → env[i]? = some (some (d, t)) → ∃ a, σ[i]? = some (some (.ref a)) ∧ Ow K F H a d
  sep : ∀ (i j : Nat) d e t u a, t ≠ Tg.sh → u ≠ Tg.sh → env[i]? = some (some (d, t)) → env[j]? = some (some (e, u)) → σ[i]? = some (some (.ref a)) → σ[j]? = some (some (.ref a)) → i = j

/-- a is the object of a slot that owns it -/
def Oa (σ : Sg) (env : Ev) (a : Addr) : Prop := ∃ (i : Nat) (d : D) (t : Tg), t ≠ Tg.sh ∧ env[i]? = some (some (d, t)) ∧ σ[i]? = some (some (.ref a))
def OaW (σ : Sg) (env : Ev) (a : Addr) : Prop := ∃ (i : Nat) (d : D), env[i]? = some (some (d, Tg.ow)) ∧ σ[i]? = some (some (.ref a))
theorem OaW.oa {σ : Sg} {env : Ev} {a : Addr} (h : OaW σ env a) : Oa σ env a := by
  obtain ⟨i, d, e, q⟩ := h
  exact ⟨i, d, .ow, by decide, e, q⟩
theorem Rl.oaH {K : PySem.W.Frag} {F H : Hp} {σ : Sg} {env : Ev} (r : Rl K F H σ env) {a : Addr} (h : Oa σ env a) : F a = none ∧ ∃ o, H a = some o := by
  obtain ⟨i, d, t, nt, e, q⟩ := h
  obtain ⟨b, e2, f, o, ho, _⟩ := r.ow i d t nt e
  rw [q] at e2
  cases e2
  exact ⟨f, o, ho⟩

/-- what is no tuple stays out of the frozen part -/
abbrev Nf (o : HO) (x y : Option HO) : Prop := x = none → (∀ xs, o ≠ .tup xs) → y = none
theorem OwO.nt {K : PySem.W.Frag} {F : Hp} {o : HO} {d : D} (w : OwO K F o d) : ∀ xs, o ≠ .tup xs := fun xs e => by
  subst e
  cases w
structure Ex (σ : Sg) (env : Ev) (F H F' H' : Hp) : Prop where
  subF : Same F F'
  keep : ∀ a o, H a = some o → ¬ Oa σ env a → H' a = some o ∧ Nf o (F a) (F' a)
  dom : ∀ a, H' a = none → H a = none
theorem Ex.refl {σ : Sg} {env : Ev} {F H : Hp} : Ex σ env F H F H := ⟨.refl _, fun _ _ h _ => ⟨h, fun z _ => z⟩, fun _ h => h⟩
theorem Ex.trans {σ σ1 : Sg} {env env1 : Ev} {F H F1 H1 F2 H2 : Hp} (a : Ex σ env F H F1 H1) (b : Ex σ1 env1 F1 H1 F2 H2) (o : ∀ x, Oa σ1 env1 x → Oa σ env x ∨ H x = none) : Ex σ env F H F2 H2 where
  subF := a.subF.trans b.subF
  keep := fun x u h n => by
    obtain ⟨h1, f1⟩ := a.keep x u h n
    obtain ⟨h2, f2⟩ := b.keep x u h1 fun z => (o x z).elim n fun z => by rw [h] at z; cases z
    exact ⟨h2, fun z n => f2 (f1 z n) n⟩
  dom := fun x h => a.dom x (b.dom x h)

/-- an expression's steps may give up slots, no more -/
structure Le (env env' : Ev) : Prop where
  len : env'.length = env.length
  ow : ∀ (i : Nat) d t, t ≠ Tg.sh → env'[i]? = some (some (d, t)) → ∃ d', env[i]? = some (some (d', t))
  io : ∀ (i : Nat) d, env[i]? = some (some (d, Tg.io)) → ∃ d', env'[i]? = some (some (d', Tg.io))
theorem Le.refl {env : Ev} : Le env env := ⟨rfl, fun _ d _ _ h => ⟨d, h⟩, fun _ d h => ⟨d, h⟩⟩
theorem Le.trans {a b c : Ev} (x : Le a b) (y : Le b c) : Le a c := ⟨y.len.trans x.len, fun i d t n h => let ⟨d', h'⟩ := y.ow i d t n h; x.ow i d' t n h', fun i d h => let ⟨d', h'⟩ := x.io i d h; y.io i d' h'⟩
theorem Le.oa {σ : Sg} {env env' : Ev} (x : Le env env') {a : Addr} (h : Oa σ env' a) : Oa σ env a := by
  obtain ⟨i, d, t, n, e, q⟩ := h
  obtain ⟨d', e'⟩ := x.ow i d t n e
  exact ⟨i, d', t, n, e', q⟩
theorem Le.oaW {σ : Sg} {env env' : Ev} (x : Le env env') {a : Addr} (h : OaW σ env' a) : OaW σ env a := by
  obtain ⟨i, d, e, q⟩ := h
  obtain ⟨d', e'⟩ := x.ow i d .ow (by decide) e
  exact ⟨i, d', e', q⟩
theorem Ex.then {σ : Sg} {env env1 : Ev} {F H F1 H1 F2 H2 : Hp} (a : Ex σ env F H F1 H1) (le : Le env env1) (b : Ex σ env1 F1 H1 F2 H2) : Ex σ env F H F2 H2 :=
  a.trans b fun _ h => .inl (le.oa h)

/-- a value behind an expression -/
def RepR (K : PySem.W.Frag) (σ : Sg) (env env' : Ev) (H F' H' : Hp) (v : V) (d : D) (t : Tg) : Prop :=
  match t with
  | .sh => Rep K F' v d
  | _ => t = .ow ∧ ∃ a, v = .ref a ∧ Ow K F' H' a d ∧ ¬ Oa σ env' a ∧ (H a = none ∨ OaW σ env a)
structure EPost (K : PySem.W.Frag) (σ : Sg) (env : Ev) (F H : Hp) (d : D) (t : Tg) (env' : Ev) (F' H' : Hp) (v : V) : Prop where
  rl : Rl K F' H' σ env'
  ex : Ex σ env F H F' H'
  le : Le env env'
  rep : RepR K σ env env' H F' H' v d t

/-- an expression as a function of the environment -/
abbrev EM := Ev → Option (D × Tg × Ev)
def TEof (K : PySem.W.Frag) (m : EM) : TE := fun σ H Q => ∃ F env, Rl K F H σ env ∧ ∃ d t env', m env = some (d, t, env') ∧ ∀ F' H' v, EPost K σ env F H d t env' F' H' v → Q v H'

structure VPost (K : PySem.W.Frag) (F H F' H' : Hp) (v : V) (d : D) (t : Tg) : Prop where
  sub : Same F' H'
  subF : Same F F'
  keep : ∀ a o, H a = some o → H' a = some o ∧ Nf o (F a) (F' a)
  rep : match t with
    | .sh => Rep K F' v d
    | _ => t = .ow ∧ ∃ a, v = .ref a ∧ H a = none ∧ Ow K F' H' a d
theorem VPost.dom {K : PySem.W.Frag} {F H F' H' : Hp} {v : V} {d : D} {t : Tg} (p : VPost K F H F' H' v d t) (a : Addr) (h : H' a = none) : H a = none := by
  cases e : H a with
  | none => rfl
  | some o =>
    rw [(p.keep a o e).1] at h
    cases h
theorem Rl.grow {K : PySem.W.Frag} {F H F' H' : Hp} {σ : Sg} {env : Ev} (r : Rl K F H σ env) (sub : Same F' H') (subF : Same F F') (keep : ∀ a, Oa σ env a → ∀ o, H a = some o → H' a = some o ∧ Nf o (F a) (F' a)) : Rl K F' H' σ env where
  sub := sub
  len := r.len
  sh := fun i d e => by
    obtain ⟨v, h1, h2⟩ := r.sh i d e
    exact ⟨v, h1, h2.mono subF⟩
  ow := fun i d t n e => by
    obtain ⟨a, h1, f, o, h2, h3⟩ := r.ow i d t n e
    obtain ⟨k1, k2⟩ := keep a ⟨i, d, t, n, e, h1⟩ o h2
    exact ⟨a, h1, k2 f h3.nt, o, k1, h3.mono subF⟩
  sep := r.sep
theorem VPost.epost {K : PySem.W.Frag} {σ : Sg} {env : Ev} {F H F' H' : Hp} {v : V} {d : D} {t : Tg} (r : Rl K F H σ env) (p : VPost K F H F' H' v d t) : EPost K σ env F H d t env F' H' v where
  rl := r.grow p.sub p.subF fun a _ o h => p.keep a o h
  ex := ⟨p.subF, fun a o h _ => p.keep a o h, p.dom⟩
  le := .refl
  rep := by
    have q := p.rep
    cases t with
    | sh => exact q
    | ow =>
      obtain ⟨_, a, e, n, o⟩ := q
      refine ⟨rfl, a, e, o, fun z => ?_, .inl n⟩
      obtain ⟨_, u, hu⟩ := r.oaH z
      rw [n] at hu
      cases hu
    | io =>
      obtain ⟨q, _⟩ := q
      cases q
/-- two steps -/
theorem EPost.after {K : PySem.W.Frag} {σ : Sg} {env env1 env2 : Ev} {F H F1 H1 F2 H2 : Hp} {v : V} {d : D} {t : Tg} (ex : Ex σ env F H F1 H1) (le : Le env env1) (p : EPost K σ env1 F1 H1 d t env2 F2 H2 v) : EPost K σ env F H d t env2 F2 H2 v where
  rl := p.rl
  ex := ex.then le p.ex
  le := le.trans p.le
  rep := by
    have q := p.rep
    cases t with
    | sh => exact q
    | ow =>
      obtain ⟨_, a, e, o, n, z⟩ := q
      exact ⟨rfl, a, e, o, n, z.imp (fun z => ex.dom a z) fun z => le.oaW z⟩
    | io =>
      obtain ⟨q, _⟩ := q
      cases q
theorem TEof.mono {K : PySem.W.Frag} {m : EM} {σ : Sg} {H : Hp} {Q Q' : VK} (h : TEof K m σ H Q) (q : ∀ v H', Q v H' → Q' v H') : TEof K m σ H Q' := by
  obtain ⟨F, env, r, d, t, env', e, k⟩ := h
  exact ⟨F, env, r, d, t, env', e, fun F' H' v p => q _ _ (k F' H' v p)⟩
end Dd
namespace L2
open PySem PySem.Spec PyProof.Rows
theorem PE.mono {X : Cx} {e : Expr} {t t' : TE} (h : PE X e t) (q : ∀ σ H Q, t' σ H Q → t σ H Q) : PE X e t' := ⟨fun pins s σ H Q I hw => h.run pins s σ H Q I (q _ _ _ hw)⟩
theorem PT.mono {X : Cx} {e : Expr} {t t' : TT} (h : PT X e t) (q : ∀ σ H Q, t' σ H Q → t σ H Q) : PT X e t' := ⟨fun pins s σ H Q I hw => h.run pins s σ H Q I (q _ _ _ hw)⟩
theorem PW.mono {X : Cx} {e : Expr} {t t' : TT} (h : PW X e t) (q : ∀ σ H Q, t' σ H Q → t σ H Q) : PW X e t' := ⟨fun wh pins s σ H Q I hw => h.run wh pins s σ H Q I (q _ _ _ hw)⟩
theorem PA.mono {X : Cx} {e : List Expr} {t t' : TA} (h : PA X e t) (q : ∀ σ H Q, t' σ H Q → t σ H Q) : PA X e t' := ⟨fun p pins s σ H Q I hw => h.run p pins s σ H Q I (q _ _ _ hw)⟩
theorem PS.mono {X : Cx} {e : Stmt} {t t' : TS} (h : PS X e t) (q : ∀ D σ H, t' D σ H → t D σ H) : PS X e t' := ⟨fun pins s σ H D I hw => h.run pins s σ H D I (q _ _ _ hw)⟩
theorem PSs.mono {X : Cx} {e : List Stmt} {t t' : TS} (h : PSs X e t) (q : ∀ D σ H, t' D σ H → t D σ H) : PSs X e t' := ⟨fun pins s σ H D I hw => h.run pins s σ H D I (q _ _ _ hw)⟩
theorem PI.mono {X : Cx} {tg : Expr} {e : Expr} {t t' : TI} (h : PI X tg e t) (q : ∀ σ H R, t' σ H R → t σ H R) : PI X tg e t' := ⟨fun pins s σ H R I hw => h.run pins s σ H R I (q _ _ _ hw)⟩
end L2
namespace Dd
open PySem PySem.Spec PyProof.Rows L2

/-- an operand: a slot that is read when the operation happens, or a value -/
inductive Rd0 where
  | late (i : Nat)
  | early (d : D)
def sl (e : Ev) (i : Nat) : Option (D × Tg) := (e[i]?).join
theorem sl_iff {e : Ev} {i : Nat} {p : D × Tg} : sl e i = some p ↔ e[i]? = some (some p) := by
  unfold sl
  cases h : e[i]? with
  | none => simp
  | some x => cases x <;> simp
def rd (r : Rd0) (e : Ev) : Option D := match r with
  | .late i => (sl e i).map (·.1)
  | .early d => some d
theorem rd_late {i : Nat} {e : Ev} {d : D} (h : rd (.late i) e = some d) : ∃ t, e[i]? = some (some (d, t)) := by
  unfold rd at h
  cases q : sl e i with
  | none => simp [q] at h
  | some p =>
    obtain ⟨d', t⟩ := p
    simp [q] at h
    exact ⟨t, h ▸ sl_iff.mp q⟩
abbrev OM := Ev → Option (Rd0 × Ev)
def oV (i : Nat) : OM := fun e => (sl e i).map fun _ => (.late i, e)
def oE (m : EM) : OM := fun e => (m e).map fun x => (.early x.1, x.2.2)
theorem oV_inv {i : Nat} {e e' : Ev} {r : Rd0} (h : oV i e = some (r, e')) : r = .late i ∧ e' = e ∧ ∃ p, e[i]? = some (some p) := by
  unfold oV at h
  cases q : sl e i with
  | none => simp [q] at h
  | some p =>
    simp [q] at h
    exact ⟨h.1.symm, h.2.symm, p, sl_iff.mp q⟩
theorem oE_inv {m : EM} {e e' : Ev} {r : Rd0} (h : oE m e = some (r, e')) : ∃ d t, m e = some (d, t, e') ∧ r = .early d := by
  unfold oE at h
  cases q : m e with
  | none => simp [q] at h
  | some p =>
    obtain ⟨d, t, e2⟩ := p
    simp [q] at h
    exact ⟨d, t, by rw [h.2], h.1.symm⟩

/-- v stands for d: shared, or an object of ours -/
def RepA (K : PySem.W.Frag) (σ : Sg) (env0 : Ev) (H0 : Hp) (env : Ev) (F H : Hp) (r : Rd0) (v : V) (d : D) : Prop :=
  Rep K F v d ∨ ∃ a, v = .ref a ∧ Ow K F H a d ∧ match r with
    | .late i => ∃ t, t ≠ Tg.sh ∧ env[i]? = some (some (d, t)) ∧ σ[i]? = some (some (V.ref a))
    | .early _ => ¬ Oa σ env a ∧ (H0 a = none ∨ Oa σ env0 a)
def RepB (K : PySem.W.Frag) (F H : Hp) (v : V) (d : D) : Prop := Rep K F v d ∨ ∃ a, v = .ref a ∧ Ow K F H a d
theorem RepA.b {K : PySem.W.Frag} {σ : Sg} {env0 : Ev} {H0 : Hp} {env : Ev} {F H : Hp} {r : Rd0} {v : V} {d : D} (h : RepA K σ env0 H0 env F H r v d) : RepB K F H v d :=
  h.imp id fun ⟨a, e, o, _⟩ => ⟨a, e, o⟩

def LateOk (K : PySem.W.Frag) (σ : Sg) (env0 : Ev) (H0 : Hp) (env : Ev) (F H : Hp) (r : Rd0) (v : V) : Prop :=
  ∀ F2 H2 env2 d, Rl K F2 H2 σ env2 → Ex σ env F H F2 H2 → Le env env2 → rd r env2 = some d → RepA K σ env0 H0 env2 F2 H2 r v d
structure OPost (K : PySem.W.Frag) (σ : Sg) (env : Ev) (F H : Hp) (r : Rd0) (env' : Ev) (F' H' : Hp) (v : V) : Prop where
  rl : Rl K F' H' σ env'
  ex : Ex σ env F H F' H'
  le : Le env env'
  late : LateOk K σ env H env' F' H' r v
def TOof (K : PySem.W.Frag) (o : OM) : TE := fun σ H Q => ∃ F env, Rl K F H σ env ∧ ∃ r env', o env = some (r, env') ∧ ∀ F' H' v, OPost K σ env F H r env' F' H' v → Q v H'

theorem late_late {K : PySem.W.Frag} {σ : Sg} {env0 : Ev} {H0 : Hp} {env : Ev} {F H : Hp} {i : Nat} {v : V} (hv : σ[i]? = some (some v)) : LateOk K σ env0 H0 env F H (.late i) v := fun F2 H2 env2 d r2 _ _ h => by
  obtain ⟨t, e⟩ := rd_late h
  by_cases ht : t = Tg.sh
  · subst ht
    obtain ⟨w, h1, h2⟩ := r2.sh i d e
    rw [hv] at h1
    cases h1
    exact .inl h2
  · obtain ⟨a, h1, h2⟩ := r2.ow i d t ht e
    rw [hv] at h1
    cases h1
    exact .inr ⟨a, rfl, h2, t, ht, e, hv⟩
theorem late_early {K : PySem.W.Frag} {σ : Sg} {env env' : Ev} {F H F' H' : Hp} {v : V} {d : D} {t : Tg} (p : EPost K σ env F H d t env' F' H' v) : LateOk K σ env H env' F' H' (.early d) v := fun F2 H2 env2 d' r2 ex le h => by
  cases h
  have q := p.rep
  cases t with
  | sh => exact .inl (q.mono ex.subF)
  | ow =>
    obtain ⟨_, a, e, ⟨f, o, ho, w⟩, n, nw⟩ := q
    obtain ⟨k1, k2⟩ := ex.keep a o ho n
    exact .inr ⟨a, e, ⟨k2 f w.nt, o, k1, w.mono ex.subF⟩, fun z => n (le.oa z), nw.imp id OaW.oa⟩
  | io =>
    obtain ⟨q, _⟩ := q
    cases q
theorem oE_ok {K : PySem.W.Frag} {m : EM} {σ : Sg} {H : Hp} {Q : VK} (h : TOof K (oE m) σ H Q) : TEof K m σ H Q := by
  obtain ⟨F, env, r, x, env', e, k⟩ := h
  obtain ⟨d, t, em, rfl⟩ := oE_inv e
  exact ⟨F, env, r, d, t, env', em, fun F' H' v p => k F' H' v ⟨p.rl, p.ex, p.le, late_early p⟩⟩
theorem Rl.val {K : PySem.W.Frag} {F H : Hp} {σ : Sg} {env : Ev} (r : Rl K F H σ env) {i : Nat} {p : D × Tg} (h : env[i]? = some (some p)) : ∃ v, σ[i]? = some (some v) := by
  obtain ⟨d, t⟩ := p
  by_cases ht : t = Tg.sh
  · subst ht
    obtain ⟨v, h1, _⟩ := r.sh i d h
    exact ⟨v, h1⟩
  · obtain ⟨a, h1, _⟩ := r.ow i d t ht h
    exact ⟨_, h1⟩
section
variable {X : Cx} {e : Expr}
theorem po_e {m : EM} (h : PE X e (TEof X.K m)) : PE X e (TOof X.K (oE m)) := h.mono fun _ _ _ q => oE_ok q
theorem po_v {i : Nat} (h : PE X e (tVar i)) : PE X e (TOof X.K (oV i)) := h.mono fun σ H Q q => by
  obtain ⟨F, env, r, x, env', e, k⟩ := q
  obtain ⟨rfl, rfl, p, hp⟩ := oV_inv e
  obtain ⟨v, hv⟩ := r.val hp
  exact ⟨v, hv, k F H v ⟨r, .refl, .refl, late_late hv⟩⟩
end

/-- a slot's value as a value of its own: an owned object is shared from here on -/
def eV (i : Nat) : EM := fun e => match sl e i with
  | some (d, .sh) => some (d, .sh, e)
  | some (d, .ow) => some (d, .sh, e.set i (some (d, .sh)))
  | _ => none
/-- a slot given up -/
def eMv (i : Nat) : EM := fun e => match sl e i with
  | some (d, .sh) => some (d, .sh, e)
  | some (d, .ow) => some (d, .ow, e.set i none)
  | _ => none
def eC (d : D) : EM := fun e => some (d, .sh, e)

theorem get_lt {α : Type} {l : List α} {i : Nat} {x : α} (h : l[i]? = some x) : i < l.length := by
  obtain ⟨h, _⟩ := List.getElem?_eq_some_iff.mp h
  exact h
/-- a slot that owned is set to shared -/
theorem Rl.freeze {K : PySem.W.Frag} {F H : Hp} {σ : Sg} {env : Ev} (r : Rl K F H σ env) {i : Nat} {d : D} {a : Addr} {o : HO} (e : env[i]? = some (some (d, Tg.ow))) (hs : σ[i]? = some (some (.ref a))) (ho : H a = some o) (hF : F a = none) (w : OwO K F o d) :
    Rl K (upd F a o) H σ (env.set i (some (d, Tg.sh))) ∧ Same F (upd F a o) ∧ Rep K (upd F a o) (.ref a) d := by
  have sm : Same F (upd F a o) := fun b u h => by rw [upd_ne (ne_of_none h hF)]; exact h
  have rp : Rep K (upd F a o) (.ref a) d := w.rep sm upd_same
  refine ⟨⟨fun b u h => ?_, by simpa using r.len, fun j d' ej => ?_, fun j d' t n ej => ?_, fun j k d1 d2 t u b n1 n2 e1 e2 => ?_⟩, sm, rp⟩
  · by_cases hb : b = a
    · subst hb
      rw [upd_same] at h
      cases h
      exact ho
    · rw [upd_ne hb] at h
      exact r.sub b u h
  · by_cases hj : i = j
    · subst hj
      rw [List.getElem?_set_self (get_lt e)] at ej
      cases ej
      exact ⟨_, hs, rp⟩
    · rw [List.getElem?_set_ne hj] at ej
      obtain ⟨v, h1, h2⟩ := r.sh j d' ej
      exact ⟨v, h1, h2.mono sm⟩
  · by_cases hj : i = j
    · subst hj
      rw [List.getElem?_set_self (get_lt e)] at ej
      cases ej
      exact absurd rfl n
    · rw [List.getElem?_set_ne hj] at ej
      obtain ⟨b, h1, f, u, h2, h3⟩ := r.ow j d' t n ej
      have ne : b ≠ a := fun z => by
        subst z
        exact hj (r.sep i j d d' .ow t b (by decide) n e ej hs h1)
      exact ⟨b, h1, by rw [upd_ne ne]; exact f, u, h2, h3.mono sm⟩
  · by_cases hj : i = j
    · subst hj
      rw [List.getElem?_set_self (get_lt e)] at e1
      cases e1
      exact absurd rfl n1
    · by_cases hk : i = k
      · subst hk
        rw [List.getElem?_set_self (get_lt e)] at e2
        cases e2
        exact absurd rfl n2
      · rw [List.getElem?_set_ne hj] at e1
        rw [List.getElem?_set_ne hk] at e2
        exact r.sep j k d1 d2 t u b n1 n2 e1 e2
theorem le_freeze {env : Ev} {i : Nat} {d : D} (e : env[i]? = some (some (d, Tg.ow))) (x : Option (D × Tg)) (hx : ∀ d' t, x = some (d', t) → t = .sh) : Le env (env.set i x) where
  len := by simp
  ow := fun j d' t n h => by
    by_cases hj : i = j
    · subst hj
      rw [List.getElem?_set_self (get_lt e)] at h
      cases h
      exact absurd (hx d' t rfl) n
    · rw [List.getElem?_set_ne hj] at h
      exact ⟨d', h⟩
  io := fun j d' h => by
    have hj : i ≠ j := fun z => by
      subst z
      rw [e] at h
      cases h
    exact ⟨d', by rw [List.getElem?_set_ne hj]; exact h⟩
section
variable {X : Cx} {e : Expr}
theorem pe_v {i : Nat} (h : PE X e (tVar i)) : PE X e (TEof X.K (eV i)) := h.mono fun σ H Q q => by
  obtain ⟨F, env, r, d, t, env', e, k⟩ := q
  unfold eV at e
  split at e
  · rename_i d' hs
    cases e
    obtain ⟨v, hv, hr⟩ := r.sh i d (sl_iff.mp hs)
    exact ⟨v, hv, k F H v ⟨r, .refl, .refl, hr⟩⟩
  · rename_i d' hs
    cases e
    obtain ⟨a, hv, f, o, ho, w⟩ := r.ow i d .ow (by decide) (sl_iff.mp hs)
    obtain ⟨r2, sm, rp⟩ := r.freeze (sl_iff.mp hs) hv ho f w
    refine ⟨_, hv, k _ H _ ⟨r2, ⟨sm, fun b u hb n => ⟨hb, fun z _ => ?_⟩, fun _ z => z⟩, le_freeze (sl_iff.mp hs) _ (fun _ _ z => by cases z; rfl), rp⟩⟩
    rw [upd_ne]
    · exact z
    · rintro rfl
      exact n ⟨i, d, .ow, by decide, sl_iff.mp hs, hv⟩
  · cases e
theorem pe_mv {i : Nat} (h : PE X e (tVar i)) : PE X e (TEof X.K (eMv i)) := h.mono fun σ H Q q => by
  obtain ⟨F, env, r, d, t, env', e, k⟩ := q
  unfold eMv at e
  split at e
  · rename_i d' hs
    cases e
    obtain ⟨v, hv, hr⟩ := r.sh i d (sl_iff.mp hs)
    exact ⟨v, hv, k F H v ⟨r, .refl, .refl, hr⟩⟩
  · rename_i d' hs
    cases e
    have hs := sl_iff.mp hs
    obtain ⟨a, hv, f, o, ho, w⟩ := r.ow i d .ow (by decide) hs
    have back : ∀ {j : Nat} {p : D × Tg}, (env.set i none)[j]? = some (some p) → i ≠ j ∧ env[j]? = some (some p) := fun {j p} z => by
      by_cases hj : i = j
      · subst hj
        rw [List.getElem?_set_self (get_lt hs)] at z
        cases z
      · rw [List.getElem?_set_ne hj] at z
        exact ⟨hj, z⟩
    refine ⟨_, hv, k _ H _ ⟨⟨r.sub, by simpa using r.len, fun j d' z => r.sh j d' (back z).2, fun j d' t n z => r.ow j d' t n (back z).2, fun j k d1 d2 t u b n1 n2 z1 z2 => r.sep j k d1 d2 t u b n1 n2 (back z1).2 (back z2).2⟩, .refl, le_freeze hs _ (fun _ _ z => by cases z), rfl, a, rfl, ⟨f, o, ho, w⟩, ?_, .inr ⟨i, d, hs, hv⟩⟩⟩
    rintro ⟨j, d', t, n, z, q⟩
    exact (back z).1 (r.sep i j d d' .ow t a (by decide) n hs (back z).2 hv q)
  · cases e
theorem pe_c {v : V} {d : D} (h : PE X e (tC v)) (hr : ∀ F, Rep X.K F v d) : PE X e (TEof X.K (eC d)) := h.mono fun σ H Q q => by
  obtain ⟨F, env, r, d', t, env', e, k⟩ := q
  cases e
  exact k F H v ⟨r, .refl, .refl, hr F⟩
theorem d_int {i j pos} : PE X (.Constant (.int i) j pos) (TEof X.K (eC (.int i))) := pe_c pe_int fun _ => .int i
theorem d_bl {b j pos} : PE X (.Constant (.bool b) j pos) (TEof X.K (eC (.bool b))) := pe_c pe_bl fun _ => .bl b
theorem d_non {j pos} : PE X (.Constant .none j pos) (TEof X.K (eC .none)) := pe_c pe_non fun _ => .non
theorem d_str {x j pos} : PE X (.Constant (.str x) j pos) (TEof X.K (eC (.str x))) := pe_c pe_str fun _ => .str x
end

abbrev AM := Ev → Option (List Rd0 × Ev)
def aN : AM := fun e => some ([], e)
def aC (o : OM) (a : AM) : AM := fun e => (o e).bind fun x => (a x.2).map fun y => (x.1 :: y.1, y.2)
theorem aC_inv {o : OM} {a : AM} {e e2 : Ev} {rs : List Rd0} (h : aC o a e = some (rs, e2)) : ∃ r e1 rs', o e = some (r, e1) ∧ a e1 = some (rs', e2) ∧ rs = r :: rs' := by
  unfold aC at h
  cases q : o e with
  | none => simp [q] at h
  | some p =>
    obtain ⟨r, e1⟩ := p
    simp only [q, Option.bind_some] at h
    cases q2 : a e1 with
    | none => simp [q2] at h
    | some p2 =>
      obtain ⟨rs', e3⟩ := p2
      simp [q2] at h
      exact ⟨r, e1, rs', rfl, by rw [q2, h.2], h.1.symm⟩
def rds : List Rd0 → Ev → Option (List D)
  | [], _ => some []
  | r :: rs, e => (rd r e).bind fun d => (rds rs e).map fun ds => d :: ds
theorem rds_cons {r : Rd0} {rs : List Rd0} {e : Ev} {ds : List D} (h : rds (r :: rs) e = some ds) : ∃ d ds', rd r e = some d ∧ rds rs e = some ds' ∧ ds = d :: ds' := by
  unfold rds at h
  cases q : rd r e with
  | none => simp [q] at h
  | some d =>
    simp only [q, Option.bind_some] at h
    cases q2 : rds rs e with
    | none => simp [q2] at h
    | some ds' =>
      simp [q2] at h
      exact ⟨d, ds', rfl, rfl, h.symm⟩
inductive RepAs (K : PySem.W.Frag) (σ : Sg) (env0 : Ev) (H0 : Hp) (env : Ev) (F H : Hp) : List Rd0 → List V → List D → Prop
  | nil : RepAs K σ env0 H0 env F H [] [] []
  | cons {r : Rd0} {v : V} {d : D} {rs : List Rd0} {vs : List V} {ds : List D} : RepA K σ env0 H0 env F H r v d → RepAs K σ env0 H0 env F H rs vs ds → RepAs K σ env0 H0 env F H (r :: rs) (v :: vs) (d :: ds)
structure APost (K : PySem.W.Frag) (σ : Sg) (env : Ev) (F H : Hp) (rs : List Rd0) (env' : Ev) (F' H' : Hp) (vs : List V) : Prop where
  rl : Rl K F' H' σ env'
  ex : Ex σ env F H F' H'
  le : Le env env'
  late : ∀ F2 H2 env2 ds, Rl K F2 H2 σ env2 → Ex σ env' F' H' F2 H2 → Le env' env2 → rds rs env2 = some ds → RepAs K σ env H env2 F2 H2 rs vs ds
def TAof (K : PySem.W.Frag) (a : AM) : TA := fun σ H Q => ∃ F env, Rl K F H σ env ∧ ∃ rs env', a env = some (rs, env') ∧ ∀ F' H' vs, APost K σ env F H rs env' F' H' vs → Q vs H'
theorem RepAs.back {K : PySem.W.Frag} {σ : Sg} {env0 env1 : Ev} {H0 H1 : Hp} {env : Ev} {F H : Hp} (dom : ∀ a, H1 a = none → H0 a = none) (le : ∀ a, Oa σ env1 a → Oa σ env0 a) : ∀ {rs : List Rd0} {vs : List V} {ds : List D}, RepAs K σ env1 H1 env F H rs vs ds → RepAs K σ env0 H0 env F H rs vs ds
  | _, _, _, .nil => .nil
  | r :: _, _, _, .cons h t => by
    refine .cons ?_ (RepAs.back dom le t)
    rcases h with h | ⟨a, e, o, q⟩
    · exact .inl h
    · refine .inr ⟨a, e, o, ?_⟩
      cases r with
      | late i => exact q
      | early d => exact ⟨q.1, q.2.imp (dom a) (le a)⟩
theorem LateOk.later {K : PySem.W.Frag} {σ : Sg} {env0 : Ev} {H0 : Hp} {env env1 : Ev} {F H F1 H1 : Hp} {r : Rd0} {v : V} (h : LateOk K σ env0 H0 env F H r v) (ex : Ex σ env F H F1 H1) (le : Le env env1) : LateOk K σ env0 H0 env1 F1 H1 r v :=
  fun F2 H2 env2 d r2 ex2 le2 q => h F2 H2 env2 d r2 (ex.then le ex2) (le.trans le2) q
section
variable {X : Cx} {e : Expr} {es : List Expr}
theorem qa_nil : PA X [] (TAof X.K aN) := pa_nil.mono fun σ H Q q => by
  obtain ⟨F, env, r, rs, env', e, k⟩ := q
  cases e
  exact k F H [] ⟨r, .refl, .refl, fun _ _ _ ds _ _ _ h => by cases h; exact .nil⟩
theorem qa_cons {o : OM} {a : AM} (ho : PE X e (TOof X.K o)) (ha : PA X es (TAof X.K a)) (hs : starEach (e :: es) X.env = (false, eval e X.env) :: starEach es X.env := by rfl) : PA X (e :: es) (TAof X.K (aC o a)) := (pa_cons ho ha hs).mono fun σ H Q q => by
  obtain ⟨F, env, r, rs, env', e, k⟩ := q
  obtain ⟨r1, e1, rs', h1, h2, rfl⟩ := aC_inv e
  refine ⟨F, env, r, r1, e1, h1, fun F1 H1 v p => ⟨F1, e1, p.rl, rs', env', h2, fun F2 H2 vs p2 => k F2 H2 (v :: vs) ⟨p2.rl, p.ex.then p.le p2.ex, p.le.trans p2.le, fun F3 H3 e3 ds r3 x3 l3 h => ?_⟩⟩⟩
  obtain ⟨d, ds', hd, hds, rfl⟩ := rds_cons h
  exact .cons ((p.late.later p2.ex p2.le) F3 H3 e3 d r3 x3 l3 hd) ((p2.late F3 H3 e3 ds' r3 x3 l3 hds).back p.ex.dom fun a => p.le.oa)
end

abbrev Res := D × Tg
def rD1 (K : PySem.W.Frag) (op : D → Option Res) : V → Hp → VK → Prop := fun x H Q => ∃ F dx d t, Same F H ∧ RepB K F H x dx ∧ op dx = some (d, t) ∧ ∀ F' H' v, VPost K F H F' H' v d t → Q v H'
def rD2 (K : PySem.W.Frag) (op : D → D → Option Res) : R2 := fun x y H Q => ∃ F dx dy d t, Same F H ∧ RepB K F H x dx ∧ RepB K F H y dy ∧ op dx dy = some (d, t) ∧ ∀ F' H' v, VPost K F H F' H' v d t → Q v H'
inductive RepBs (K : PySem.W.Frag) (F H : Hp) : List V → List D → Prop
  | nil : RepBs K F H [] []
  | cons {v : V} {d : D} {vs : List V} {ds : List D} : RepB K F H v d → RepBs K F H vs ds → RepBs K F H (v :: vs) (d :: ds)
theorem RepAs.b {K : PySem.W.Frag} {σ : Sg} {env0 : Ev} {H0 : Hp} {env : Ev} {F H : Hp} : ∀ {rs : List Rd0} {vs : List V} {ds : List D}, RepAs K σ env0 H0 env F H rs vs ds → RepBs K F H vs ds
  | _, _, _, .nil => .nil
  | _, _, _, .cons h r => .cons h.b r.b
def rDn (K : PySem.W.Frag) (op : List D → Option Res) : List V → Hp → VK → Prop := fun xs H Q => ∃ F ds d t, Same F H ∧ RepBs K F H xs ds ∧ op ds = some (d, t) ∧ ∀ F' H' v, VPost K F H F' H' v d t → Q v H'

def e1 (op : D → Option Res) (o : OM) : EM := fun e => (o e).bind fun x => (rd x.1 x.2).bind fun a => (op a).map fun z => (z.1, z.2, x.2)
def e2 (op : D → D → Option Res) (o1 o2 : OM) : EM := fun e => (o1 e).bind fun x => (o2 x.2).bind fun y => (rd x.1 y.2).bind fun a => (rd y.1 y.2).bind fun b => (op a b).map fun z => (z.1, z.2, y.2)
def eN (op : List D → Option Res) (a : AM) : EM := fun e => (a e).bind fun x => (rds x.1 x.2).bind fun ds => (op ds).map fun z => (z.1, z.2, x.2)
theorem e1_inv {op : D → Option Res} {o : OM} {e e' : Ev} {d : D} {t : Tg} (h : e1 op o e = some (d, t, e')) : ∃ r a, o e = some (r, e') ∧ rd r e' = some a ∧ op a = some (d, t) := by
  unfold e1 at h
  simp only [Option.bind_eq_some_iff, Option.map_eq_some_iff] at h
  obtain ⟨⟨r, e2⟩, h1, a, h2, ⟨z1, z2⟩, h3, h4⟩ := h
  cases h4
  exact ⟨r, a, h1, h2, h3⟩
theorem e2_inv {op : D → D → Option Res} {o1 o2 : OM} {e e' : Ev} {d : D} {t : Tg} (h : e2 op o1 o2 e = some (d, t, e')) : ∃ r1 em r2 a b, o1 e = some (r1, em) ∧ o2 em = some (r2, e') ∧ rd r1 e' = some a ∧ rd r2 e' = some b ∧ op a b = some (d, t) := by
  unfold e2 at h
  simp only [Option.bind_eq_some_iff, Option.map_eq_some_iff] at h
  obtain ⟨⟨r1, em⟩, h1, ⟨r2, en⟩, h2, a, h3, b, h4, ⟨z1, z2⟩, h5, h6⟩ := h
  cases h6
  exact ⟨r1, em, r2, a, b, h1, h2, h3, h4, h5⟩
theorem eN_inv {op : List D → Option Res} {a : AM} {e e' : Ev} {d : D} {t : Tg} (h : eN op a e = some (d, t, e')) : ∃ rs ds, a e = some (rs, e') ∧ rds rs e' = some ds ∧ op ds = some (d, t) := by
  unfold eN at h
  simp only [Option.bind_eq_some_iff, Option.map_eq_some_iff] at h
  obtain ⟨⟨r, e2⟩, h1, ds, h2, ⟨z1, z2⟩, h3, h4⟩ := h
  cases h4
  exact ⟨r, ds, h1, h2, h3⟩
theorem core1 {K : PySem.W.Frag} {op : D → Option Res} {o : OM} {σ : Sg} {H : Hp} {Q : VK} (h : TEof K (e1 op o) σ H Q) : TOof K o σ H fun x H1 => rD1 K op x H1 Q := by
  obtain ⟨F, env, r, d, t, env', e, k⟩ := h
  obtain ⟨r1, a, h1, h2, h3⟩ := e1_inv e
  refine ⟨F, env, r, r1, env', h1, fun F1 H1 v p => ⟨F1, a, d, t, p.rl.sub, (p.late F1 H1 env' a p.rl .refl .refl h2).b, h3, fun F' H' w q => k F' H' w ((q.epost p.rl).after p.ex p.le)⟩⟩
theorem core2 {K : PySem.W.Frag} {op : D → D → Option Res} {o1 o2 : OM} {σ : Sg} {H : Hp} {Q : VK} (h : TEof K (e2 op o1 o2) σ H Q) : tOp (rD2 K op) (TOof K o1) (TOof K o2) σ H Q := by
  obtain ⟨F, env, r, d, t, env', e, k⟩ := h
  obtain ⟨r1, em, r2, a, b, h1, h2, h3, h4, h5⟩ := e2_inv e
  refine ⟨F, env, r, r1, em, h1, fun F1 H1 v p => ⟨F1, em, p.rl, r2, env', h2, fun F2 H2 w p2 => ⟨F2, a, b, d, t, p2.rl.sub, (p.late F2 H2 env' a p2.rl p2.ex p2.le h3).b, (p2.late F2 H2 env' b p2.rl .refl .refl h4).b, h5, fun F' H' z q => k F' H' z (((q.epost p2.rl).after p2.ex p2.le).after p.ex p.le)⟩⟩⟩
theorem coreN {K : PySem.W.Frag} {op : List D → Option Res} {a : AM} {σ : Sg} {H : Hp} {Q : VK} (h : TEof K (eN op a) σ H Q) : TAof K a σ H fun xs H1 => rDn K op xs H1 Q := by
  obtain ⟨F, env, r, d, t, env', e, k⟩ := h
  obtain ⟨rs, ds, h1, h2, h3⟩ := eN_inv e
  refine ⟨F, env, r, rs, env', h1, fun F1 H1 v p => ⟨F1, ds, d, t, p.rl.sub, (p.late F1 H1 env' ds p.rl .refl .refl h2).b, h3, fun F' H' w q => k F' H' w ((q.epost p.rl).after p.ex p.le)⟩⟩
section
variable {X : Cx} {a b c : Expr} {es : List Expr} {pos : Pos} {o1 o2 : OM} {am : AM}
theorem d_bin {op : Operator} {f : D → D → Option Res} (ho : OpR X (binaryOp op) (rD2 X.K f)) (ha : PE X a (TOof X.K o1)) (hb : PE X b (TOof X.K o2)) : PE X (.BinOp a op b pos) (TEof X.K (e2 f o1 o2)) := (pe_op ho ha hb).mono fun _ _ _ q => core2 q
theorem d_un {op : UnaryOp} {f : D → Option Res} (ho : UnR X (unaryOp op) (rD1 X.K f)) (ha : PE X a (TOof X.K o1)) : PE X (.UnaryOp op a pos) (TEof X.K (e1 f o1)) := (pe_un ho ha).mono fun _ _ _ q => core1 q
theorem d_cmp {op : CmpOp} {f : D → D → Option Res} (ho : OpR X (compareOp op) (rD2 X.K f)) (ha : PE X a (TOof X.K o1)) (hb : PE X b (TOof X.K o2)) (hm : behindInMarks op b = false) : PE X (.Compare a [op] [b] pos) (TEof X.K (e2 f o1 o2)) := (pe_cmpR ho ha hb hm).mono fun _ _ _ q => core2 q
end

abbrev TM := Ev → Option (Bool × Ev)
structure TPost (K : PySem.W.Frag) (σ : Sg) (env : Ev) (F H : Hp) (env' : Ev) (F' H' : Hp) : Prop where
  rl : Rl K F' H' σ env'
  ex : Ex σ env F H F' H'
  le : Le env env'
def TTof (K : PySem.W.Frag) (t : TM) : TT := fun σ H Q => ∃ F env, Rl K F H σ env ∧ ∃ b env', t env = some (b, env') ∧ ∀ F' H', TPost K σ env F H env' F' H' → Q b H'
/-- an expression whose value is a bool -/
def tB (m : EM) : TM := fun e => match m e with
  | some (.bool b, .sh, e') => some (b, e')
  | _ => none
theorem tB_inv {m : EM} {e e' : Ev} {b : Bool} (h : tB m e = some (b, e')) : m e = some (.bool b, .sh, e') := by
  unfold tB at h
  split at h
  · rename_i b' e2 q
    cases h
    exact q
  · cases h
theorem tB_core {K : PySem.W.Frag} {m : EM} {σ : Sg} {H : Hp} {Q : Bool → Hp → Prop} (h : TTof K (tB m) σ H Q) : TEof K m σ H fun x H' => ∃ k, x = .bl k ∧ Q k H' := by
  obtain ⟨F, env, r, b, env', e, k⟩ := h
  refine ⟨F, env, r, .bool b, .sh, env', tB_inv e, fun F' H' v p => ?_⟩
  have q : Rep K F' v (.bool b) := p.rep
  cases q
  exact ⟨b, rfl, k F' H' ⟨p.rl, p.ex, p.le⟩⟩
def truD : D → Option Bool
  | .none => some false
  | .bool b => some b
  | .int i => some (i != 0)
  | .str x => if x.length ≤ sizeLine then some ((x.length : Int) != 0) else none
  | .list xs => some (!xs.isEmpty)
  | .tuple xs => some (!xs.isEmpty)
  | .dict _ => none
def tO (o : OM) : TM := fun e => (o e).bind fun x => (rd x.1 x.2).bind fun d => (truD d).map fun b => (b, x.2)
theorem Reps.emp {K : PySem.W.Frag} {F : Hp} {vs : List V} {ds : List D} (r : Reps K F vs ds) : vs.isEmpty = ds.isEmpty := by
  cases r <;> rfl
theorem RepB.list {K : PySem.W.Frag} {F H : Hp} {v : V} {ds : List D} (s : Same F H) (h : RepB K F H v (.list ds)) : ∃ a vs, v = .ref a ∧ SqL K H a vs ∧ Reps K F vs ds := by
  rcases h with h | ⟨a, rfl, f, o, ho, w⟩
  · cases h with
    | lst q r => exact ⟨_, _, rfl, sqL_mono s q, r⟩
  · cases w with
    | lst r => exact ⟨a, _, rfl, .inl (.inl ho), r⟩
theorem RepB.tup {K : PySem.W.Frag} {F H : Hp} {v : V} {ds : List D} (s : Same F H) (h : RepB K F H v (.tuple ds)) : ∃ a vs, v = .ref a ∧ H a = some (.tup vs) ∧ Reps K F vs ds := by
  rcases h with h | ⟨a, rfl, f, o, ho, w⟩
  · cases h with
    | tup q r => exact ⟨_, _, rfl, s _ _ q, r⟩
  · cases w
theorem RepB.int {K : PySem.W.Frag} {F H : Hp} {v : V} {i : Int} (h : RepB K F H v (.int i)) : v = .int i := by
  rcases h with h | ⟨a, rfl, f, o, ho, w⟩
  · cases h
    rfl
  · cases w
theorem RepB.bool {K : PySem.W.Frag} {F H : Hp} {v : V} {i : Bool} (h : RepB K F H v (.bool i)) : v = .bl i := by
  rcases h with h | ⟨a, rfl, f, o, ho, w⟩
  · cases h
    rfl
  · cases w
theorem RepB.str {K : PySem.W.Frag} {F H : Hp} {v : V} {i : Str} (h : RepB K F H v (.str i)) : v = .str i := by
  rcases h with h | ⟨a, rfl, f, o, ho, w⟩
  · cases h
    rfl
  · cases w
theorem RepB.none {K : PySem.W.Frag} {F H : Hp} {v : V} (h : RepB K F H v .none) : v = .non := by
  rcases h with h | ⟨a, rfl, f, o, ho, w⟩
  · cases h
    rfl
  · cases w
theorem truV_of {K : PySem.W.Frag} {F H : Hp} {v : V} {d : D} {b : Bool} (s : Same F H) (h : RepB K F H v d) (e : truD d = some b) : TruV K v H b := by
  cases d with
  | none => cases e; rw [h.none]; rfl
  | bool b => cases e; rw [h.bool]; rfl
  | int i => cases e; rw [h.int]; rfl
  | str x =>
    have e : (if x.length ≤ sizeLine then some ((x.length : Int) != 0) else none) = some b := e
    by_cases hx : x.length ≤ sizeLine
    · rw [if_pos hx] at e
      cases e
      rw [h.str]
      exact ⟨hx, rfl⟩
    · rw [if_neg hx] at e
      cases e
  | list xs =>
    cases e
    obtain ⟨a, vs, rfl, q, r⟩ := h.list s
    exact .inl ⟨vs, q, by rw [r.emp]⟩
  | tuple xs =>
    cases e
    obtain ⟨a, vs, rfl, q, r⟩ := h.tup s
    exact .inr (.inl ⟨vs, .of q, by rw [r.emp]⟩)
  | dict _ => cases e
theorem tO_core {K : PySem.W.Frag} {o : OM} {σ : Sg} {H : Hp} {Q : Bool → Hp → Prop} (h : TTof K (tO o) σ H Q) : TOof K o σ H fun x H' => ∃ k, TruV K x H' k ∧ Q k H' := by
  obtain ⟨F, env, r, b, env', e, k⟩ := h
  unfold tO at e
  simp only [Option.bind_eq_some_iff, Option.map_eq_some_iff] at e
  obtain ⟨⟨r1, e2⟩, h1, d, h2, b', h3, h4⟩ := e
  cases h4
  exact ⟨F, env, r, r1, e2, h1, fun F' H' v p => ⟨b, truV_of p.rl.sub (p.late F' H' e2 d p.rl .refl .refl h2).b h3, k F' H' ⟨p.rl, p.ex, p.le⟩⟩⟩
def tAnd' (t u : TM) : TM := fun e => (t e).bind fun x => if x.1 = true then u x.2 else some (false, x.2)
def tOr' (t u : TM) : TM := fun e => (t e).bind fun x => if x.1 = true then some (true, x.2) else u x.2
def tNot' (t : TM) : TM := fun e => (t e).map fun x => (!x.1, x.2)
theorem TTof.then {K : PySem.W.Frag} {t : TM} {σ : Sg} {H : Hp} {Q : Bool → Hp → Prop} {F : Hp} {env env1 env2 : Ev} {b c : Bool} {u : TM} (r : Rl K F H σ env) (h1 : t env = some (b, env1)) (h2 : u env1 = some (c, env2))
    (k : ∀ F' H', TPost K σ env F H env2 F' H' → Q c H') : TTof K t σ H fun b' H1 => b' = b ∧ TTof K u σ H1 Q :=
  ⟨F, env, r, b, env1, h1, fun F1 H1 p => ⟨rfl, F1, env1, p.rl, c, env2, h2, fun F' H' q => k F' H' ⟨q.rl, p.ex.then p.le q.ex, p.le.trans q.le⟩⟩⟩
theorem TTof.mono {K : PySem.W.Frag} {t : TM} {σ : Sg} {H : Hp} {Q Q' : Bool → Hp → Prop} (h : TTof K t σ H Q) (q : ∀ b H', Q b H' → Q' b H') : TTof K t σ H Q' := by
  obtain ⟨F, env, r, b, env', e, k⟩ := h
  exact ⟨F, env, r, b, env', e, fun F' H' p => q _ _ (k F' H' p)⟩
section
variable {X : Cx} {a b c : Expr} {rest : List Expr} {pos : Pos} {t u : TM} {o : OM} {m m1 m2 : EM}
theorem y_cmp {op : CmpOp} {f : D → D → Option Res} {o1 o2 : OM} (ho : OpR X (compareOp op) (rD2 X.K f)) (ha : PE X a (TOof X.K o1)) (hb : PE X b (TOof X.K o2)) (hm : behindInMarks op b = false) : PT X (.Compare a [op] [b] pos) (TTof X.K (tB (e2 f o1 o2))) :=
  (pt_cmpR ho ha hb hm).mono fun _ _ _ q => core2 (tB_core q)
theorem y_tru (ha : PE X a (TOof X.K o)) (he : ∀ whole, isTrue a X.env whole = (do let v ← whole; standAt a.pos; holding [v] (truthy v)) := by intro _; rfl) : PT X a (TTof X.K (tO o)) := (pt_truth ha he).mono fun _ _ _ q => tO_core q
theorem y_not (h : PT X a (TTof X.K t)) : PT X (.UnaryOp .Not a pos) (TTof X.K (tNot' t)) := (pt_not h).mono fun σ H Q q => by
  obtain ⟨F, env, r, b, env', e, k⟩ := q
  unfold tNot' at e
  simp only [Option.map_eq_some_iff] at e
  obtain ⟨⟨c, e2⟩, h1, h2⟩ := e
  cases h2
  exact ⟨F, env, r, c, e2, h1, fun F' H' p => k F' H' p⟩
theorem y_and1 (h : PT X a (TTof X.K t)) : PW X (.BoolOp .And [a] pos) (TTof X.K t) := pw_and1 h
theorem y_or1 (h : PT X a (TTof X.K t)) : PW X (.BoolOp .Or [a] pos) (TTof X.K t) := pw_or1 h
theorem y_and (h : PT X a (TTof X.K t)) (h2 : PW X (.BoolOp .And (b :: rest) pos) (TTof X.K u)) : PW X (.BoolOp .And (a :: b :: rest) pos) (TTof X.K (tAnd' t u)) := (pw_and h h2).mono fun σ H Q q => by
  obtain ⟨F, env, r, c, env', e, k⟩ := q
  unfold tAnd' at e
  simp only [Option.bind_eq_some_iff] at e
  obtain ⟨⟨d, e1⟩, h1, h2⟩ := e
  cases d with
  | true =>
    rw [if_pos rfl] at h2
    exact (TTof.then r h1 h2 k).mono fun b H' ⟨z, q⟩ => by subst z; exact q
  | false =>
    rw [if_neg Bool.false_ne_true] at h2
    cases h2
    exact ⟨F, env, r, false, e1, h1, fun F' H' p => k F' H' p⟩
theorem y_or (h : PT X a (TTof X.K t)) (h2 : PW X (.BoolOp .Or (b :: rest) pos) (TTof X.K u)) : PW X (.BoolOp .Or (a :: b :: rest) pos) (TTof X.K (tOr' t u)) := (pw_or h h2).mono fun σ H Q q => by
  obtain ⟨F, env, r, c, env', e, k⟩ := q
  unfold tOr' at e
  simp only [Option.bind_eq_some_iff] at e
  obtain ⟨⟨d, e1⟩, h1, h2⟩ := e
  cases d with
  | false =>
    rw [if_neg Bool.false_ne_true] at h2
    exact (TTof.then r h1 h2 k).mono fun b H' ⟨z, q⟩ => by subst z; exact q
  | true =>
    rw [if_pos rfl] at h2
    cases h2
    exact ⟨F, env, r, true, e1, h1, fun F' H' p => k F' H' p⟩
/-- .. as values -/
def eAnd (m1 m2 : EM) : EM := fun e => match m1 e with
  | some (.bool true, .sh, e') => m2 e'
  | some (.bool false, .sh, e') => some (.bool false, .sh, e')
  | _ => none
def eOr (m1 m2 : EM) : EM := fun e => match m1 e with
  | some (.bool false, .sh, e') => m2 e'
  | some (.bool true, .sh, e') => some (.bool true, .sh, e')
  | _ => none
def eNot (m : EM) : EM := fun e => match m e with
  | some (.bool b, .sh, e') => some (.bool (!b), .sh, e')
  | _ => none
def eIf (t : TM) (m1 m2 : EM) : EM := fun e => (t e).bind fun x => if x.1 = true then m1 x.2 else m2 x.2
theorem d_one {op} {m : EM} (h : PE X a (TEof X.K m)) : PE X (.BoolOp op [a] pos) (TEof X.K m) := pe_one h
theorem d_and (h : PE X a (TEof X.K m1)) (h2 : PE X (.BoolOp .And (b :: rest) pos) (TEof X.K m2)) : PE X (.BoolOp .And (a :: b :: rest) pos) (TEof X.K (eAnd m1 m2)) := (pe_and h h2).mono fun σ H Q q => by
  obtain ⟨F, env, r, d, t, env', e, k⟩ := q
  unfold eAnd at e
  split at e
  · rename_i e1 h1
    refine ⟨F, env, r, _, _, _, h1, fun F1 H1 v p => ?_⟩
    have q : Rep X.K F1 v (.bool true) := p.rep
    cases q
    refine ⟨true, rfl, ?_⟩
    rw [if_pos rfl]
    exact ⟨F1, _, p.rl, d, t, env', e, fun F' H' v p2 => k F' H' v (p2.after p.ex p.le)⟩
  · rename_i e1 h1
    cases e
    refine ⟨F, env, r, _, _, _, h1, fun F1 H1 v p => ?_⟩
    have q : Rep X.K F1 v (.bool false) := p.rep
    cases q
    refine ⟨false, rfl, ?_⟩
    rw [if_neg (by decide)]
    exact k F1 H1 _ p
  · cases e
theorem d_or (h : PE X a (TEof X.K m1)) (h2 : PE X (.BoolOp .Or (b :: rest) pos) (TEof X.K m2)) : PE X (.BoolOp .Or (a :: b :: rest) pos) (TEof X.K (eOr m1 m2)) := (pe_or h h2).mono fun σ H Q q => by
  obtain ⟨F, env, r, d, t, env', e, k⟩ := q
  unfold eOr at e
  split at e
  · rename_i e1 h1
    refine ⟨F, env, r, _, _, _, h1, fun F1 H1 v p => ?_⟩
    have q : Rep X.K F1 v (.bool false) := p.rep
    cases q
    refine ⟨false, rfl, ?_⟩
    rw [if_neg (by decide)]
    exact ⟨F1, _, p.rl, d, t, env', e, fun F' H' v p2 => k F' H' v (p2.after p.ex p.le)⟩
  · rename_i e1 h1
    cases e
    refine ⟨F, env, r, _, _, _, h1, fun F1 H1 v p => ?_⟩
    have q : Rep X.K F1 v (.bool true) := p.rep
    cases q
    refine ⟨true, rfl, ?_⟩
    rw [if_pos rfl]
    exact k F1 H1 _ p
  · cases e
theorem d_not (h : PE X a (TEof X.K m)) : PE X (.UnaryOp .Not a pos) (TEof X.K (eNot m)) := (pe_not h).mono fun σ H Q q => by
  obtain ⟨F, env, r, d, t, env', e, k⟩ := q
  unfold eNot at e
  split at e
  · rename_i b e1 h1
    cases e
    refine ⟨F, env, r, _, _, _, h1, fun F1 H1 v p => ?_⟩
    have q : Rep X.K F1 v (.bool b) := p.rep
    cases q
    exact ⟨b, rfl, k F1 H1 _ ⟨p.rl, p.ex, p.le, .bl _⟩⟩
  · cases e
theorem d_if (hc : PT X c (TTof X.K t)) (ha : PE X a (TEof X.K m1)) (hb : PE X b (TEof X.K m2)) : PE X (.IfExp c a b pos) (TEof X.K (eIf t m1 m2)) := (pe_ifExp hc ha hb).mono fun σ H Q q => by
  obtain ⟨F, env, r, d, tg, env', e, k⟩ := q
  unfold eIf at e
  simp only [Option.bind_eq_some_iff] at e
  obtain ⟨⟨b, e1⟩, h1, h2⟩ := e
  refine ⟨F, env, r, b, e1, h1, fun F1 H1 p => ?_⟩
  cases b with
  | true =>
    rw [if_pos rfl] at h2 ⊢
    exact ⟨F1, e1, p.rl, d, tg, env', h2, fun F' H' v p2 => k F' H' v (p2.after p.ex p.le)⟩
  | false =>
    rw [if_neg Bool.false_ne_true] at h2 ⊢
    exact ⟨F1, e1, p.rl, d, tg, env', h2, fun F' H' v p2 => k F' H' v (p2.after p.ex p.le)⟩
/-- a op b op' c -/
def rB (z : Res) : Option Bool := match z with
  | (.bool k, .sh) => some k
  | _ => none
theorem rB_inv {z : Res} {k : Bool} (h : rB z = some k) : z = (.bool k, .sh) := by
  unfold rB at h
  split at h
  · cases h
    rfl
  · cases h
def eCh2 (g : D → D → Option Res) (y : Rd0) (o3 : OM) : EM := fun e => (o3 e).bind fun w => (rd y w.2).bind fun q => (rd w.1 w.2).bind fun s => ((g q s).bind rB).map fun k => (.bool k, .sh, w.2)
def eCh (f g : D → D → Option Res) (o1 o2 o3 : OM) : EM := fun e => (o1 e).bind fun x => (o2 x.2).bind fun y => (rd x.1 y.2).bind fun p => (rd y.1 y.2).bind fun q => ((f p q).bind rB).bind fun k =>
  if k = true then eCh2 g y.1 o3 y.2 else some (.bool false, .sh, y.2)
theorem ch_core {K : PySem.W.Frag} {f g : D → D → Option Res} {o1 o2 o3 : OM} {σ : Sg} {H : Hp} {Q : VK} (h : TEof K (eCh f g o1 o2 o3) σ H Q) : tChain (rD2 K f) (rD2 K g) (TOof K o1) (TOof K o2) (TOof K o3) σ H Q := by
  obtain ⟨F, env, r, d, t, env', e, k⟩ := h
  unfold eCh at e
  simp only [Option.bind_eq_some_iff] at e
  obtain ⟨⟨r1, e1⟩, h1, ⟨r2, em⟩, h2, p, h3, q, h4, kk, ⟨z, h5, hz⟩, h6⟩ := e
  rw [rB_inv hz] at h5
  refine ⟨F, env, r, r1, e1, h1, fun F1 H1 v p1 => ⟨F1, e1, p1.rl, r2, em, h2, fun F2 H2 w p2 => ?_⟩⟩
  refine ⟨F2, p, q, .bool kk, .sh, p2.rl.sub, (p1.late F2 H2 em p p2.rl p2.ex p2.le h3).b, (p2.late F2 H2 em q p2.rl .refl .refl h4).b, h5, fun F3 H3 zv vp => ?_⟩
  have rz : Rep K F3 zv (.bool kk) := vp.rep
  cases rz
  refine ⟨kk, rfl, ?_⟩
  have p3 := vp.epost p2.rl
  cases kk with
  | true =>
    rw [if_pos rfl] at h6 ⊢
    unfold eCh2 at h6
    simp only [Option.bind_eq_some_iff, Option.map_eq_some_iff] at h6
    obtain ⟨⟨r3, e3⟩, h7, q', h8, s', h9, kz, ⟨z2, h10, hz2⟩, h11⟩ := h6
    rw [rB_inv hz2] at h10
    cases h11
    refine ⟨F3, em, p3.rl, r3, e3, h7, fun F4 H4 w4 p4 => ⟨F4, q', s', .bool kz, .sh, p4.rl.sub, (p2.late F4 H4 e3 q' p4.rl (p3.ex.then .refl p4.ex) p4.le h8).b, (p4.late F4 H4 e3 s' p4.rl .refl .refl h9).b, h10, fun F' H' zv q5 => ?_⟩⟩
    exact k F' H' zv (((((q5.epost p4.rl).after p4.ex p4.le).after p3.ex p3.le).after p2.ex p2.le).after p1.ex p1.le)
  | false =>
    rw [if_neg Bool.false_ne_true] at h6 ⊢
    cases h6
    exact k F3 H3 _ ((p3.after p2.ex p2.le).after p1.ex p1.le)
theorem d_ch {op op' : CmpOp} {f g : D → D → Option Res} {o1 o2 o3 : OM} (ho : OpR X (compareOp op) (rD2 X.K f)) (ho' : OpR X (compareOp op') (rD2 X.K g)) (ha : PE X a (TOof X.K o1)) (hb : PE X b (TOof X.K o2)) (hc : PE X c (TOof X.K o3))
    (hm : lastMarks [op, op'] [b, c] = false := by with_unfolding_all rfl) : PE X (.Compare a [op, op'] [b, c] pos) (TEof X.K (eCh f g o1 o2 o3)) := (pe_chain ho ho' ha hb hc hm).mono fun _ _ _ q => ch_core q
theorem y_ch {op op' : CmpOp} {f g : D → D → Option Res} {o1 o2 o3 : OM} (ho : OpR X (compareOp op) (rD2 X.K f)) (ho' : OpR X (compareOp op') (rD2 X.K g)) (ha : PE X a (TOof X.K o1)) (hb : PE X b (TOof X.K o2)) (hc : PE X c (TOof X.K o3))
    (hm : lastMarks [op, op'] [b, c] = false := by with_unfolding_all rfl) : PT X (.Compare a [op, op'] [b, c] pos) (TTof X.K (tB (eCh f g o1 o2 o3))) := (pt_chain ho ho' ha hb hc hm).mono fun _ _ _ q => ch_core (tB_core q)
end
end Dd
namespace Dd
open PySem PySem.Spec PyProof.Rows L2
open Classical in
/-- the part that nobody changes, with what is lent -/
noncomputable def lend (F H : Hp) (L : Addr → Prop) : Hp := fun a => if L a then H a else F a
theorem lend_yes {F H : Hp} {L : Addr → Prop} {a : Addr} (h : L a) : lend F H L a = H a := by unfold lend; rw [if_pos h]
theorem lend_no {F H : Hp} {L : Addr → Prop} {a : Addr} (h : ¬ L a) : lend F H L a = F a := by unfold lend; rw [if_neg h]

def scal : D → Bool
  | .none => true
  | .bool _ => true
  | .int _ => true
  | .str _ => true
  | _ => false
theorem scal_rep {K : PySem.W.Frag} {F F' : Hp} {v : V} {d : D} (h : scal d = true) (r : Rep K F v d) : Rep K F' v d := by
  cases r with
  | non => exact .non
  | bl b => exact .bl b
  | int i => exact .int i
  | str x => exact .str x
  | lst _ _ => cases h
  | tup _ _ => cases h
  | dK _ _ => cases h
  | dT _ _ => cases h
/-- the lent slots are shared from here on -/
def fz1 (r : Rd0) (e : Ev) : Option Ev := match r with
  | .early _ => some e
  | .late i => match sl e i with
    | some (_, .sh) => some e
    | some (d, .ow) => some (e.set i (some (d, .sh)))
    | _ => none
def fzs : List Rd0 → Ev → Option Ev
  | [], e => some e
  | r :: rs, e => (fz1 r e).bind (fzs rs)

/-- which slots are frozen -/
theorem fz1_spec {r : Rd0} {e e' : Ev} (h : fz1 r e = some e') : Le e e' ∧ ∀ (j : Nat) (p : D × Tg), e'[j]? = some (some p) → e[j]? = some (some p) ∨ (p.2 = .sh ∧ r = .late j ∧ e[j]? = some (some (p.1, Tg.ow))) := by
  cases r with
  | early d =>
    cases h
    exact ⟨.refl, fun j p q => .inl q⟩
  | late i =>
    unfold fz1 at h
    simp only at h
    split at h
    · cases h
      exact ⟨.refl, fun j p q => .inl q⟩
    · rename_i d hs
      cases h
      have hs := sl_iff.mp hs
      refine ⟨le_freeze hs _ (fun _ _ z => by cases z; rfl), fun j p q => ?_⟩
      by_cases hj : i = j
      · subst hj
        rw [List.getElem?_set_self (get_lt hs)] at q
        cases q
        exact .inr ⟨rfl, rfl, hs⟩
      · rw [List.getElem?_set_ne hj] at q
        exact .inl q
    · cases h
theorem fzs_spec : ∀ {rs : List Rd0} {e e' : Ev}, fzs rs e = some e' → Le e e' ∧ (∀ (j : Nat) (p : D × Tg), e'[j]? = some (some p) → e[j]? = some (some p) ∨ (p.2 = .sh ∧ Rd0.late j ∈ rs ∧ e[j]? = some (some (p.1, Tg.ow)))) ∧ ∀ j, Rd0.late j ∈ rs → ∀ (d : D) (t : Tg), e'[j]? = some (some (d, t)) → t = .sh
  | [], e, e', h => by
    cases h
    exact ⟨.refl, fun j p q => .inl q, fun j z => by cases z⟩
  | r :: rs, e, e', h => by
    unfold fzs at h
    simp only [Option.bind_eq_some_iff] at h
    obtain ⟨e1, h1, h2⟩ := h
    obtain ⟨l1, q1⟩ := fz1_spec h1
    obtain ⟨l2, q2, q3⟩ := fzs_spec h2
    refine ⟨l1.trans l2, fun j p q => ?_, fun j hj d t q => ?_⟩
    · rcases q2 j p q with z | ⟨z1, z2, z3⟩
      · rcases q1 j p z with y | ⟨y1, y2, y3⟩
        · exact .inl y
        · exact .inr ⟨y1, by rw [y2]; exact List.mem_cons_self, y3⟩
      · rcases q1 j _ z3 with y | ⟨y1, y2, y3⟩
        · exact .inr ⟨z1, List.mem_cons_of_mem _ z2, y⟩
        · cases y1
    · rcases List.mem_cons.mp hj with z | z
      · subst z
        -- r = late j: frozen by the first step
        rcases q2 j (d, t) q with y | ⟨y1, _, _⟩
        · unfold fz1 at h1
          simp only at h1
          split at h1
          · rename_i d0 hs
            cases h1
            rw [sl_iff.mp hs] at y
            cases y
            rfl
          · rename_i d0 hs
            cases h1
            rw [List.getElem?_set_self (get_lt (sl_iff.mp hs))] at y
            cases y
            rfl
          · cases h1
        · exact y1
      · exact q3 j z d t q

/-- a def's promise: a function of data -/
def spP (K : PySem.W.Frag) (m : List D → Option Res) : Sp := fun vs H Q _ => ∃ F ds d t, Same F H ∧ Reps K F vs ds ∧ m ds = some (d, t) ∧ ∀ F' H' v, VPost K F H F' H' v d t → Q v H'

/-- which objects are lent -/
def Lent (K : PySem.W.Frag) (σ : Sg) (env0 : Ev) (H0 : Hp) (env : Ev) (F H : Hp) (rs : List Rd0) (a : Addr) : Prop :=
  (∃ d, Ow K F H a d) ∧ ((∃ i d t, Rd0.late i ∈ rs ∧ t ≠ Tg.sh ∧ env[i]? = some (some (d, t)) ∧ σ[i]? = some (some (V.ref a))) ∨ (¬ Oa σ env a ∧ (H0 a = none ∨ Oa σ env0 a)))
theorem lend_reps {K : PySem.W.Frag} {σ : Sg} {env0 : Ev} {H0 : Hp} {env : Ev} {F H F2 : Hp} (s : Same F F2) : ∀ {rs : List Rd0} {vs : List V} {ds : List D}, RepAs K σ env0 H0 env F H rs vs ds →
    (∀ a, Lent K σ env0 H0 env F H rs a → F2 a = H a) → Reps K F2 vs ds
  | _, _, _, .nil, _ => .nil
  | r :: rs, v :: vs, d :: ds, .cons h t, k => by
    refine .cons ?_ (lend_reps s t fun a ha => k a ⟨ha.1, ha.2.imp (fun ⟨i, d, t, m, z⟩ => ⟨i, d, t, List.mem_cons_of_mem _ m, z⟩) id⟩)
    rcases h with h | ⟨a, rfl, o, q⟩
    · exact h.mono s
    · have ha : F2 a = H a := by
        refine k a ⟨⟨d, o⟩, ?_⟩
        cases r with
        | late i =>
          obtain ⟨t, n, e1, e2⟩ := q
          exact .inl ⟨i, d, t, List.mem_cons_self, n, e1, e2⟩
        | early _ => exact .inr q
      obtain ⟨f, u, hu, w⟩ := o
      exact w.rep s (ha.trans hu)

def eCall (m : List D → Option Res) (a : AM) : EM := fun e => (a e).bind fun x => (rds x.1 x.2).bind fun ds => (m ds).bind fun z =>
  if scal z.1 = true then (if z.2 = .sh then some (z.1, .sh, x.2) else none) else (fzs x.1 x.2).map fun e3 => (z.1, z.2, e3)

theorem call_core {K : PySem.W.Frag} {m : List D → Option Res} {dd : List D} {dvs : List V} {E : XK} {a : AM} {σ : Sg} {H : Hp} {Q : VK} (hdd : ∀ F, Reps K F dvs dd) (h : TEof K (eCall (fun ds => m (ds ++ dd)) a) σ H Q) : tCall (spP K m) dvs E (TAof K a) σ H Q := by
  obtain ⟨F, env, r, d, t, env', e, k⟩ := h
  unfold eCall at e
  simp only [Option.bind_eq_some_iff] at e
  obtain ⟨⟨rs, e2⟩, h1, ds, h2, ⟨d', t'⟩, h3, h4⟩ := e
  refine ⟨F, env, r, rs, e2, h1, fun F2 H2 vs p => ?_⟩
  have ra := p.late F2 H2 e2 ds p.rl .refl .refl h2
  generalize hL : Lent K σ env H e2 F2 H2 rs = L
  have hF2 : ∀ b o, F2 b = some o → ¬ L b := fun b o q hb => by
    subst hL
    obtain ⟨⟨_, f, _⟩, _⟩ := hb
    rw [q] at f
    cases f
  have s1 : Same F2 (lend F2 H2 L) := fun b o q => by rw [lend_no (hF2 b o q)]; exact q
  have s2 : Same (lend F2 H2 L) H2 := fun b o q => by
    by_cases hb : L b
    · rw [lend_yes hb] at q; exact q
    · rw [lend_no hb] at q; exact p.rl.sub b o q
  have rr : Reps K (lend F2 H2 L) (vs ++ dvs) (ds ++ dd) := (lend_reps s1 ra fun b hb => lend_yes (by rw [← hL]; exact hb)).append (hdd _)
  refine ⟨lend F2 H2 L, ds ++ dd, d', t', s2, rr, h3, fun F' H' v q => ?_⟩
  by_cases hs : scal d' = true
  · rw [if_pos hs] at h4
    split at h4
    · rename_i ht
      cases h4
      have ht : t' = .sh := ht
      subst ht
      have rv : Rep K F' v d' := q.rep
      have rv2 : Rep K F2 v d' := scal_rep hs rv
      have vp : VPost K F2 H2 F2 H' v d' .sh := ⟨fun b o z => (q.keep b o (p.rl.sub b o z)).1, .refl _, fun b o z => ⟨(q.keep b o z).1, fun z _ => z⟩, rv2⟩
      exact k F2 H' v ((vp.epost p.rl).after p.ex p.le)
    · cases h4
  · rw [if_neg hs] at h4
    simp only [Option.map_eq_some_iff] at h4
    obtain ⟨e3, h5, h6⟩ := h4
    cases h6
    obtain ⟨le3, fz, fz2⟩ := fzs_spec h5
    -- an owned slot that stays owned is not lent
    have noL : ∀ (j : Nat) (d : D) (t : Tg) (b : Addr), t ≠ Tg.sh → env'[j]? = some (some (d, t)) → σ[j]? = some (some (V.ref b)) → e2[j]? = some (some (d, t)) ∧ ¬ L b := fun j d t b nt ej sj => by
      have e2j : e2[j]? = some (some (d, t)) := by
        rcases fz j _ ej with z | ⟨z, _⟩
        · exact z
        · exact absurd z nt
      refine ⟨e2j, fun hb => ?_⟩
      subst hL
      obtain ⟨_, ⟨i, d1, t1, mi, n1, ei, si⟩ | ⟨no, _⟩⟩ := hb
      · have : i = j := p.rl.sep i j d1 d t1 t b n1 nt ei e2j si sj
        subst this
        exact nt (fz2 i mi d t ej)
      · exact no ⟨j, d, t, nt, e2j, sj⟩
    have rl3 : Rl K F' H' σ env' := by
      refine ⟨q.sub, by rw [le3.len]; exact p.rl.len, fun j d1 ej => ?_, fun j d1 t1 n1 ej => ?_, fun i j d1 d2 t1 t2 b n1 n2 e1 e2' s1' s2' => ?_⟩
      · rcases fz j _ ej with z | ⟨_, mj, z⟩
        · obtain ⟨w, w1, w2⟩ := p.rl.sh j d1 z
          exact ⟨w, w1, (w2.mono s1).mono q.subF⟩
        · obtain ⟨b, w1, f, o, ho, w⟩ := p.rl.ow j d1 .ow (by decide) z
          refine ⟨_, w1, w.rep (s1.trans q.subF) (q.subF b o ?_)⟩
          rw [lend_yes]
          · exact ho
          · rw [← hL]
            exact ⟨⟨d1, f, o, ho, w⟩, .inl ⟨j, d1, .ow, mj, by decide, z, w1⟩⟩
      · have e2j : e2[j]? = some (some (d1, t1)) := by
          rcases fz j _ ej with z | ⟨z, _⟩
          · exact z
          · exact absurd z n1
        obtain ⟨b, w1, f, o, ho, w⟩ := p.rl.ow j d1 t1 n1 e2j
        obtain ⟨_, nl⟩ := noL j d1 t1 b n1 ej w1
        obtain ⟨k1, k2⟩ := q.keep b o ho
        exact ⟨b, w1, k2 (by rw [lend_no nl]; exact f) w.nt, o, k1, w.mono (s1.trans q.subF)⟩
      · obtain ⟨z1, _⟩ := noL i d1 t1 b n1 e1 s1'
        obtain ⟨z2, _⟩ := noL j d2 t2 b n2 e2' s2'
        exact p.rl.sep i j d1 d2 t1 t2 b n1 n2 z1 z2 s1' s2'
    refine k F' H' v ⟨rl3, ⟨p.ex.subF.trans (s1.trans q.subF), fun b o hb nb => ?_, fun b z => p.ex.dom b (q.dom b z)⟩, p.le.trans le3, ?_⟩
    · obtain ⟨k1, k2⟩ := p.ex.keep b o hb nb
      obtain ⟨k3, k4⟩ := q.keep b o k1
      refine ⟨k3, fun z nt => k4 ?_ nt⟩
      rw [lend_no]
      · exact k2 z nt
      · intro hb2
        subst hL
        obtain ⟨_, ⟨i, d1, t1, mi, n1, ei, si⟩ | ⟨no, z2 | z2⟩⟩ := hb2
        · exact nb (p.le.oa ⟨i, d1, t1, n1, ei, si⟩)
        · rw [hb] at z2; cases z2
        · exact nb z2
    · have rv := q.rep
      cases t with
      | sh => exact rv
      | ow =>
        obtain ⟨_, b, e1, n, o⟩ := rv
        refine ⟨rfl, b, e1, o, fun z => ?_, .inl (p.ex.dom b n)⟩
        obtain ⟨_, u, hu⟩ := p.rl.oaH (le3.oa z)
        rw [n] at hu
        cases hu
      | io =>
        obtain ⟨z, _⟩ := rv
        cases z

section
variable {X : Cx} {CX : CXT} {k : Nat} {f : Addr} {fd : FuncData} {ps : List Str} {dvs : List V} {ds : List Value} {E : XK} {x : Str} {p pos : Pos} {e : Expr} {es : List Expr} {a : AM} {m : List D → Option Res} {dd : List D}
theorem d_call (F : FnOk X.prog X.w X.K X.mg X.base CX k f fd ps (spP X.K m)) (hr : Room k X.A) (hg : Gl X x) (hm : X.mg x = some (.ref f)) (hk : PySem.W.keepIn X.K (.ref f) = true) (hb : Binds X.K fd ps ds) (hd : Vals dvs ds) (hdd : ∀ F, Reps X.K F dvs dd) (hx : Passes CX X E)
    (ha : PA X (e :: es) (TAof X.K a)) (hdb : (x == ("__debug__" : Str)) = false := by decide) (he : starEach (e :: es) X.env = (false, eval e X.env) :: starEach es X.env := by rfl) (hpl : (backTo pos (starEach es X.env)).any (·.1) = false := by rfl) :
    PE X (.Call (.Name x p) (e :: es) [] pos) (TEof X.K (eCall (fun ds => m (ds ++ dd)) a)) := (pe_call F hr hg hm hk hb hd hx ha hdb he hpl).mono fun _ _ _ q => call_core hdd q
/-- every parameter given -/
theorem d_callF (F : FnOk X.prog X.w X.K X.mg X.base CX k f fd ps (spP X.K m)) (hr : Room k X.A) (hg : Gl X x) (hm : X.mg x = some (.ref f)) (hk : PySem.W.keepIn X.K (.ref f) = true) (hb : Binds X.K fd ps []) (hx : Passes CX X E)
    (ha : PA X (e :: es) (TAof X.K a)) (hdb : (x == ("__debug__" : Str)) = false := by decide) (he : starEach (e :: es) X.env = (false, eval e X.env) :: starEach es X.env := by rfl) (hpl : (backTo pos (starEach es X.env)).any (·.1) = false := by rfl) :
    PE X (.Call (.Name x p) (e :: es) [] pos) (TEof X.K (eCall m a)) := by
  have h := d_call (dd := []) (p := p) F hr hg hm hk hb .nil (fun _ => .nil) hx ha hdb he hpl
  simpa only [List.append_nil] using h
end

inductive Out where
  | nx (e : Ev)
  | rt (d : D) (t : Tg) (e : Ev)
  | bk (e : Ev)
  | ct (e : Ev)
abbrev SM := Ev → Option Out
structure SPost (K : PySem.W.Frag) (σ : Sg) (env : Ev) (F H : Hp) (env' : Ev) (F' H' : Hp) (σ' : Sg) : Prop where
  rl : Rl K F' H' σ' env'
  ex : Ex σ env F H F' H'
  len : σ'.length = σ.length
  own : ∀ a, OaW σ' env' a → OaW σ env a ∨ H a = none
  io : ∀ (i : Nat) d, env'[i]? = some (some (d, Tg.io)) → σ'[i]? = σ[i]? ∧ ∃ d0, env[i]? = some (some (d0, Tg.io))
  io2 : ∀ (i : Nat) d, env[i]? = some (some (d, Tg.io)) → ∃ d', env'[i]? = some (some (d', Tg.io))
theorem oa_or {σ : Sg} {env : Ev} {a : Addr} (h : Oa σ env a) : OaW σ env a ∨ ∃ (i : Nat) (d : D), env[i]? = some (some (d, Tg.io)) ∧ σ[i]? = some (some (V.ref a)) := by
  obtain ⟨i, d, t, n, e, q⟩ := h
  cases t with
  | sh => exact absurd rfl n
  | ow => exact .inl ⟨i, d, e, q⟩
  | io => exact .inr ⟨i, d, e, q⟩
theorem SPost.oa {K : PySem.W.Frag} {σ : Sg} {env : Ev} {F H : Hp} {env' : Ev} {F' H' : Hp} {σ' : Sg} (p : SPost K σ env F H env' F' H' σ') : ∀ a, Oa σ' env' a → Oa σ env a ∨ H a = none := fun a h => by
  rcases oa_or h with h | ⟨i, d, e, q⟩
  · exact (p.own a h).imp OaW.oa id
  · obtain ⟨h1, d0, h2⟩ := p.io i d e
    exact .inl ⟨i, d0, .io, by decide, h2, by rw [← h1]; exact q⟩
theorem SPost.trans {K : PySem.W.Frag} {σ σ1 σ2 : Sg} {env env1 env2 : Ev} {F H F1 H1 F2 H2 : Hp} (a : SPost K σ env F H env1 F1 H1 σ1) (b : SPost K σ1 env1 F1 H1 env2 F2 H2 σ2) : SPost K σ env F H env2 F2 H2 σ2 where
  rl := b.rl
  ex := a.ex.trans b.ex a.oa
  len := b.len.trans a.len
  own := fun x h => (b.own x h).elim (a.own x) fun z => .inr (a.ex.dom x z)
  io := fun i d h => by
    obtain ⟨h1, d0, h2⟩ := b.io i d h
    obtain ⟨h3, h4⟩ := a.io i d0 h2
    exact ⟨h1.trans h3, h4⟩
  io2 := fun i d h => let ⟨d', h'⟩ := a.io2 i d h; b.io2 i d' h'
theorem SPost.of_expr {K : PySem.W.Frag} {σ : Sg} {env env' : Ev} {F H F' H' : Hp} (rl : Rl K F' H' σ env') (ex : Ex σ env F H F' H') (le : Le env env') : SPost K σ env F H env' F' H' σ where
  rl := rl
  ex := ex
  len := rfl
  own := fun a h => .inl (le.oaW h)
  io := fun i d h => ⟨rfl, le.ow i d .io (by decide) h⟩
  io2 := le.io
theorem SPost.refl {K : PySem.W.Frag} {σ : Sg} {env : Ev} {F H : Hp} (r : Rl K F H σ env) : SPost K σ env F H env F H σ := .of_expr r .refl .refl
def RepS (K : PySem.W.Frag) (σ : Sg) (env : Ev) (H : Hp) (σ' : Sg) (env' : Ev) (F' H' : Hp) (v : V) (d : D) (t : Tg) : Prop :=
  match t with
  | .sh => Rep K F' v d
  | _ => t = .ow ∧ ∃ a, v = .ref a ∧ Ow K F' H' a d ∧ ¬ Oa σ' env' a ∧ (H a = none ∨ OaW σ env a)
theorem RepS.before {K : PySem.W.Frag} {σ σ1 : Sg} {env env1 : Ev} {F H F1 H1 : Hp} {σ' : Sg} {env' : Ev} {F' H' : Hp} {v : V} {d : D} {t : Tg} (p : SPost K σ env F H env1 F1 H1 σ1) (r : RepS K σ1 env1 H1 σ' env' F' H' v d t) : RepS K σ env H σ' env' F' H' v d t := by
  cases t with
  | sh => exact r
  | ow =>
    obtain ⟨h0, a, h1, h2, h3, h4⟩ := r
    refine ⟨h0, a, h1, h2, h3, ?_⟩
    rcases h4 with h4 | h4
    · exact .inl (p.ex.dom a h4)
    · exact (p.own a h4).symm
  | io =>
    obtain ⟨z, _⟩ := r
    cases z
/-- what is wanted behind a statement that comes to out -/
def Want (K : PySem.W.Frag) (D' : Ends) (σ : Sg) (env : Ev) (F H : Hp) : Out → Prop
  | .nx env' => ∀ F' H' σ', SPost K σ env F H env' F' H' σ' → D'.nx σ' H'
  | .bk env' => ∀ F' H' σ', SPost K σ env F H env' F' H' σ' → D'.bk σ' H'
  | .ct env' => ∀ F' H' σ', SPost K σ env F H env' F' H' σ' → D'.ct σ' H'
  | .rt d t env' => ∀ F' H' σ' v, SPost K σ env F H env' F' H' σ' → RepS K σ env H σ' env' F' H' v d t → D'.rt v H'
def TSof (K : PySem.W.Frag) (m : SM) : TS := fun D' σ H => ∃ F env, Rl K F H σ env ∧ ∃ out, m env = some out ∧ Want K D' σ env F H out
theorem Want.before {K : PySem.W.Frag} {D' : Ends} {σ σ1 : Sg} {env env1 : Ev} {F H F1 H1 : Hp} (p : SPost K σ env F H env1 F1 H1 σ1) : ∀ {out : Out}, Want K D' σ env F H out → Want K D' σ1 env1 F1 H1 out
  | .nx _, w => fun F' H' σ' q => w F' H' σ' (p.trans q)
  | .bk _, w => fun F' H' σ' q => w F' H' σ' (p.trans q)
  | .ct _, w => fun F' H' σ' q => w F' H' σ' (p.trans q)
  | .rt _ _ _, w => fun F' H' σ' v q r => w F' H' σ' v (p.trans q) (r.before p)

def sNx : SM := fun e => some (.nx e)
def sSeq (a b : SM) : SM := fun e => (a e).bind fun o => match o with
  | .nx e' => b e'
  | o => some o
def sIf (t : TM) (a b : SM) : SM := fun e => (t e).bind fun x => if x.1 = true then a x.2 else b x.2
def sRet (m : EM) : SM := fun e => (m e).map fun x => .rt x.1 x.2.1 x.2.2
def sRetN : SM := fun e => some (.rt .none .sh e)
def sDrop (m : EM) : SM := fun e => (m e).map fun x => .nx x.2.2
def sBrk : SM := fun e => some (.bk e)
def sCnt : SM := fun e => some (.ct e)
def sBad : SM := fun _ => none
/-- a slot is set, if it is none of the caller's -/
def put (i : Nat) (d : D) (t : Tg) (e : Ev) : Option Ev := match e[i]? with
  | some (some (_, .io)) => none
  | some _ => some (e.set i (some (d, t)))
  | none => none
def sSet (i : Nat) (m : EM) : SM := fun e => (m e).bind fun x => (put i x.1 x.2.1 x.2.2).map Out.nx
theorem put_inv {i : Nat} {d : D} {t : Tg} {e e' : Ev} (h : put i d t e = some e') : e' = e.set i (some (d, t)) ∧ i < e.length ∧ ∀ d', e[i]? ≠ some (some (d', Tg.io)) := by
  unfold put at h
  split at h
  · cases h
  · rename_i x z q
    cases h
    exact ⟨rfl, get_lt q, fun d' w => z d' (by rw [q] at w; exact Option.some.inj w)⟩
  · cases h
theorem Rl.put {K : PySem.W.Frag} {F H : Hp} {σ : Sg} {env : Ev} (r : Rl K F H σ env) {i : Nat} {d : D} {t : Tg} {v : V} (hi : i < env.length) (hio : ∀ d', env[i]? ≠ some (some (d', Tg.io)))
    (hv : match t with
      | .sh => Rep K F v d
      | _ => t = .ow ∧ ∃ a, v = .ref a ∧ Ow K F H a d ∧ ¬ Oa σ env a) : Rl K F H (σ.set i (some v)) (env.set i (some (d, t))) ∧ (∀ a, Oa (σ.set i (some v)) (env.set i (some (d, t))) a → Oa σ env a ∨ (t = .ow ∧ v = .ref a)) ∧
      (∀ a, OaW (σ.set i (some v)) (env.set i (some (d, t))) a → OaW σ env a ∨ (t = .ow ∧ v = .ref a)) := by
  have hs : i < σ.length := by rw [r.len]; exact hi
  have other : ∀ {j : Nat}, i ≠ j → (env.set i (some (d, t)))[j]? = env[j]? ∧ (σ.set i (some v))[j]? = σ[j]? := fun h => ⟨List.getElem?_set_ne h, List.getElem?_set_ne h⟩
  have self1 : (env.set i (some (d, t)))[i]? = some (some (d, t)) := List.getElem?_set_self hi
  have self2 : (σ.set i (some v))[i]? = some (some v) := List.getElem?_set_self hs
  have ownv : t ≠ .sh → t = .ow ∧ ∃ a, v = .ref a ∧ Ow K F H a d ∧ ¬ Oa σ env a := fun n => by
    cases t with
    | sh => exact absurd rfl n
    | ow => exact hv
    | io => exact hv
  refine ⟨⟨r.sub, by simpa using r.len, fun j d' e => ?_, fun j d' t' n e => ?_, fun j k d1 d2 t1 t2 a n1 n2 e1 e2 s1 s2 => ?_⟩, fun a h => ?_, fun a h => ?_⟩
  · by_cases hj : i = j
    · subst hj
      rw [self1] at e
      cases e
      exact ⟨v, self2, hv⟩
    · rw [(other hj).1] at e
      rw [(other hj).2]
      exact r.sh j d' e
  · by_cases hj : i = j
    · subst hj
      rw [self1] at e
      cases e
      obtain ⟨_, a, rfl, o, _⟩ := ownv n
      exact ⟨a, self2, o⟩
    · rw [(other hj).1] at e
      rw [(other hj).2]
      exact r.ow j d' t' n e
  · by_cases hj : i = j
    · by_cases hk : i = k
      · exact hj.symm.trans hk
      · subst hj
        rw [self1] at e1
        cases e1
        rw [self2] at s1
        cases s1
        rw [(other hk).1] at e2
        rw [(other hk).2] at s2
        obtain ⟨_, b, q, _, no⟩ := ownv n1
        cases q
        exact absurd ⟨k, d2, t2, n2, e2, s2⟩ no
    · by_cases hk : i = k
      · subst hk
        rw [self1] at e2
        cases e2
        rw [self2] at s2
        cases s2
        rw [(other hj).1] at e1
        rw [(other hj).2] at s1
        obtain ⟨_, b, q, _, no⟩ := ownv n2
        cases q
        exact absurd ⟨j, d1, t1, n1, e1, s1⟩ no
      · rw [(other hj).1] at e1
        rw [(other hj).2] at s1
        rw [(other hk).1] at e2
        rw [(other hk).2] at s2
        exact r.sep j k d1 d2 t1 t2 a n1 n2 e1 e2 s1 s2
  · obtain ⟨j, d', t', n, e, q⟩ := h
    by_cases hj : i = j
    · subst hj
      rw [self1] at e
      cases e
      rw [self2] at q
      cases q
      exact .inr ⟨(ownv n).1, rfl⟩
    · rw [(other hj).1] at e
      rw [(other hj).2] at q
      exact .inl ⟨j, d', t', n, e, q⟩
  · obtain ⟨j, d', e, q⟩ := h
    by_cases hj : i = j
    · subst hj
      rw [self1] at e
      cases e
      rw [self2] at q
      cases q
      exact .inr ⟨rfl, rfl⟩
    · rw [(other hj).1] at e
      rw [(other hj).2] at q
      exact .inl ⟨j, d', e, q⟩
theorem SPost.put {K : PySem.W.Frag} {σ : Sg} {env : Ev} {F H : Hp} {env1 : Ev} {F1 H1 : Hp} {d : D} {t : Tg} {v : V} {i : Nat} (hi : i < env1.length) (hio : ∀ d', env1[i]? ≠ some (some (d', Tg.io))) (p : EPost K σ env F H d t env1 F1 H1 v) :
    SPost K σ env F H (env1.set i (some (d, t))) F1 H1 (σ.set i (some v)) := by
  have hv := p.rep
  obtain ⟨r2, o1, o2⟩ := p.rl.put (v := v) (d := d) (t := t) hi hio (by
    cases t with
    | sh => exact hv
    | ow => exact ⟨rfl, hv.2.choose, hv.2.choose_spec.1, hv.2.choose_spec.2.1, hv.2.choose_spec.2.2.1⟩
    | io => cases hv.1)
  refine ⟨r2, p.ex, by simp, fun a h => ?_, fun j d' h => ?_, fun j d' h => ?_⟩
  · rcases o2 a h with h | ⟨ht, hva⟩
    · exact .inl (p.le.oaW h)
    · subst ht
      obtain ⟨_, b, q, _, _, z⟩ := hv
      rw [hva] at q
      cases q
      exact z.symm
  · have hj : i ≠ j := fun z => by
      subst z
      rw [List.getElem?_set_self hi] at h
      cases h
      cases hv.1
    rw [List.getElem?_set_ne hj] at h ⊢
    exact ⟨rfl, p.le.ow j d' .io (by decide) h⟩
  · obtain ⟨d2, h2⟩ := p.le.io j d' h
    have hj : i ≠ j := fun z => by
      subst z
      exact hio d2 h2
    exact ⟨d2, by rw [List.getElem?_set_ne hj]; exact h2⟩
section
variable {X : Cx} {st : Stmt} {rest a b : List Stmt} {m1 m2 : SM} {e c : Expr} {m : EM} {t : TM} {pos : Pos}
theorem z_nil : PSs X [] (TSof X.K sNx) := pss_nil.mono fun D' σ H h => by
  obtain ⟨F, env, r, out, e, w⟩ := h
  cases e
  exact w F H σ (.refl r)
theorem z_seq (h1 : PS X st (TSof X.K m1)) (h2 : PSs X rest (TSof X.K m2)) : PSs X (st :: rest) (TSof X.K (sSeq m1 m2)) := (pss_cons h1 h2).mono fun D' σ H h => by
  obtain ⟨F, env, r, out, e, w⟩ := h
  unfold sSeq at e
  simp only [Option.bind_eq_some_iff] at e
  obtain ⟨o1, h1, h2⟩ := e
  refine ⟨F, env, r, o1, h1, ?_⟩
  cases o1 with
  | nx env1 => exact fun F1 H1 σ1 p => ⟨F1, env1, p.rl, out, h2, w.before p⟩
  | rt d t e => cases h2; exact w
  | bk e => cases h2; exact w
  | ct e => cases h2; exact w
theorem z_one (h1 : PS X st (TSof X.K m1)) : PSs X [st] (TSof X.K m1) := pss_one h1
theorem z_if (hc : PT X c (TTof X.K t)) (ha : PSs X a (TSof X.K m1)) (hb : PSs X b (TSof X.K m2)) : PS X (.If c a b pos) (TSof X.K (sIf t m1 m2)) := (ps_if hc ha hb).mono fun D' σ H h => by
  obtain ⟨F, env, r, out, e, w⟩ := h
  unfold sIf at e
  simp only [Option.bind_eq_some_iff] at e
  obtain ⟨⟨k, e1⟩, h1, h2⟩ := e
  refine ⟨F, env, r, k, e1, h1, fun F1 H1 p => ?_⟩
  have sp := SPost.of_expr p.rl p.ex p.le
  cases k with
  | true =>
    rw [if_pos rfl] at h2
    exact iteT ⟨F1, e1, p.rl, out, h2, w.before sp⟩
  | false =>
    rw [if_neg Bool.false_ne_true] at h2
    exact iteF ⟨F1, e1, p.rl, out, h2, w.before sp⟩
theorem z_ret (h : PE X e (TEof X.K m)) : PS X (.Return (some e) pos) (TSof X.K (sRet m)) := (ps_ret h).mono fun D' σ H h => by
  obtain ⟨F, env, r, out, e, w⟩ := h
  unfold sRet at e
  simp only [Option.map_eq_some_iff] at e
  obtain ⟨⟨d, t, e1⟩, h1, h2⟩ := e
  subst h2
  exact ⟨F, env, r, d, t, e1, h1, fun F1 H1 v p => w F1 H1 σ v (.of_expr p.rl p.ex p.le) p.rep⟩
theorem z_retN : PS X (.Return none pos) (TSof X.K sRetN) := ps_retN.mono fun D' σ H h => by
  obtain ⟨F, env, r, out, e, w⟩ := h
  cases e
  exact w F H σ .non (.refl r) .non
theorem z_drop (h : PE X e (TEof X.K m)) (hs : swapsWith e none pos.line X.env = pure false := by rfl) : PS X (.Expr e pos) (TSof X.K (sDrop m)) := (ps_expr h hs).mono fun D' σ H h => by
  obtain ⟨F, env, r, out, e, w⟩ := h
  unfold sDrop at e
  simp only [Option.map_eq_some_iff] at e
  obtain ⟨⟨d, t, e1⟩, h1, h2⟩ := e
  subst h2
  exact ⟨F, env, r, d, t, e1, h1, fun F1 H1 v p => w F1 H1 σ (.of_expr p.rl p.ex p.le)⟩
theorem z_brk : PS X (.Break pos) (TSof X.K sBrk) := ps_break.mono fun D' σ H h => by
  obtain ⟨F, env, r, out, e, w⟩ := h
  cases e
  exact w F H σ (.refl r)
theorem z_cnt : PS X (.Continue pos) (TSof X.K sCnt) := ps_continue.mono fun D' σ H h => by
  obtain ⟨F, env, r, out, e, w⟩ := h
  cases e
  exact w F H σ (.refl r)
theorem z_pass : PS X (.Pass pos) (TSof X.K sNx) := ps_pass.mono fun D' σ H h => by
  obtain ⟨F, env, r, out, e, w⟩ := h
  cases e
  exact w F H σ (.refl r)
theorem z_bad : PS X st (TSof X.K sBad) := ps_never.mono fun D' σ H h => by
  obtain ⟨F, env, r, out, e, w⟩ := h
  cases e
theorem z_set {i : Nat} {x : Str} {pos' : Pos} (hN : X.N.Nodup) (hi : X.N[i]? = some x) (hx : Loc X.env.scope x) (he : PE X e (TEof X.K m)) (hs : swapsWith e (some (.Name x pos')) pos.line X.env = pure false := by rfl) (hf : X.fn x = true ∨ X.env.scope.names.lookup x = some .local := by first | exact .inl rfl | exact .inr rfl | assumption) :
    PS X (.Assign [.Name x pos'] e pos) (TSof X.K (sSet i m)) := (ps_set hN hi hx he hs hf).mono fun D' σ H h => by
  obtain ⟨F, env, r, out, e, w⟩ := h
  unfold sSet at e
  simp only [Option.map_eq_some_iff, Option.bind_eq_some_iff] at e
  obtain ⟨⟨d, t, e1⟩, h1, e2, h2, h3⟩ := e
  subst h3
  obtain ⟨h4, h5, h6⟩ := put_inv h2
  subst h4
  exact ⟨F, env, r, d, t, e1, h1, fun F1 H1 v p => w F1 H1 _ (.put h5 h6 p)⟩
end

def wl (t : TM) (b : SM) : Nat → Ev → Option Out
  | 0, _ => none
  | n + 1, e => (t e).bind fun x => if x.1 = true then (b x.2).bind fun o => match o with
      | .nx e2 => wl t b n e2
      | .ct e2 => wl t b n e2
      | .bk e2 => some (.nx e2)
      | .rt d g e2 => some (.rt d g e2)
    else some (.nx x.2)
def sWhile (n : Nat) (t : TM) (b : SM) : SM := wl t b n
section
variable {X : Cx} {c : Expr} {body : List Stmt} {t : TM} {b : SM} {pos : Pos}
theorem z_while {n : Nat} (hp : PassesOwn (model X.prog X.w) X.A X.env X.xe) (hc : PT X c (TTof X.K t)) (hb : PSs X body (TSof X.K b)) : PS X (.While c body [] pos) (TSof X.K (sWhile n t b)) := (ps_while hp hc hb).mono fun D' σ H h => by
  obtain ⟨F, env, r, out, e, w⟩ := h
  refine ⟨fun k σ1 H1 => ∃ F1 env1, SPost X.K σ env F H env1 F1 H1 σ1 ∧ wl t b k env1 = some out, ⟨n, F, env, .refl r, e⟩, fun k σ1 H1 hW => ?_⟩
  obtain ⟨F1, env1, p1, hw⟩ := hW
  cases k with
  | zero => cases hw
  | succ k =>
    unfold wl at hw
    simp only [Option.bind_eq_some_iff] at hw
    obtain ⟨⟨kb, e2⟩, h1, h2⟩ := hw
    refine ⟨F1, env1, p1.rl, kb, e2, h1, fun F2 H2 p2 => ?_⟩
    have sp := SPost.of_expr p2.rl p2.ex p2.le
    cases kb with
    | true =>
      rw [if_pos rfl] at h2
      simp only [Option.bind_eq_some_iff] at h2
      obtain ⟨o, h3, h4⟩ := h2
      refine iteT ⟨fun σ3 H3 => ∃ F3 env3, SPost X.K σ env F H env3 F3 H3 σ3 ∧ wl t b k env3 = some out, fun σ3 H3 q => ⟨k, Nat.lt_succ_self k, q⟩, F2, e2, p2.rl, o, h3, ?_⟩
      cases o with
      | nx e3 => exact fun F3 H3 σ3 p3 => ⟨F3, e3, p1.trans (sp.trans p3), h4⟩
      | ct e3 => exact fun F3 H3 σ3 p3 => ⟨F3, e3, p1.trans (sp.trans p3), h4⟩
      | bk e3 =>
        cases h4
        exact fun F3 H3 σ3 p3 => w F3 H3 σ3 (p1.trans (sp.trans p3))
      | rt d g e3 =>
        cases h4
        exact fun F3 H3 σ3 v p3 rv => w F3 H3 σ3 v (p1.trans (sp.trans p3)) ((rv.before sp).before p1)
    | false =>
      rw [if_neg Bool.false_ne_true] at h2
      cases h2
      exact iteF (w F2 H2 σ1 (p1.trans sp))
end

abbrev GM := D → Ev → Option Ev
def TGof (K : PySem.W.Frag) (vs : List Nat) (g : GM) : TG := fun v σ H Q => ∃ F env d, Rl K F H σ env ∧ Rep K F v d ∧ ∃ env', g d env = some env' ∧ ∀ σ', SPost K σ env F H env' F H σ' → (∀ j : Nat, j ∉ vs → σ'[j]? = σ[j]? ∧ env'[j]? = env[j]?) → Q σ' H
def TGsof (K : PySem.W.Frag) (vs : List Nat) (g : List D → Ev → Option Ev) : TGs := fun us σ H Q => ∃ F env ds, Rl K F H σ env ∧ Reps K F us ds ∧ ∃ env', g ds env = some env' ∧ ∀ σ', SPost K σ env F H env' F H σ' → (∀ j : Nat, j ∉ vs → σ'[j]? = σ[j]? ∧ env'[j]? = env[j]?) → Q σ' H
def gN (i : Nat) : GM := fun d e => put i d .sh e
def gsN : List D → Ev → Option Ev := fun ds e => match ds with
  | [] => some e
  | _ => none
def gsC (g : GM) (gs : List D → Ev → Option Ev) : List D → Ev → Option Ev := fun ds e => match ds with
  | d :: ds => (g d e).bind (gs ds)
  | [] => none
def gT (gs : List D → Ev → Option Ev) (n : Nat) : GM := fun d e => match d with
  | .tuple ds => if ds.length = n then gs ds e else none
  | .list ds => if ds.length = n then gs ds e else none
  | _ => none
section
variable {X : Cx} {pos : Pos} {e : Expr} {es : List Expr} {g : GM} {gs : List D → Ev → Option Ev} {vs ws : List Nat}
theorem g_name {i : Nat} {x : Str} (hN : X.N.Nodup) (hi : X.N[i]? = some x) (hx : Loc X.env.scope x) (hf : X.fn x = true ∨ X.env.scope.names.lookup x = some .local := by first | exact .inl rfl | exact .inr rfl | assumption) : PG X (.Name x pos) (TGof X.K [i] (gN i)) := by
  refine ⟨fun pins s σ H v u Q I rv h => (pg_name hN hi hx hf).run pins s σ H v u Q I rv ?_⟩
  obtain ⟨F, env, d, r, rp, env', e, k⟩ := h
  obtain ⟨h4, h5, h6⟩ := put_inv e
  subst h4
  have p : EPost X.K σ env F H d .sh env F H v := ⟨r, .refl, .refl, rp⟩
  exact k _ (.put h5 h6 p) fun j hj => ⟨List.getElem?_set_ne (fun z => hj (by simp [z])), List.getElem?_set_ne (fun z => hj (by simp [z]))⟩
theorem gs_nil : PGs X [] (TGsof X.K [] gsN) := by
  refine ⟨fun pins s σ H vs us Q I rv h => (pgs_nil).run pins s σ H vs us Q I rv ?_⟩
  obtain ⟨F, env, ds, r, rp, env', e, k⟩ := h
  unfold gsN at e
  split at e
  · cases e
    cases rp
    exact ⟨rfl, k σ (.refl r) fun _ _ => ⟨rfl, rfl⟩⟩
  · cases e
theorem Rl.same {K : PySem.W.Frag} {F H : Hp} {σ σ' : Sg} {env env' : Ev} {F' H' : Hp} (p : SPost K σ env F H env' F' H' σ') : Same F F' := p.ex.subF
theorem gs_cons (h1 : PG X e (TGof X.K vs g)) (h2 : PGs X es (TGsof X.K ws gs)) (hs : (assignEach (e :: es) X.env).map (·.2) = assign e X.env :: (assignEach es X.env).map (·.2) := by rfl) : PGs X (e :: es) (TGsof X.K (vs ++ ws) (gsC g gs)) := by
  refine ⟨fun pins s σ H us vv Q I rv h => (pgs_cons h1 h2 hs).run pins s σ H us vv Q I rv ?_⟩
  obtain ⟨F, env, ds, r, rp, env', e, k⟩ := h
  cases rp with
  | nil => cases e
  | @cons v vr d dr q1 q2 =>
    simp only [gsC, Option.bind_eq_some_iff] at e
    obtain ⟨e1, h3, h4⟩ := e
    refine ⟨v, vr, rfl, F, env, d, r, q1, e1, h3, fun σ1 p1 n1 => ⟨F, e1, dr, p1.rl, q2, env', h4, fun σ2 p2 n2 => k σ2 (p1.trans p2) fun j hj => ?_⟩⟩
    have a1 := n1 j (fun z => hj (List.mem_append_left _ z))
    have a2 := n2 j (fun z => hj (List.mem_append_right _ z))
    exact ⟨a2.1.trans a1.1, a2.2.trans a1.2⟩
theorem g_tup {n : Nat} {kk : Nat} (hc : X.calm = true) (h : PGs X es (TGsof X.K vs gs)) (hn : (assignEach es X.env).length = n := by rfl) (hst : (assignEach es X.env).findIdx? (·.1) = none := by rfl) : PG X (.Tuple es kk pos) (TGof X.K vs (gT gs n)) := by
  refine ⟨fun pins s σ H v u Q I rv h' => ?_⟩
  obtain ⟨F, env, d, r, rp, env', e, k⟩ := h'
  unfold gT at e
  split at e
  · rename_i ds
    split at e
    · rename_i hl
      cases rp with
      | @tup a xs _ q1 q2 => exact (pg_tup hc h hn hst).run pins s σ H _ u Q I rv ⟨a, xs, rfl, .of (r.sub _ _ q1), q2.len.trans hl, F, env, ds, r, q2, env', e, k⟩
    · cases e
  · rename_i ds
    split at e
    · rename_i hl
      cases rp with
      | @lst a xs _ q1 q2 => exact (pg_unl hc h hn hst).run pins s σ H _ u Q I rv ⟨a, xs, rfl, sqL_mono r.sub q1, q2.len.trans hl, F, env, ds, r, q2, env', e, k⟩
    · cases e
  · cases e
/-- a, b = a tuple -/
def sUnp (m : EM) (g : GM) : SM := fun e => (m e).bind fun x => if x.2.1 = .sh then (g x.1 x.2.2).map Out.nx else none
theorem z_unp {tg : Expr} {m : EM} (he : PE X e (TEof X.K m)) (hg : PG X tg (TGof X.K vs g)) (hs : swapsWithSole [tg] e pos.line X.env = pure false := by rfl) (hw : swappedStores [tg] e X.env = pure none := by rfl)
    (h1 : (assignEach [tg] X.env).map (·.2) = [assign tg X.env] := by rfl) : PS X (.Assign [tg] e pos) (TSof X.K (sUnp m g)) := (ps_asg he hg hs hw h1).mono fun D' σ H h => by
  obtain ⟨F, env, r, out, e, w⟩ := h
  unfold sUnp at e
  simp only [Option.bind_eq_some_iff] at e
  obtain ⟨⟨d, t, e1⟩, h1, h2⟩ := e
  split at h2
  · rename_i ht
    have ht : t = .sh := ht
    subst ht
    simp only [Option.map_eq_some_iff] at h2
    obtain ⟨e2, h3, h4⟩ := h2
    subst h4
    refine ⟨F, env, r, d, .sh, e1, h1, fun F1 H1 v p => ⟨F1, e1, d, p.rl, p.rep, e2, h3, fun σ' q _ => w F1 H1 σ' ((SPost.of_expr p.rl p.ex p.le).trans q)⟩⟩
  · cases h2
end

structure ItOk (K : PySem.W.Frag) (σ : Sg) (env : Ev) (F H : Hp) (J : It) (ds : List D) : Prop where
  go : ∀ F2 H2, Ex σ env F H F2 H2 → Same F2 H2 → ∀ i, i < ds.length → J.go i H2
  yld : ∀ F2 H2, Ex σ env F H F2 H2 → Same F2 H2 → ∀ i d, ds[i]? = some d → ∀ x H3, J.yld i H2 x H3 → ∃ F3, VPost K F2 H2 F3 H3 x d .sh
  stop : ∀ F2 H2, Ex σ env F H F2 H2 → Same F2 H2 → J.stop ds.length H2
abbrev IM := Ev → Option (List D × Ev)
structure IPost (K : PySem.W.Frag) (σ : Sg) (env : Ev) (F H : Hp) (ds : List D) (env' : Ev) (F' H' : Hp) (J : It) : Prop where
  rl : Rl K F' H' σ env'
  ex : Ex σ env F H F' H'
  le : Le env env'
  it : ItOk K σ env' F' H' J ds
def TIof (K : PySem.W.Frag) (im : IM) : TI := fun σ H R => ∃ F env, Rl K F H σ env ∧ ∃ ds env', im env = some (ds, env') ∧ ∀ F' H' J, IPost K σ env F H ds env' F' H' J → R J H'
def fl (g : GM) (b : SM) : List D → Ev → Option Out
  | [], e => some (.nx e)
  | d :: ds, e => (g d e).bind fun e1 => (b e1).bind fun o => match o with
    | .nx e2 => fl g b ds e2
    | .ct e2 => fl g b ds e2
    | .bk e2 => some (.nx e2)
    | .rt d t e2 => some (.rt d t e2)
def sFor (im : IM) (g : GM) (b : SM) : SM := fun e => (im e).bind fun x => fl g b x.1 x.2
theorem VPost.spost {K : PySem.W.Frag} {σ : Sg} {env : Ev} {F H F' H' : Hp} {v : V} {d : D} {t : Tg} (r : Rl K F H σ env) (p : VPost K F H F' H' v d t) : SPost K σ env F H env F' H' σ := .of_expr (p.epost r).rl (p.epost r).ex .refl
section
variable {X : Cx} {tg iter : Expr} {body : List Stmt} {im : IM} {g : GM} {b : SM} {pos : Pos} {vs : List Nat}
theorem z_for (hp : PassesOwn (model X.prog X.w) X.A X.env X.xe) (hc : X.calm = true) (hi : PI X tg iter (TIof X.K im)) (hg : PG X tg (TGof X.K vs g)) (hb : PSs X body (TSof X.K b)) (hs : ∀ x, foldedSetIterable iter X.env x = pure x := by intro _; rfl) :
    PS X (.For tg iter body [] pos) (TSof X.K (sFor im g b)) := (ps_for hp hc hi hg hb hs).mono fun D' σ H h => by
  obtain ⟨F, env, r, out, e, w⟩ := h
  unfold sFor at e
  simp only [Option.bind_eq_some_iff] at e
  obtain ⟨⟨ds, e1⟩, h1, h2⟩ := e
  refine ⟨F, env, r, ds, e1, h1, fun F1 H1 J p => ?_⟩
  have sp0 := SPost.of_expr p.rl p.ex p.le
  refine ⟨fun i m σ2 H2 => i + m = ds.length ∧ ∃ F2 env2, SPost X.K σ e1 F1 H1 env2 F2 H2 σ2 ∧ fl g b (ds.drop i) env2 = some out, ⟨ds.length, by simp, F1, e1, .refl p.rl, by simpa using h2⟩, fun i m σ2 H2 hW => ?_⟩
  obtain ⟨hm, F2, env2, p2, hfl⟩ := hW
  by_cases hi : i < ds.length
  · have hd : ds.drop i = ds[i] :: ds.drop (i + 1) := List.drop_eq_getElem_cons hi
    rw [hd] at hfl
    simp only [fl, Option.bind_eq_some_iff] at hfl
    obtain ⟨e3, h3, o, h4, h5⟩ := hfl
    refine .inr ⟨p.it.go F2 H2 p2.ex p2.rl.sub i hi, fun σ4 H4 => ∃ F4 env4, SPost X.K σ e1 F1 H1 env4 F4 H4 σ4 ∧ fl g b (ds.drop (i + 1)) env4 = some out, fun σ4 H4 ⟨F4, env4, q1, q2⟩ => ⟨m - 1, by omega, by omega, F4, env4, q1, q2⟩, fun x H3 hy => ?_⟩
    obtain ⟨F3, vp⟩ := p.it.yld F2 H2 p2.ex p2.rl.sub i ds[i] (List.getElem?_eq_getElem hi) x H3 hy
    have s3 := vp.spost p2.rl
    refine ⟨F3, env2, ds[i], s3.rl, vp.rep, e3, h3, fun σ4 q4 _ => ⟨F3, e3, q4.rl, o, h4, ?_⟩⟩
    have s4 := p2.trans (s3.trans q4)
    cases o with
    | nx e5 => exact fun F5 H5 σ5 p5 => ⟨F5, e5, s4.trans p5, h5⟩
    | ct e5 => exact fun F5 H5 σ5 p5 => ⟨F5, e5, s4.trans p5, h5⟩
    | bk e5 =>
      cases h5
      exact fun F5 H5 σ5 p5 => w F5 H5 σ5 (sp0.trans (s4.trans p5))
    | rt d t e5 =>
      cases h5
      exact fun F5 H5 σ5 v p5 rv => w F5 H5 σ5 v (sp0.trans (s4.trans p5)) ((rv.before s4).before sp0)
  · have hi' : i = ds.length := by omega
    subst hi'
    simp only [List.drop_length, fl] at hfl
    cases hfl
    exact .inl ⟨p.it.stop F2 H2 p2.ex p2.rl.sub, w F2 H2 σ2 (sp0.trans p2)⟩
end

def ev0 (n p : Nat) (ds : List D) : Ev := ds.map (fun d => some (d, Tg.sh)) ++ List.replicate (n - p) none
def mFn (n p : Nat) (b : SM) (ds : List D) : Option Res := if ds.length = p then (b (ev0 n p ds)).bind fun o => match o with
    | .rt d t _ => some (d, t)
    | .nx _ => some (.none, .sh)
    | _ => none
  else none
theorem mFn_len {n p : Nat} {b : SM} {ds : List D} {r : Res} (h : mFn n p b ds = some r) : ds.length = p := by
  unfold mFn at h
  split at h
  · assumption
  · cases h
theorem rl_start {K : PySem.W.Frag} {F H : Hp} {vs : List V} {ds : List D} {N : List Str} {p : Nat} (s : Same F H) (r : Reps K F vs ds) (hp : ds.length = p) (hN : p ≤ N.length) : Rl K F H (L2.start N vs) (ev0 N.length p ds) := by
  have hl := r.len
  have g : ∀ (i : Nat) (q : D × Tg), (ev0 N.length p ds)[i]? = some (some q) → ∃ d, ds[i]? = some d ∧ q = (d, Tg.sh) := fun i q h => by
    unfold ev0 at h
    by_cases hi : i < ds.length
    · rw [List.getElem?_append_left (by simpa using hi), List.getElem?_map] at h
      cases e : ds[i]? with
      | none => rw [e] at h; cases h
      | some d => rw [e] at h; cases h; exact ⟨d, rfl, rfl⟩
    · rw [List.getElem?_append_right (by simpa using hi), List.getElem?_replicate] at h
      split at h <;> cases h
  refine ⟨s, ?_, fun i d h => ?_, fun i d t n h => ?_, fun i j d e t u a n _ h _ _ _ => ?_⟩
  · simp [L2.start, ev0]
    omega
  · obtain ⟨d', h1, h2⟩ := g i _ h
    cases h2
    obtain ⟨v, h3, h4⟩ := r.get h1
    refine ⟨v, ?_, h4⟩
    have hi : i < vs.length := get_lt h3
    unfold L2.start
    rw [List.getElem?_append_left (by simpa using hi), List.getElem?_map, h3]
    rfl
  · obtain ⟨d', h1, h2⟩ := g i _ h
    cases h2
    exact absurd rfl n
  · obtain ⟨d', h1, h2⟩ := g i _ h
    cases h2
    exact absurd rfl n
section
variable {P : Program} {w : World} {K : PySem.W.Frag} {mg : Str → Option Value} {base : Heap}
/-- a def that raises nothing where its function has a value -/
theorem fn_ok {x qual : Str} {st : Stmt} {f : Addr} {fd : FuncData} {N ps : List Str} {k : Nat} {b : SM} (F : Fun K x qual st f fd) (S : FnScope N ps (defScope st)) (n p : Nat) (hn : N.length = n) (hp : ps.length = p)
    (hbody : ∀ (cdv : Value) (A : Around) (outer : List PySem.Env) (s : Shared) (H : Hp), Room k (A.deeper (envOfC qual (defScope st) s.heap.objs.size f cdv)) →
      PSs (cxOf CX0 P w K mg base N qual (defScope st) f cdv A outer s H E0).nox (defBody st) (TSof K b)) : FnOk P w K mg base CX0 (k + 1) f fd ps (spP K (mFn n p b)) := by
  have hpN : p ≤ n := by
    have := congrArg List.length S.pre
    rw [List.length_take] at this
    omega
  refine F.ok S (fun vs H Q E h => ?_) (fun cdv A outer s H vs Q E hr h => ?_)
  · obtain ⟨F1, ds, d, t, _, r, e, _⟩ := h
    rw [r.len, mFn_len e, hp]
  · obtain ⟨F1, ds, d, t, sm, r, e, q⟩ := h
    refine ⟨_, hbody cdv A outer s H hr, ?_⟩
    have hl := mFn_len e
    unfold mFn at e
    rw [if_pos hl] at e
    simp only [Option.bind_eq_some_iff] at e
    obtain ⟨o, h1, h2⟩ := e
    have r0 : Rl K F1 H (L2.start N vs) (ev0 n p ds) := by
      have := rl_start (N := N) sm r hl (by omega)
      rw [hn] at this
      exact this
    have noOw : ∀ a, ¬ Oa (L2.start N vs) (ev0 n p ds) a := fun a ⟨i, d, t, n', h, _⟩ => by
      unfold ev0 at h
      by_cases hi : i < ds.length
      · rw [List.getElem?_append_left (by simpa using hi), List.getElem?_map] at h
        cases e : ds[i]? with
        | none => rw [e] at h; cases h
        | some d => rw [e] at h; cases h; exact n' rfl
      · rw [List.getElem?_append_right (by simpa using hi), List.getElem?_replicate] at h
        split at h <;> cases h
    refine ⟨F1, _, r0, o, h1, ?_⟩
    have fin : ∀ {F' H' : Hp} {σ' : Sg} {env' : Ev} {v : V} {d : D} {t : Tg}, SPost K (L2.start N vs) (ev0 n p ds) F1 H env' F' H' σ' → RepS K (L2.start N vs) (ev0 n p ds) H σ' env' F' H' v d t → VPost K F1 H F' H' v d t := fun {F' H' σ' env' v d t} sp rv => by
      refine ⟨sp.rl.sub, sp.ex.subF, fun a o ha => sp.ex.keep a o ha (noOw a), ?_⟩
      cases t with
      | sh => exact rv
      | ow =>
        obtain ⟨_, a, h1, h2, h3, h4⟩ := rv
        exact ⟨rfl, a, h1, h4.elim id fun z => absurd z.oa (noOw a), h2⟩
      | io => cases rv.1
    cases o with
    | nx e' =>
      cases h2
      exact fun F' H' σ' sp => q F' H' .non (fin sp (t := .sh) .non)
    | rt d' t' e' =>
      cases h2
      exact fun F' H' σ' v sp rv => q F' H' v (fin sp rv)
    | bk e' => cases h2
    | ct e' => cases h2
end
end Dd
namespace Dd
open PySem PySem.Spec PyProof.Rows L2

def lim : Nat := 1000000
theorem lim_line {n : Nat} (h : n ≤ lim) : n ≤ sizeLine := Nat.le_trans h (by rw [sizeLine_eq]; decide)
theorem lim_lt {n : Nat} (h : n ≤ lim) : n < sizeLine := Nat.lt_of_le_of_lt h (by rw [sizeLine_eq]; decide)
section posts
variable {K : PySem.W.Frag} {F H : Hp} {d : D} {v : V}
theorem vp_sc (s : Same F H) (r : Rep K F v d) : VPost K F H F H v d .sh := ⟨s, .refl _, fun _ _ h => ⟨h, fun z _ => z⟩, r⟩
theorem free_of (s : Same F H) {p : Addr} (h : H p = none) : F p = none := s.free h
theorem vp_lst (s : Same F H) {p : Addr} {vs : List V} {ds : List D} (h : H p = none) (r : Reps K F vs ds) : VPost K F H F (upd H p (.lst vs)) (.ref p) (.list ds) .ow where
  sub := fun a o q => by rw [upd_ne (ne_of_none (s a o q) h)]; exact s a o q
  subF := .refl _
  keep := fun a o q => ⟨by rw [upd_ne (ne_of_none q h)]; exact q, fun z _ => z⟩
  rep := ⟨rfl, p, rfl, h, s.free h, _, upd_same, .lst r⟩
theorem same_upd2 (s : Same F H) {p : Addr} {o : HO} (h : H p = none) : Same (upd F p o) (upd H p o) ∧ Same F (upd F p o) := by
  refine ⟨fun a u q => ?_, fun a u q => by rw [upd_ne (ne_of_none q (s.free h))]; exact q⟩
  by_cases ha : a = p
  · subst ha
    rw [upd_same] at q ⊢
    exact q
  · rw [upd_ne ha] at q ⊢
    exact s a u q
theorem vp_tup (s : Same F H) {p : Addr} {vs : List V} {ds : List D} (h : H p = none) (r : Reps K F vs ds) : VPost K F H (upd F p (.tup vs)) (upd H p (.tup vs)) (.ref p) (.tuple ds) .sh where
  sub := (same_upd2 s h).1
  subF := (same_upd2 s h).2
  keep := fun a o q => ⟨by rw [upd_ne (ne_of_none q h)]; exact q, fun z _ => by rw [upd_ne (ne_of_none q h)]; exact z⟩
  rep := .tup upd_same (r.mono (same_upd2 s h).2)
end posts
section
variable {X : Cx} {pins : List (Addr × Obj)} {σ : Sg} {H : Hp} {s : Shared}
theorem rd_lst {a : Addr} {xs : List V} (I : Inv X pins σ H s) (h : SqL X.K H a xs) : xs.length ≤ sizeLine ∧ ∃ (its : List Value) (n : Nat), Vals xs its ∧ xs.length = its.length ∧ ∃ dd sl, s.heap.get? a = some { cls := .type "list", dict := dd, data := .seq its.toArray n, slots := sl } := by
  obtain ⟨its, rv, ⟨⟨cls, dd, data, sl⟩, n, ho, hc, hdn, hd⟩, hlen⟩ := I.list h
  simp only at hc hd
  subst hc hd
  exact ⟨hlen, its, n, rv, rv.length, dd, sl, ho⟩
end

mutual
theorem Rep.dp {K : PySem.W.Frag} {F H : Hp} (s : Same F H) : ∀ {v : V} {d : D}, Rep K F v d → d.plain = true → Dp K H v d
  | _, _, .non, _ => .non
  | _, _, .bl b, _ => .bl b
  | _, _, .int i, _ => .int i
  | _, _, .str x, _ => .str x
  | _, _, .lst h r, p => .lst (sqL_mono s h) (Reps.dp s r p)
  | _, _, .tup h r, p => .tup (.of (s _ _ h)) (Reps.dp s r p)
  | _, _, .dK _ _, p => by cases p
  | _, _, .dT _ _, p => by cases p
theorem Reps.dp {K : PySem.W.Frag} {F H : Hp} (s : Same F H) : ∀ {vs : List V} {ds : List D}, Reps K F vs ds → PyData.plainAll ds = true → DpAll K H vs ds
  | _, _, .nil, _ => .nil
  | _, _, .cons h r, p => by
    rw [PyData.plainAll, Bool.and_eq_true] at p
    exact .cons (Rep.dp s h p.1) (Reps.dp s r p.2)
end
theorem RepB.dp {K : PySem.W.Frag} {F H : Hp} (s : Same F H) {v : V} {d : D} (h : RepB K F H v d) (p : d.plain = true) : Dp K H v d := by
  rcases h with h | ⟨a, rfl, f, o, ho, w⟩
  · exact h.dp s p
  · cases w with
    | lst r => exact .lst (.inl (.inl ho)) (r.dp s p)
    | dK _ => cases p
    | dT _ => cases p
/-- two data that are compared -/
def okD (x y : D) : Bool := x.plain && y.plain && decide (min x.depth y.depth ≤ 60)
theorem okD_inv {x y : D} (h : okD x y = true) : x.plain = true ∧ y.plain = true ∧ min x.depth y.depth ≤ 60 := by
  unfold okD at h
  rw [Bool.and_eq_true, Bool.and_eq_true] at h
  exact ⟨h.1.1, h.1.2, of_decide_eq_true h.2⟩

def dAdd : D → D → Option Res
  | .int a, .int b => some (.int (a + b), .sh)
  | .list a, .list b => if a.length + b.length ≤ lim then some (.list (a ++ b), .ow) else none
  | .str a, .str b => if a.length + b.length ≤ lim then some (.str (a ++ b), .sh) else none
  | _, _ => none
def dSub : D → D → Option Res
  | .int a, .int b => some (.int (a - b), .sh)
  | _, _ => none
def dMul : D → D → Option Res
  | .int a, .int b => if a.natAbs.log2 + b.natAbs.log2 < 1000000 then some (.int (a * b), .sh) else none
  | _, _ => none
def dDiv : D → D → Option Res
  | .int a, .int b => if 0 < b ∧ b.natAbs.log2 < 9000 then some (.int (a / b), .sh) else none
  | _, _ => none
def dMod : D → D → Option Res
  | .int a, .int b => if 0 < b then some (.int (a % b), .sh) else none
  | _, _ => none
def dPow : D → D → Option Res
  | .int a, .int b => if 0 ≤ b ∧ ((a.natAbs.log2 + 1 : Nat) : Int) * b ≤ 100000000 then some (.int (a ^ b.toNat), .sh) else none
  | _, _ => none
def dShl : D → D → Option Res
  | .int a, .int b => if 0 ≤ b ∧ b ≤ 1000000 ∧ a.natAbs < 18446744073709551616 then some (.int (a * 2 ^ b.toNat), .sh) else none
  | _, _ => none
def dShr : D → D → Option Res
  | .int a, .int b => if 0 ≤ b then some (.int (a / 2 ^ b.toNat), .sh) else none
  | _, _ => none
def dBand : D → D → Option Res
  | .int a, .int b => some (.int (Builtin.bitAnd a b), .sh)
  | _, _ => none
def dEq (x y : D) : Option Res := if okD x y = true then some (.bool (PyData.eqv x y), .sh) else none
def dNe (x y : D) : Option Res := if okD x y = true then some (.bool (!PyData.eqv x y), .sh) else none
def isNoneD : D → Bool
  | .none => true
  | _ => false
def okL (x y : D) : Bool := PySem.W.alike x y && !isNoneD x && decide (min x.depth y.depth ≤ 60) && x.plain && y.plain
theorem okL_inv {x y : D} (h : okL x y = true) : PySem.W.alike x y = true ∧ x ≠ .none ∧ min x.depth y.depth ≤ 60 ∧ x.plain = true ∧ y.plain = true := by
  unfold okL at h
  simp only [Bool.and_eq_true] at h
  obtain ⟨⟨⟨⟨h1, h2⟩, h3⟩, h4⟩, h5⟩ := h
  refine ⟨h1, ?_, of_decide_eq_true h3, h4, h5⟩
  rintro rfl
  cases h2
def dLt (x y : D) : Option Res := if okL x y = true then some (.bool (PySem.W.dataLt x y), .sh) else none
def dGt (x y : D) : Option Res := if okL x y = true then some (.bool (PySem.W.dataLt y x), .sh) else none
def dLe (x y : D) : Option Res := if okL x y = true then some (.bool (!PySem.W.dataLt y x), .sh) else none
def dGe (x y : D) : Option Res := if okL x y = true then some (.bool (!PySem.W.dataLt x y), .sh) else none
/-- x in c -/
def hasD (x c : D) : Option Bool := match c with
  | .list xs => if PyData.plainAll xs && x.plain && decide (min (PyData.depthAll xs) x.depth ≤ 60) then some (xs.any fun y => PyData.eqv y x) else none
  | .tuple xs => if PyData.plainAll xs && x.plain && decide (min (PyData.depthAll xs) x.depth ≤ 60) then some (xs.any fun y => PyData.eqv y x) else none
  | _ => none
def dIn (x c : D) : Option Res := (hasD x c).map fun b => (.bool b, .sh)
def dNin (x c : D) : Option Res := (hasD x c).map fun b => (.bool (!b), .sh)
def dIs (x y : D) : Option Res := match x, y with
  | .bool a, .bool b => some (.bool (a == b), .sh)
  | _, _ => none
def dIsn (x y : D) : Option Res := match x, y with
  | .bool a, .bool b => some (.bool (!(a == b)), .sh)
  | _, _ => none

section
variable {X : Cx}
theorem or_of2 {f : Value → Value → Sem Value} {r : R2} {op : D → D → Option Res} (h : OpR X f r) (k : ∀ x y H Q, rD2 X.K op x y H Q → r x y H Q) : OpR X f (rD2 X.K op) := fun pins s σ H x y v u Q I rx ry q => h pins s σ H x y v u Q I rx ry (k x y H Q q)
theorem or_cat : OpR X (binaryOp .Add) (fun x y H Q => ∃ l b xs zs, x = .ref l ∧ y = .ref b ∧ SqL X.K H l xs ∧ SqL X.K H b zs ∧ xs.length + zs.length ≤ sizeLine ∧ ∀ p, H p = none → Q (.ref p) (upd H p (.lst (xs ++ zs)))) := by
  rintro pins s σ H x y v u Q I rx ry ⟨l, b, xs, zs, rfl, rfl, hl, hb, hn, k⟩
  cases rx
  cases ry
  obtain ⟨_, us, m, rel1, n1, dd1, sl1, g1⟩ := rd_lst I hl
  obtain ⟨_, ws, m', rel2, n2, dd2, sl2, g2⟩ := rd_lst I hb
  have sz : us.toArray.size + ws.toArray.size ≤ sizeLine := by
    simp only [List.size_toArray]
    omega
  refine concat_meets ⟨_, g1, rfl⟩ ⟨_, g2, rfl⟩ noFill_list_add seq_list_add PySem.F.slot_list_add PySem.F.entry_list_add (PySem.F.args_list_add_2 _ _) (list_addW l b us.toArray ws.toArray m m' dd1 dd2 sl1 sl2 sz) ⟨g1, g2, ?_⟩
  rw [show us.toArray ++ ws.toArray = (us ++ ws).toArray from List.append_toArray us ws]
  have J := I.lnew (t' := s.toks) (rel1.append rel2) (by simp only [List.length_append]; exact hn)
  exact ⟨.ref s.heap.objs.size, _, J, rfl, k _ I.fresh⟩
theorem OpR.or {f : Value → Value → Sem Value} {r r' : R2} (h : OpR X f r) (h' : OpR X f r') : OpR X f (fun x y H Q => r x y H Q ∨ r' x y H Q) := by
  intro pins s σ H x y v u Q I rx ry q
  rcases q with q | q
  · exact h pins s σ H x y v u Q I rx ry q
  · exact h' pins s σ H x y v u Q I rx ry q
theorem ov_add : OpR X (binaryOp .Add) (rD2 X.K dAdd) := or_of2 (OpR.or op_add (OpR.or or_cat op_add_str)) fun x y H Q h => by
  obtain ⟨F, dx, dy, d, t, sm, rx, ry, e, k⟩ := h
  unfold dAdd at e
  split at e
  · cases e
    exact .inl ⟨_, _, rx.int, ry.int, k F H _ (vp_sc sm (.int _))⟩
  · split at e
    · rename_i hz
      cases e
      obtain ⟨a, vs, rfl, q1, r1⟩ := rx.list sm
      obtain ⟨b, ws, rfl, q2, r2⟩ := ry.list sm
      exact .inr (.inl ⟨a, b, vs, ws, rfl, rfl, q1, q2, by rw [r1.len, r2.len]; exact lim_line hz, fun p hp => k _ _ _ (vp_lst sm hp (r1.append r2))⟩)
    · cases e
  · split at e
    · rename_i hz
      cases e
      exact .inr (.inr ⟨_, _, rx.str, ry.str, lim_line hz, k F H _ (vp_sc sm (.str _))⟩)
    · cases e
  · cases e
theorem ov_sub : OpR X (binaryOp .Sub) (rD2 X.K dSub) := or_of2 op_sub fun x y H Q h => by
  obtain ⟨F, dx, dy, d, t, sm, rx, ry, e, k⟩ := h
  unfold dSub at e
  split at e
  · cases e
    exact ⟨_, _, rx.int, ry.int, k F H _ (vp_sc sm (.int _))⟩
  · cases e
theorem reps_rep {K : PySem.W.Frag} {F : Hp} {vs : List V} {ds : List D} (r : Reps K F vs ds) : ∀ n : Nat, Reps K F (List.replicate n vs).flatten (List.replicate n ds).flatten
  | 0 => .nil
  | n + 1 => by
    rw [List.replicate_succ, List.replicate_succ, List.flatten_cons, List.flatten_cons]
    exact r.append (reps_rep r n)
theorem log_bits (x : Int) : Builtin.Int.intBits x ≤ x.natAbs.log2 + 1 := by
  unfold Builtin.Int.intBits
  split <;> omega
theorem ov_mul : OpR X (binaryOp .Mult) (rD2 X.K dMul) := or_of2 op_mulW fun x y H Q h => by
  obtain ⟨F, dx, dy, d, t, sm, rx, ry, e, k⟩ := h
  unfold dMul at e
  split at e
  · split at e
    · rename_i hz
      cases e
      exact ⟨_, _, rx.int, ry.int, hz, k F H _ (vp_sc sm (.int _))⟩
    · cases e
  · cases e
theorem ov_div : OpR X (binaryOp .FloorDiv) (rD2 X.K dDiv) := or_of2 op_fdivW fun x y H Q h => by
  obtain ⟨F, dx, dy, d, t, sm, rx, ry, e, k⟩ := h
  unfold dDiv at e
  split at e
  · split at e
    · rename_i hz
      cases e
      exact ⟨_, _, rx.int, ry.int, hz, k F H _ (vp_sc sm (.int _))⟩
    · cases e
  · cases e
theorem ov_mod : OpR X (binaryOp .Mod) (rD2 X.K dMod) := or_of2 op_mod fun x y H Q h => by
  obtain ⟨F, dx, dy, d, t, sm, rx, ry, e, k⟩ := h
  unfold dMod at e
  split at e
  · split at e
    · rename_i hz
      cases e
      exact ⟨_, _, rx.int, ry.int, hz, k F H _ (vp_sc sm (.int _))⟩
    · cases e
  · cases e
theorem op_powB : OpR X (binaryOp .Pow) (rI (fun i j => 0 ≤ j ∧ (Builtin.Int.intBits i : Int) * j ≤ 2 ^ 27) fun i j => .int (i ^ j.toNat)) := opI fun _ _ _ _ _ _ _ hc q => pow_int hc.1 hc.2 q
theorem ov_pow : OpR X (binaryOp .Pow) (rD2 X.K dPow) := or_of2 op_powB fun x y H Q h => by
  obtain ⟨F, dx, dy, d, t, sm, rx, ry, e, k⟩ := h
  unfold dPow at e
  split at e
  · rename_i a b
    split at e
    · rename_i hz
      cases e
      refine ⟨_, _, rx.int, ry.int, ⟨hz.1, ?_⟩, k F H _ (vp_sc sm (.int _))⟩
      have h1 : (Builtin.Int.intBits a : Int) ≤ ((a.natAbs.log2 + 1 : Nat) : Int) := by
        have := log_bits a
        omega
      have h2 := Int.mul_le_mul_of_nonneg_right h1 hz.1
      have h3 := hz.2
      have h4 : (100000000 : Int) ≤ 2 ^ 27 := by decide
      omega
    · cases e
  · cases e
theorem ov_shl : OpR X (binaryOp .LShift) (rD2 X.K dShl) := or_of2 op_shl fun x y H Q h => by
  obtain ⟨F, dx, dy, d, t, sm, rx, ry, e, k⟩ := h
  unfold dShl at e
  split at e
  · split at e
    · rename_i hz
      cases e
      exact ⟨_, _, rx.int, ry.int, ⟨hz.1, hz.2.1, hz.2.2⟩, k F H _ (vp_sc sm (.int _))⟩
    · cases e
  · cases e
theorem ov_shr : OpR X (binaryOp .RShift) (rD2 X.K dShr) := or_of2 op_shr fun x y H Q h => by
  obtain ⟨F, dx, dy, d, t, sm, rx, ry, e, k⟩ := h
  unfold dShr at e
  split at e
  · split at e
    · rename_i hz
      cases e
      exact ⟨_, _, rx.int, ry.int, hz, k F H _ (vp_sc sm (.int _))⟩
    · cases e
  · cases e
theorem ov_band : OpR X (binaryOp .BitAnd) (rD2 X.K dBand) := or_of2 op_and fun x y H Q h => by
  obtain ⟨F, dx, dy, d, t, sm, rx, ry, e, k⟩ := h
  unfold dBand at e
  split at e
  · cases e
    exact ⟨_, _, rx.int, ry.int, k F H _ (vp_sc sm (.int _))⟩
  · cases e
end

section
variable {X : Cx}
theorem reads_of {pins : List (Addr × Obj)} {σ : Sg} {F H : Hp} {s : Shared} {v : V} {u : Value} {d : D} (I : Inv X pins σ H s) (sm : Same F H) (h : RepB X.K F H v d) (p : d.plain = true) (r : RelV v u) : ∃ as, Reads s.heap u d as := Dp.reads I d v u (h.dp sm p) r
theorem or_data {op : CmpOp} {f : D → D → Option Res} (g : D → D → Bool) (hf : ∀ x y d t, f x y = some (d, t) → x.plain = true ∧ y.plain = true ∧ t = .sh ∧ d = .bool (g x y))
    (rule : ∀ (s : Shared) (a b : Value) (da db : D) (as bs : List Addr) (Q : Value → Shared → Prop), Reads s.heap a da as → Reads s.heap b db bs → (∃ r, f da db = some r) → Q (.bool (g da db)) s → wpAny (model X.prog X.w) X.A (compareOp op a b) Q X.xe s) : OpR X (compareOp op) (rD2 X.K f) := by
  rintro pins s σ H x y v u Q I rx ry ⟨F, dx, dy, d, t, sm, bx, bY, e, k⟩
  obtain ⟨p1, p2, rfl, rfl⟩ := hf dx dy d t e
  obtain ⟨as, r1⟩ := reads_of I sm bx p1 rx
  obtain ⟨bs, r2⟩ := reads_of I sm bY p2 ry
  exact rule s v u dx dy as bs _ r1 r2 ⟨_, e⟩ ⟨.bl _, H, I, rfl, k F H _ (vp_sc sm (.bl _))⟩
theorem room60 {A : Around} {n : Nat} (hu : A.units + 64 < cLine) (h : n ≤ 60) : A.units + n < cLine := by omega
theorem ov_eq (hu : X.A.units + 64 < cLine) : OpR X (compareOp .Eq) (rD2 X.K dEq) := or_data (fun x y => PyData.eqv x y) (fun x y d t e => by
    unfold dEq at e
    split at e
    · rename_i h
      cases e
      exact ⟨(okD_inv h).1, (okD_inv h).2.1, rfl, rfl⟩
    · cases e) fun s a b da db as bs Q r1 r2 ⟨r, e⟩ q => by
  unfold dEq at e
  split at e
  · rename_i h
    obtain ⟨h1, h2, h3⟩ := okD_inv h
    exact SeqAt.eq_plain r1 r2 h1 h2 (room60 hu h3) q
  · cases e
theorem ov_ne (hu : X.A.units + 64 < cLine) : OpR X (compareOp .NotEq) (rD2 X.K dNe) := or_data (fun x y => !PyData.eqv x y) (fun x y d t e => by
    unfold dNe at e
    split at e
    · rename_i h
      cases e
      exact ⟨(okD_inv h).1, (okD_inv h).2.1, rfl, rfl⟩
    · cases e) fun s a b da db as bs Q r1 r2 ⟨r, e⟩ q => by
  unfold dNe at e
  split at e
  · rename_i h
    obtain ⟨h1, h2, h3⟩ := okD_inv h
    exact SeqAt.ne_plain r1 r2 h1 h2 (room60 hu h3) q
  · cases e
theorem ov_lt (hu : X.A.units + 64 < cLine) : OpR X (compareOp .Lt) (rD2 X.K dLt) := or_data (fun x y => PySem.W.dataLt x y) (fun x y d t e => by
    unfold dLt at e
    split at e
    · rename_i h
      cases e
      exact ⟨(okL_inv h).2.2.2.1, (okL_inv h).2.2.2.2, rfl, rfl⟩
    · cases e) fun s a b da db as bs Q r1 r2 ⟨r, e⟩ q => by
  unfold dLt at e
  split at e
  · rename_i h
    obtain ⟨h1, h2, h3, _⟩ := okL_inv h
    exact PySem.W.lt_data r1 r2 h1 h2 (room60 hu h3) q
  · cases e
theorem ov_gt (hu : X.A.units + 64 < cLine) : OpR X (compareOp .Gt) (rD2 X.K dGt) := or_data (fun x y => PySem.W.dataLt y x) (fun x y d t e => by
    unfold dGt at e
    split at e
    · rename_i h
      cases e
      exact ⟨(okL_inv h).2.2.2.1, (okL_inv h).2.2.2.2, rfl, rfl⟩
    · cases e) fun s a b da db as bs Q r1 r2 ⟨r, e⟩ q => by
  unfold dGt at e
  split at e
  · rename_i h
    obtain ⟨h1, h2, h3, _⟩ := okL_inv h
    exact PySem.W.gt_data r1 r2 h1 h2 (room60 hu h3) q
  · cases e
theorem ov_le (hu : X.A.units + 64 < cLine) : OpR X (compareOp .LtE) (rD2 X.K dLe) := or_data (fun x y => !PySem.W.dataLt y x) (fun x y d t e => by
    unfold dLe at e
    split at e
    · rename_i h
      cases e
      exact ⟨(okL_inv h).2.2.2.1, (okL_inv h).2.2.2.2, rfl, rfl⟩
    · cases e) fun s a b da db as bs Q r1 r2 ⟨r, e⟩ q => by
  unfold dLe at e
  split at e
  · rename_i h
    obtain ⟨h1, h2, h3, _⟩ := okL_inv h
    exact PySem.W.le_data r1 r2 h1 h2 (room60 hu h3) q
  · cases e
theorem ov_ge (hu : X.A.units + 64 < cLine) : OpR X (compareOp .GtE) (rD2 X.K dGe) := or_data (fun x y => !PySem.W.dataLt x y) (fun x y d t e => by
    unfold dGe at e
    split at e
    · rename_i h
      cases e
      exact ⟨(okL_inv h).2.2.2.1, (okL_inv h).2.2.2.2, rfl, rfl⟩
    · cases e) fun s a b da db as bs Q r1 r2 ⟨r, e⟩ q => by
  unfold dGe at e
  split at e
  · rename_i h
    obtain ⟨h1, h2, h3, _⟩ := okL_inv h
    exact PySem.W.ge_data r1 r2 h1 h2 (room60 hu h3) q
  · cases e
theorem hasD_inv {x c : D} {b : Bool} (h : hasD x c = some b) : ∃ xs, (c = .list xs ∨ c = .tuple xs) ∧ PyData.plainAll xs = true ∧ x.plain = true ∧ min (PyData.depthAll xs) x.depth ≤ 60 ∧ b = xs.any fun y => PyData.eqv y x := by
  unfold hasD at h
  split at h
  · rename_i xs
    split at h
    · rename_i q
      cases h
      simp only [Bool.and_eq_true] at q
      exact ⟨xs, .inl rfl, q.1.1, q.1.2, of_decide_eq_true q.2, rfl⟩
    · cases h
  · rename_i xs
    split at h
    · rename_i q
      cases h
      simp only [Bool.and_eq_true] at q
      exact ⟨xs, .inr rfl, q.1.1, q.1.2, of_decide_eq_true q.2, rfl⟩
    · cases h
  · cases h
theorem room61 {A : Around} {n : Nat} (hu : A.units + 64 < cLine) (h : n ≤ 60) : A.units + 1 + n < cLine := by omega
theorem ov_in (hu : X.A.units + 64 < cLine) : OpR X (compareOp .In) (rD2 X.K dIn) := by
  rintro pins s σ H x y v u Q I rx ry ⟨F, dx, dy, d, t, sm, bx, bY, e, k⟩
  unfold dIn at e
  simp only [Option.map_eq_some_iff] at e
  obtain ⟨b, hb, hd⟩ := e
  cases hd
  obtain ⟨xs, hc, h1, h2, h3, rfl⟩ := hasD_inv hb
  have fin : EP X pins σ Q (.bool (xs.any fun y => PyData.eqv y dx)) s := ⟨.bl _, H, I, rfl, k F H _ (vp_sc sm (.bl _))⟩
  obtain ⟨as, r1⟩ := reads_of I sm bx h2 rx
  rcases hc with rfl | rfl
  · obtain ⟨bs, r2⟩ := reads_of I sm bY h1 ry
    exact SeqAt.in_list_data r2 r1 h1 h2 (room61 hu h3) fin
  · obtain ⟨bs, r2⟩ := reads_of I sm bY h1 ry
    exact SeqAt.in_tuple_data r2 r1 h1 h2 (room61 hu h3) fin
theorem ov_nin (hu : X.A.units + 64 < cLine) : OpR X (compareOp .NotIn) (rD2 X.K dNin) := by
  rintro pins s σ H x y v u Q I rx ry ⟨F, dx, dy, d, t, sm, bx, bY, e, k⟩
  unfold dNin at e
  simp only [Option.map_eq_some_iff] at e
  obtain ⟨b, hb, hd⟩ := e
  cases hd
  obtain ⟨xs, hc, h1, h2, h3, rfl⟩ := hasD_inv hb
  have fin : EP X pins σ Q (.bool (!xs.any fun y => PyData.eqv y dx)) s := ⟨.bl _, H, I, rfl, k F H _ (vp_sc sm (.bl _))⟩
  obtain ⟨as, r1⟩ := reads_of I sm bx h2 rx
  rcases hc with rfl | rfl
  · obtain ⟨bs, r2⟩ := reads_of I sm bY h1 ry
    exact SeqAt.notIn_list_data r2 r1 h1 h2 (room61 hu h3) fin
  · obtain ⟨bs, r2⟩ := reads_of I sm bY h1 ry
    exact SeqAt.notIn_tuple_data r2 r1 h1 h2 (room61 hu h3) fin
theorem ov_is : OpR X (compareOp .Is) (rD2 X.K dIs) := or_of2 op_isBl fun x y H Q h => by
  obtain ⟨F, dx, dy, d, t, sm, rx, ry, e, k⟩ := h
  unfold dIs at e
  split at e
  · cases e
    rename_i a b
    exact ⟨a, b, rx.bool, ry.bool, k F H _ (vp_sc sm (by rw [show (decide (a = b)) = (a == b) from by cases a <;> cases b <;> rfl]; exact .bl _))⟩
  · cases e
theorem ov_isn : OpR X (compareOp .IsNot) (rD2 X.K dIsn) := or_of2 op_notBl fun x y H Q h => by
  obtain ⟨F, dx, dy, d, t, sm, rx, ry, e, k⟩ := h
  unfold dIsn at e
  split at e
  · cases e
    rename_i a b
    exact ⟨a, b, rx.bool, ry.bool, k F H _ (vp_sc sm (by rw [show (decide (a = b)) = (a == b) from by cases a <;> cases b <;> rfl]; exact .bl _))⟩
  · cases e
/-- a is None -/
def dIsN (x : D) : Option Res := some (.bool (isNoneD x), .sh)
def dNotN (x : D) : Option Res := some (.bool (!isNoneD x), .sh)
theorem RepB.isN {K : PySem.W.Frag} {F H : Hp} {v : V} {d : D} (h : RepB K F H v d) : decide (v = .non) = isNoneD d := by
  rcases h with h | ⟨a, rfl, _, o, _, w⟩
  · cases h <;> first | rfl | exact decide_eq_false (fun z => nomatch z)
  · cases w <;> exact decide_eq_false (fun z => nomatch z)
variable {a : Expr} {pos : Pos} {o1 : OM}
theorem isN_core {K : PySem.W.Frag} {σ : Sg} {H : Hp} {Q : VK} (h : TEof K (e1 dIsN o1) σ H Q) : tIsN (TOof K o1) σ H Q := by
  obtain ⟨F, env, r, d, t, env', e, k⟩ := h
  obtain ⟨r1, x, h1, h2, h3⟩ := e1_inv e
  cases h3
  refine ⟨F, env, r, r1, env', h1, fun F1 H1 v p => ?_⟩
  have rb := (p.late F1 H1 env' x p.rl .refl .refl h2).b
  show Q (.bl (decide (v = V.non))) H1
  rw [rb.isN]
  exact k F1 H1 _ (((vp_sc p.rl.sub (.bl _)).epost p.rl).after p.ex p.le)
theorem notN_core {K : PySem.W.Frag} {σ : Sg} {H : Hp} {Q : VK} (h : TEof K (e1 dNotN o1) σ H Q) : tNotN (TOof K o1) σ H Q := by
  obtain ⟨F, env, r, d, t, env', e, k⟩ := h
  obtain ⟨r1, x, h1, h2, h3⟩ := e1_inv e
  cases h3
  refine ⟨F, env, r, r1, env', h1, fun F1 H1 v p => ?_⟩
  have rb := (p.late F1 H1 env' x p.rl .refl .refl h2).b
  show Q (.bl (!decide (v = V.non))) H1
  rw [rb.isN]
  exact k F1 H1 _ (((vp_sc p.rl.sub (.bl _)).epost p.rl).after p.ex p.le)
theorem d_isN {j pos'} (ha : PE X a (TOof X.K o1)) : PE X (.Compare a [.Is] [.Constant .none j pos'] pos) (TEof X.K (e1 dIsN o1)) := (pe_cmp (pc_isN ha)).mono fun _ _ _ q => isN_core q
theorem d_notN {j pos'} (ha : PE X a (TOof X.K o1)) : PE X (.Compare a [.IsNot] [.Constant .none j pos'] pos) (TEof X.K (e1 dNotN o1)) := (pe_cmp (pc_notN ha)).mono fun _ _ _ q => notN_core q
theorem y_isN {j pos'} (ha : PE X a (TOof X.K o1)) : PT X (.Compare a [.Is] [.Constant .none j pos'] pos) (TTof X.K (tB (e1 dIsN o1))) := (pt_cmp (pc_isN ha)).mono fun _ _ _ q => isN_core (tB_core q)
theorem y_notN {j pos'} (ha : PE X a (TOof X.K o1)) : PT X (.Compare a [.IsNot] [.Constant .none j pos'] pos) (TTof X.K (tB (e1 dNotN o1))) := (pt_cmp (pc_notN ha)).mono fun _ _ _ q => notN_core (tB_core q)
/-- -a -/
def dNeg : D → Option Res
  | .int i => some (.int (-i), .sh)
  | _ => none
theorem ov_neg : UnR X (unaryOp .USub) (rD1 X.K dNeg) := by
  rintro pins s σ H x v Q I rx ⟨F, dx, d, t, sm, bx, e, k⟩
  unfold dNeg at e
  split at e
  · cases e
    exact un_neg pins s σ H x v Q I rx ⟨_, bx.int, k F H _ (vp_sc sm (.int _))⟩
  · cases e
end
end Dd
namespace Dd
open PySem PySem.Spec PyProof.Rows L2

/-- the value is shared from here on -/
def eSh (m : EM) : EM := fun e => (m e).map fun x => (x.1, .sh, x.2.2)
theorem sh_core {K : PySem.W.Frag} {m : EM} {σ : Sg} {H : Hp} {Q : VK} (h : TEof K (eSh m) σ H Q) : TEof K m σ H Q := by
  obtain ⟨F, env, r, d, t, env', e, k⟩ := h
  unfold eSh at e
  simp only [Option.map_eq_some_iff] at e
  obtain ⟨⟨d1, t1, e1⟩, h1, h2⟩ := e
  cases h2
  refine ⟨F, env, r, d1, t1, e1, h1, fun F1 H1 v p => ?_⟩
  have q := p.rep
  cases t1 with
  | sh => exact k F1 H1 v p
  | io => cases q.1
  | ow =>
    obtain ⟨_, a, rfl, ⟨f, o, ho, w⟩, n, z⟩ := q
    have sm : Same F1 (upd F1 a o) := fun b u hb => by rw [upd_ne (ne_of_none hb f)]; exact hb
    refine k (upd F1 a o) H1 _ ⟨p.rl.grow (fun b u hb => ?_) sm (fun b hb u hu => ⟨hu, fun z _ => ?_⟩), ⟨p.ex.subF.trans sm, fun b u hb nb => ?_, p.ex.dom⟩, p.le, w.rep sm upd_same⟩
    · by_cases e : b = a
      · subst e
        rw [upd_same] at hb
        cases hb
        exact ho
      · rw [upd_ne e] at hb
        exact p.rl.sub b u hb
    · rw [upd_ne]
      · exact z
      · rintro rfl
        exact n hb
    · obtain ⟨k1, k2⟩ := p.ex.keep b u hb nb
      refine ⟨k1, fun q nt => ?_⟩
      rw [upd_ne]
      · exact k2 q nt
      · rintro rfl
        rcases z with z | z
        · rw [hb] at z; cases z
        · exact nb z.oa
/-- lists of values, each shared -/
abbrev LM := Ev → Option (List D × Ev)
structure LPost (K : PySem.W.Frag) (σ : Sg) (env : Ev) (F H : Hp) (ds : List D) (env' : Ev) (F' H' : Hp) (vs : List V) : Prop where
  rl : Rl K F' H' σ env'
  ex : Ex σ env F H F' H'
  le : Le env env'
  rep : Reps K F' vs ds
def TLof (K : PySem.W.Frag) (m : LM) : TA := fun σ H Q => ∃ F env, Rl K F H σ env ∧ ∃ ds env', m env = some (ds, env') ∧ ∀ F' H' vs, LPost K σ env F H ds env' F' H' vs → Q vs H'
def lN : LM := fun e => some ([], e)
def lC (m : EM) (l : LM) : LM := fun e => (m e).bind fun x => if x.2.1 = .sh then (l x.2.2).map fun y => (x.1 :: y.1, y.2) else none
def lS (o : OM) (l : LM) : LM := fun e => (o e).bind fun x => match rd x.1 x.2 with
  | some (.list ds) => (l x.2).map fun y => (ds ++ y.1, y.2)
  | some (.tuple ds) => (l x.2).map fun y => (ds ++ y.1, y.2)
  | _ => none
section
variable {X : Cx} {e : Expr} {es : List Expr} {m : EM} {l : LM} {o : OM} {pos sp : Pos}
theorem ql_nil : PA X [] (TLof X.K lN) := pa_nil.mono fun σ H Q q => by
  obtain ⟨F, env, r, ds, env', e, k⟩ := q
  cases e
  exact k F H [] ⟨r, .refl, .refl, .nil⟩
theorem ql_cons (h : PE X e (TEof X.K m)) (hr : PA X es (TLof X.K l)) (hs : starEach (e :: es) X.env = (false, eval e X.env) :: starEach es X.env := by rfl) : PA X (e :: es) (TLof X.K (lC (eSh m) l)) := (pa_cons h hr hs).mono fun σ H Q q => by
  obtain ⟨F, env, r, ds, env', e, k⟩ := q
  unfold lC at e
  simp only [Option.bind_eq_some_iff] at e
  obtain ⟨⟨d, t, e1⟩, h1, h2⟩ := e
  split at h2
  · rename_i ht
    have ht : t = .sh := ht
    subst ht
    simp only [Option.map_eq_some_iff] at h2
    obtain ⟨⟨ds', e2⟩, h3, h4⟩ := h2
    cases h4
    refine sh_core ⟨F, env, r, d, .sh, e1, h1, fun F1 H1 v p => ⟨F1, e1, p.rl, ds', e2, h3, fun F2 H2 vs p2 => k F2 H2 (v :: vs) ⟨p2.rl, p.ex.then p.le p2.ex, p.le.trans p2.le, .cons (Rep.mono p2.ex.subF p.rep) p2.rep⟩⟩⟩
  · cases h2
theorem ql_star (h : PE X e (TOof X.K o)) (hr : PA X es (TLof X.K l)) (hs : starEach (.Starred e sp :: es) X.env = (true, eval e X.env) :: starEach es X.env := by rfl) : PA X (.Starred e sp :: es) (TLof X.K (lS o l)) := (StX.pa_star h hr hs).mono fun σ H Q q => by
  obtain ⟨F, env, r, ds, env', e, k⟩ := q
  unfold lS at e
  simp only [Option.bind_eq_some_iff] at e
  obtain ⟨⟨r1, e1⟩, h1, h2⟩ := e
  split at h2
  · rename_i ds' hd
    simp only [Option.map_eq_some_iff] at h2
    obtain ⟨⟨ds2, e2⟩, h3, h4⟩ := h2
    cases h4
    refine ⟨F, env, r, r1, e1, h1, fun F1 H1 v p => ?_⟩
    obtain ⟨a, vs, rfl, q1, rv⟩ := (p.late F1 H1 e1 _ p.rl .refl .refl hd).b.list p.rl.sub
    exact ⟨a, vs, rfl, .inr (q1), F1, e1, p.rl, ds2, e2, h3, fun F2 H2 ws p2 => k F2 H2 (vs ++ ws) ⟨p2.rl, p.ex.then p.le p2.ex, p.le.trans p2.le, (rv.mono p2.ex.subF).append p2.rep⟩⟩
  · rename_i ds' hd
    simp only [Option.map_eq_some_iff] at h2
    obtain ⟨⟨ds2, e2⟩, h3, h4⟩ := h2
    cases h4
    refine ⟨F, env, r, r1, e1, h1, fun F1 H1 v p => ?_⟩
    obtain ⟨a, vs, rfl, q1, rv⟩ := (p.late F1 H1 e1 _ p.rl .refl .refl hd).b.tup p.rl.sub
    exact ⟨a, vs, rfl, .inl (.of q1), F1, e1, p.rl, ds2, e2, h3, fun F2 H2 ws p2 => k F2 H2 (vs ++ ws) ⟨p2.rl, p.ex.then p.le p2.ex, p.le.trans p2.le, (rv.mono p2.ex.subF).append p2.rep⟩⟩
  · cases h2
def eTup (l : LM) : EM := fun e => (l e).bind fun x => if x.1.length ≤ lim then some (.tuple x.1, .sh, x.2) else none
def eLst (l : LM) : EM := fun e => (l e).bind fun x => if x.1.length ≤ lim then some (.list x.1, .ow, x.2) else none
theorem d_tup {x1} (h : PA X es (TLof X.K l)) : PE X (.Tuple es x1 pos) (TEof X.K (eTup l)) := (pe_tup h).mono fun σ H Q q => by
  obtain ⟨F, env, r, d, t, env', e, k⟩ := q
  unfold eTup at e
  simp only [Option.bind_eq_some_iff] at e
  obtain ⟨⟨ds, e1⟩, h1, h2⟩ := e
  split at h2
  · rename_i hz
    cases h2
    exact ⟨F, env, r, ds, e1, h1, fun F1 H1 vs p => ⟨by rw [p.rep.len]; exact lim_line hz, fun a ha => k _ _ _ (((vp_tup p.rl.sub ha p.rep).epost p.rl).after p.ex p.le)⟩⟩
  · cases h2
theorem d_lst (h : PA X es (TLof X.K l)) : PE X (.List es pos) (TEof X.K (eLst l)) := (pe_lst h).mono fun σ H Q q => by
  obtain ⟨F, env, r, d, t, env', e, k⟩ := q
  unfold eLst at e
  simp only [Option.bind_eq_some_iff] at e
  obtain ⟨⟨ds, e1⟩, h1, h2⟩ := e
  split at h2
  · rename_i hz
    cases h2
    exact ⟨F, env, r, ds, e1, h1, fun F1 H1 vs p => ⟨by rw [p.rep.len]; exact lim_line hz, fun a ha => k _ _ _ (((vp_lst p.rl.sub ha p.rep).epost p.rl).after p.ex p.le)⟩⟩
  · cases h2
/-- a fresh list * n -/
def eRep (m : EM) (o : OM) : EM := fun e => (m e).bind fun x => match x.1, x.2.1 with
  | .list ds, .ow => (o x.2.2).bind fun y => match rd y.1 y.2 with
    | some (.int b) => if ds.length * b.toNat ≤ lim ∧ b.natAbs ≤ lim then some (.list (List.replicate b.toNat ds).flatten, .ow, y.2) else none
    | _ => none
  | _, _ => none
theorem d_rep {b : Expr} (ha : PE X e (TEof X.K m)) (hb : PE X b (TOof X.K o)) : PE X (.BinOp e .Mult b pos) (TEof X.K (eRep m o)) := (pe_op op_rep ha hb).mono fun σ H Q q => by
  obtain ⟨F, env, r, d, t, env', e, k⟩ := q
  unfold eRep at e
  simp only [Option.bind_eq_some_iff] at e
  obtain ⟨⟨d1, t1, e1⟩, h1, h2⟩ := e
  split at h2
  · rename_i ds hd ht
    have hd : d1 = .list ds := hd
    have ht : t1 = .ow := ht
    subst hd ht
    simp only [Option.bind_eq_some_iff] at h2
    obtain ⟨⟨r2, e2⟩, h3, h4⟩ := h2
    split at h4
    · rename_i n hn
      split at h4
      · rename_i hz
        cases h4
        refine ⟨F, env, r, _, _, e1, h1, fun F1 H1 v p => ?_⟩
        obtain ⟨_, a, rfl, ⟨f, u, hu, w⟩, no, _⟩ := p.rep
        refine ⟨F1, e1, p.rl, r2, e2, h3, fun F2 H2 y p2 => ?_⟩
        obtain ⟨k1, k2⟩ := p2.ex.keep a u hu no
        have hy := (p2.late F2 H2 e2 _ p2.rl .refl .refl hn).b.int
        cases w with
        | @lst vs _ rv =>
          have hl := rv.len
          refine ⟨a, n, vs, rfl, hy, k1, by have := hz.2; unfold lim at this; omega, by have := hz.2; unfold lim at this; omega, by rw [hl]; exact lim_line hz.1, fun b hb => ?_⟩
          exact k _ _ _ ((((vp_lst p2.rl.sub hb (reps_rep (rv.mono p2.ex.subF) n.toNat)).epost p2.rl).after p2.ex p2.le).after p.ex p.le)
      · cases h4
    · cases h4
  · cases h2
end

def dIx (x i : D) : Option Res := match x, i with
  | .list xs, .int i => (L2.atI xs i).map fun d => (d, .sh)
  | .tuple xs, .int i => (L2.atI xs i).map fun d => (d, .sh)
  | .str z, .int i => if z.length ≤ lim then (L2.atI z.cps.toList i).map fun c => (.str ⟨#[c]⟩, .sh) else none
  | _, _ => none
theorem atI_reps {K : PySem.W.Frag} {F : Hp} {vs : List V} {ds : List D} {i : Int} {d : D} (r : Reps K F vs ds) (h : L2.atI ds i = some d) : ∃ v, L2.atI vs i = some v ∧ Rep K F v d := by
  unfold L2.atI at h ⊢
  rw [r.len]
  cases e : L2.ixN ds.length i with
  | none => rw [e] at h; cases h
  | some j =>
    rw [e] at h
    exact r.get h
section
variable {X : Cx} {a b e : Expr} {es : List Expr} {pos p2 p pos' : Pos} {o o1 o2 : OM} {am : AM}
theorem ov_ix : IxR X (rD2 X.K dIx) := fun value slice pins s σ H x y v u Q I rx ry h hs => by
  refine ix_seq value slice pins s σ H x y v u Q I rx ry ?_ hs
  obtain ⟨F, dx, dy, d, t, sm, bx, bY, e, k⟩ := h
  unfold dIx at e
  split at e
  · rename_i xs i
    simp only [Option.map_eq_some_iff] at e
    obtain ⟨d1, h1, h2⟩ := e
    cases h2
    obtain ⟨a, vs, rfl, q1, r1⟩ := bx.list sm
    obtain ⟨w, h3, h4⟩ := atI_reps r1 h1
    exact .inl ⟨a, vs, i, w, rfl, bY.int, q1, h3, k F H w (vp_sc sm h4)⟩
  · rename_i xs i
    simp only [Option.map_eq_some_iff] at e
    obtain ⟨d1, h1, h2⟩ := e
    cases h2
    obtain ⟨a, vs, rfl, q1, r1⟩ := bx.tup sm
    obtain ⟨w, h3, h4⟩ := atI_reps r1 h1
    exact .inr (.inl ⟨a, vs, i, w, rfl, bY.int, .of q1, h3, k F H w (vp_sc sm h4)⟩)
  · rename_i z i
    split at e
    · rename_i hz
      simp only [Option.map_eq_some_iff] at e
      obtain ⟨c, h1, h2⟩ := e
      cases h2
      exact .inr (.inr ⟨z, i, c, bx.str, bY.int, lim_line hz, h1, k F H _ (vp_sc sm (.str _))⟩)
    · cases e
  · cases e
theorem d_ix (ha : PE X a (TOof X.K o1)) (hb : PE X b (TOof X.K o2)) (hs : PlainIx b := by intro _ _; rfl) : PE X (.Subscript a b pos) (TEof X.K (e2 dIx o1 o2)) := (pe_ix ov_ix ha hb hs).mono fun _ _ _ q => core2 q

/-- a part: left out, or an int -/
abbrev NM := Ev → Option (Option Int × Ev)
def pNo : NM := fun e => some (none, e)
def pEx (m : EM) : NM := fun e => (m e).bind fun x => match x.1, x.2.1 with
  | .int i, .sh => some (some i, x.2.2)
  | _, _ => none
def TPof (K : PySem.W.Frag) (m : NM) : TO := fun σ H Q => ∃ F env, Rl K F H σ env ∧ ∃ i env', m env = some (i, env') ∧ ∀ F' H', TPost K σ env F H env' F' H' → Q i H'
def cutD (xs : List D) (lo hi : Option Int) : List D := (xs.drop (HT.sIx xs.length 0 lo)).take (HT.sIx xs.length xs.length hi - HT.sIx xs.length 0 lo)
def dSl (x : D) (lo hi : Option Int) : Option Res := match x with
  | .list xs => some (.list (cutD xs lo hi), .ow)
  | .tuple xs => if HT.sIx xs.length 0 lo = 0 ∧ HT.sIx xs.length xs.length hi = xs.length then none else some (.tuple (cutD xs lo hi), .sh)
  | .str z => if z.length ≤ lim then some (.str (cutS z lo hi), .sh) else none
  | _ => none
def eSl (o : OM) (lo hi : NM) : EM := fun e => (o e).bind fun x => (lo x.2).bind fun l => (hi l.2).bind fun h => (rd x.1 h.2).bind fun d => (dSl d l.1 h.1).map fun z => (z.1, z.2, h.2)
def rSlD (K : PySem.W.Frag) : V → Option Int → Option Int → Hp → VK → Prop := fun x lo hi H Q => ∃ F dx d t, Same F H ∧ RepB K F H x dx ∧ dSl dx lo hi = some (d, t) ∧ ∀ F' H' v, VPost K F H F' H' v d t → Q v H'
theorem ov_sl : SlR X (rSlD X.K) := fun pins s σ H x v vl vu lo hi sl Q I rx hs pl pu h => by
  refine (sl_list.or (sl_tup.or sl_str)) pins s σ H x v vl vu lo hi sl Q I rx hs pl pu ?_
  obtain ⟨F, dx, d, t, sm, bx, e, k⟩ := h
  unfold dSl at e
  split at e
  · rename_i xs
    cases e
    obtain ⟨a, vs, rfl, q1, r1⟩ := bx.list sm
    refine .inl ⟨a, vs, rfl, q1, fun b hb => k _ _ _ (vp_lst sm hb ?_)⟩
    unfold cutV cutD
    rw [r1.len]
    exact (r1.drop _).take _
  · rename_i xs
    split at e
    · cases e
    · rename_i hz
      cases e
      obtain ⟨a, vs, rfl, q1, r1⟩ := bx.tup sm
      refine .inr (.inl ⟨a, vs, rfl, .of q1, by rw [r1.len]; exact hz, fun b hb => k _ _ _ (vp_tup sm hb ?_)⟩)
      unfold cutV cutD
      rw [r1.len]
      exact (r1.drop _).take _
  · rename_i z
    split at e
    · rename_i hz
      cases e
      exact .inr (.inr ⟨z, bx.str, lim_line hz, k _ _ _ (vp_sc sm (.str _))⟩)
    · cases e
  · cases e
variable {m : EM} {lo hi : Option Expr} {l h : NM}
theorem p_no : PO X none (TPof X.K pNo) := ⟨fun pins s σ H Q I q => by
  obtain ⟨F, env, r, i, env', e, k⟩ := q
  cases e
  exact po_none.run pins s σ H Q I (k F H ⟨r, .refl, .refl⟩)⟩
theorem p_ex (he : PE X e (TEof X.K m)) : PO X (some e) (TPof X.K (pEx m)) := ⟨fun pins s σ H Q I q => by
  refine (po_some he).run pins s σ H Q I ?_
  obtain ⟨F, env, r, i, env', e, k⟩ := q
  unfold pEx at e
  simp only [Option.bind_eq_some_iff] at e
  obtain ⟨⟨d, t, e1⟩, h1, h2⟩ := e
  split at h2
  · rename_i j hd ht
    have hd : d = .int j := hd
    have ht : t = .sh := ht
    subst hd ht
    cases h2
    refine ⟨F, env, r, _, _, _, h1, fun F1 H1 v p => ?_⟩
    have q : Rep X.K F1 v (.int j) := p.rep
    cases q
    exact ⟨j, rfl, k F1 H1 ⟨p.rl, p.ex, p.le⟩⟩
  · cases h2⟩
theorem d_sl (he : PE X e (TOof X.K o)) (hl : PO X lo (TPof X.K l)) (hh : PO X hi (TPof X.K h)) : PE X (.Subscript e (.Slice lo hi none p2) pos) (TEof X.K (eSl o l h)) := (pe_slice ov_sl he hl hh).mono fun σ H Q q => by
  obtain ⟨F, env, r, d, t, env', e, k⟩ := q
  unfold eSl at e
  simp only [Option.bind_eq_some_iff, Option.map_eq_some_iff] at e
  obtain ⟨⟨r1, e1⟩, h1, ⟨i, e2⟩, h2, ⟨j, e3⟩, h3, dx, h4, ⟨z1, z2⟩, h5, h6⟩ := e
  cases h6
  refine ⟨F, env, r, r1, e1, h1, fun F1 H1 v p => ⟨F1, e1, p.rl, i, e2, h2, fun F2 H2 p2 => ⟨F2, e2, p2.rl, j, e3, h3, fun F3 H3 p3 => ?_⟩⟩⟩
  refine ⟨F3, dx, z1, z2, p3.rl.sub, (p.late F3 H3 e3 dx p3.rl (p2.ex.then p2.le p3.ex) (p2.le.trans p3.le) h4).b, h5, fun F' H' w q => ?_⟩
  exact k F' H' w ((((q.epost p3.rl).after p3.ex p3.le).after p2.ex p2.le).after p.ex p.le)

theorem d_callB {x : Str} {id : String} {f : List D → Option Res} (hc : CallR X (.builtin id) (rDn X.K f)) (hg : Gl X x) (hm : X.mg x = none) (hv : bootBuiltins x = some (.builtin id)) (ha : PA X (e :: es) (TAof X.K am)) (hn : x ≠ "__name__" := by decide) (hdb : (x == ("__debug__" : Str)) = false := by decide)
    (he : starEach (e :: es) X.env = (false, eval e X.env) :: starEach es X.env := by rfl) (hpl : (backTo pos (starEach es X.env)).any (·.1) = false := by rfl) : PE X (.Call (.Name x p) (e :: es) [] pos) (TEof X.K (eN f am)) :=
  (pe_callB hc hg hm hv ha hn hdb he hpl).mono fun _ _ _ q => coreN q
theorem d_callT {x : Str} {T : String} {f : List D → Option Res} (hc : CallR X (.type T) (rDn X.K f)) (hg : Gl X x) (hm : X.mg x = none) (hv : bootBuiltins x = some (.type T)) (ha : PA X (e :: es) (TAof X.K am)) (hn : x ≠ "__name__" := by decide) (hdb : (x == ("__debug__" : Str)) = false := by decide)
    (he : starEach (e :: es) X.env = (false, eval e X.env) :: starEach es X.env := by rfl) (hpl : (backTo pos (starEach es X.env)).any (·.1) = false := by rfl) : PE X (.Call (.Name x p) (e :: es) [] pos) (TEof X.K (eN f am)) :=
  (pe_callTy hc hg hm hv ha hn hdb he hpl).mono fun _ _ _ q => coreN q
theorem cv_of {f : Value} {r : List V → Hp → VK → Prop} {op : List D → Option Res} (h : CallR X f r) (k : ∀ xs H Q, rDn X.K op xs H Q → r xs H Q) : CallR X f (rDn X.K op) := fun pins s σ H xs us Q I rv q => h pins s σ H xs us Q I rv (k xs H Q q)
end
theorem RepBs.one {K : PySem.W.Frag} {F H : Hp} {vs : List V} {d : D} (h : RepBs K F H vs [d]) : ∃ v, vs = [v] ∧ RepB K F H v d := by
  cases h with
  | cons a b => cases b; exact ⟨_, rfl, a⟩
theorem RepBs.two {K : PySem.W.Frag} {F H : Hp} {vs : List V} {d1 d2 : D} (h : RepBs K F H vs [d1, d2]) : ∃ v w, vs = [v, w] ∧ RepB K F H v d1 ∧ RepB K F H w d2 := by
  cases h with
  | cons a b =>
    cases b with
    | cons c d => cases d; exact ⟨_, _, rfl, a, c⟩
def fLen : List D → Option Res
  | [.list xs] => some (.int xs.length, .sh)
  | [.tuple xs] => some (.int xs.length, .sh)
  | [.str z] => if z.length ≤ lim then some (.int z.length, .sh) else none
  | _ => none
def fAbs : List D → Option Res
  | [.int i] => some (.int (if i < 0 then -i else i), .sh)
  | _ => none
def fMax2 : List D → Option Res
  | [.int i, .int j] => some (.int (if j > i then j else i), .sh)
  | _ => none
def fMin2 : List D → Option Res
  | [.int i, .int j] => some (.int (if j < i then j else i), .sh)
  | _ => none
def fInt : List D → Option Res
  | [.int i] => some (.int i, .sh)
  | [.bool b] => some (.int (if b then 1 else 0), .sh)
  | _ => none
def fStr : List D → Option Res
  | [.int i] => if i.natAbs.log2 < 1920 then some (.str (toString i), .sh) else none
  | _ => none
def fList : List D → Option Res
  | [.list xs] => some (.list xs, .ow)
  | [.tuple xs] => some (.list xs, .ow)
  | _ => none
def fTuple : List D → Option Res
  | [.list xs] => some (.tuple xs, .sh)
  | _ => none
def fDivmod : List D → Option Res
  | [.int i, .int j] => if 0 < j ∧ j < 1073741824 then some (.tuple [.int (i / j), .int (i % j)], .sh) else none
  | _ => none
/-- all the ints of a list -/
def intsD : List D → Option (List Int)
  | [] => some []
  | .int i :: r => (intsD r).map fun l => i :: l
  | _ => none
theorem intsD_eq : ∀ {ds : List D} {ns : List Int}, intsD ds = some ns → ds = ns.map PyData.int
  | [], _, h => by cases h; rfl
  | .int i :: r, _, h => by
    unfold intsD at h
    simp only [Option.map_eq_some_iff] at h
    obtain ⟨l, h1, h2⟩ := h
    subst h2
    rw [intsD_eq h1]
    rfl
theorem intsD_map (ns : List Int) : intsD (ns.map PyData.int) = some ns := by
  induction ns with
  | nil => rfl
  | cons n ns ih => simp [intsD, ih]
def boolsD : List D → Option (List Bool)
  | [] => some []
  | .bool i :: r => (boolsD r).map fun l => i :: l
  | _ => none
theorem boolsD_eq : ∀ {ds : List D} {ns : List Bool}, boolsD ds = some ns → ds = ns.map PyData.bool
  | [], _, h => by cases h; rfl
  | .bool i :: r, _, h => by
    unfold boolsD at h
    simp only [Option.map_eq_some_iff] at h
    obtain ⟨l, h1, h2⟩ := h
    subst h2
    rw [boolsD_eq h1]
    rfl
theorem boolsD_map (ns : List Bool) : boolsD (ns.map PyData.bool) = some ns := by
  induction ns with
  | nil => rfl
  | cons n ns ih => simp [boolsD, ih]
def fSum : List D → Option Res
  | [.list xs] => (intsD xs).map fun ns => (.int ns.sum, .sh)
  | _ => none
def fAny : List D → Option Res
  | [.list xs] => (boolsD xs).map fun ns => (.bool (ns.any id), .sh)
  | _ => none
def fAll : List D → Option Res
  | [.list xs] => (boolsD xs).map fun ns => (.bool (ns.all id), .sh)
  | _ => none
section
variable {X : Cx}
theorem cv_len : CallR X (.builtin "len") (rDn X.K fLen) := cv_of call_len fun xs H Q h => by
  obtain ⟨F, ds, d, t, sm, rb, e, k⟩ := h
  unfold fLen at e
  split at e
  · cases e
    obtain ⟨v, rfl, rv⟩ := rb.one
    obtain ⟨a, vs, rfl, q1, r1⟩ := rv.list sm
    exact ⟨.ref a, _, rfl, .inl ⟨vs, q1, r1.len.symm⟩, k F H _ (vp_sc sm (.int _))⟩
  · cases e
    obtain ⟨v, rfl, rv⟩ := rb.one
    obtain ⟨a, vs, rfl, q1, r1⟩ := rv.tup sm
    exact ⟨.ref a, _, rfl, .inr ⟨vs, .of q1, r1.len.symm⟩, k F H _ (vp_sc sm (.int _))⟩
  · split at e
    · rename_i hz
      cases e
      obtain ⟨v, rfl, rv⟩ := rb.one
      exact ⟨_, _, rfl, by rw [rv.str]; exact ⟨lim_line hz, rfl⟩, k F H _ (vp_sc sm (.int _))⟩
    · cases e
  · cases e
theorem cv_abs : CallR X (.builtin "abs") (rDn X.K fAbs) := cv_of call_abs fun xs H Q h => by
  obtain ⟨F, ds, d, t, sm, rb, e, k⟩ := h
  unfold fAbs at e
  split at e
  · cases e
    obtain ⟨v, rfl, rv⟩ := rb.one
    exact ⟨_, by rw [rv.int], k F H _ (vp_sc sm (.int _))⟩
  · cases e
theorem cv_max2 (hc : X.calm = true) : CallR X (.builtin "max") (rDn X.K fMax2) := cv_of (call_max2 hc) fun xs H Q h => by
  obtain ⟨F, ds, d, t, sm, rb, e, k⟩ := h
  unfold fMax2 at e
  split at e
  · cases e
    obtain ⟨v, w, rfl, rv, rw'⟩ := rb.two
    exact ⟨_, _, by rw [rv.int, rw'.int], k F H _ (vp_sc sm (.int _))⟩
  · cases e
theorem cv_min2 (hc : X.calm = true) : CallR X (.builtin "min") (rDn X.K fMin2) := cv_of (call_min2 hc) fun xs H Q h => by
  obtain ⟨F, ds, d, t, sm, rb, e, k⟩ := h
  unfold fMin2 at e
  split at e
  · cases e
    obtain ⟨v, w, rfl, rv, rw'⟩ := rb.two
    exact ⟨_, _, by rw [rv.int, rw'.int], k F H _ (vp_sc sm (.int _))⟩
  · cases e
theorem cv_int : CallR X (.type "int") (rDn X.K fInt) := cv_of call_int1 fun xs H Q h => by
  obtain ⟨F, ds, d, t, sm, rb, e, k⟩ := h
  unfold fInt at e
  split at e
  · cases e
    obtain ⟨v, rfl, rv⟩ := rb.one
    exact .inl ⟨_, by rw [rv.int], k F H _ (vp_sc sm (.int _))⟩
  · cases e
    obtain ⟨v, rfl, rv⟩ := rb.one
    exact .inr ⟨_, by rw [rv.bool], k F H _ (vp_sc sm (.int _))⟩
  · cases e
theorem cv_str : CallR X (.type "str") (rDn X.K fStr) := cv_of call_str_int fun xs H Q h => by
  obtain ⟨F, ds, d, t, sm, rb, e, k⟩ := h
  unfold fStr at e
  split at e
  · split at e
    · rename_i hz
      cases e
      obtain ⟨v, rfl, rv⟩ := rb.one
      exact ⟨_, by rw [rv.int], hz, k F H _ (vp_sc sm (.str _))⟩
    · cases e
  · cases e
theorem cv_list : CallR X (.type "list") (rDn X.K fList) := cv_of call_list_of fun xs H Q h => by
  obtain ⟨F, ds, d, t, sm, rb, e, k⟩ := h
  unfold fList at e
  split at e
  · cases e
    obtain ⟨v, rfl, rv⟩ := rb.one
    obtain ⟨a, vs, rfl, q1, r1⟩ := rv.list sm
    exact ⟨a, vs, rfl, .inl q1, fun b hb => k _ _ _ (vp_lst sm hb r1)⟩
  · cases e
    obtain ⟨v, rfl, rv⟩ := rb.one
    obtain ⟨a, vs, rfl, q1, r1⟩ := rv.tup sm
    exact ⟨a, vs, rfl, .inr (.of q1), fun b hb => k _ _ _ (vp_lst sm hb r1)⟩
  · cases e
theorem cv_tuple : CallR X (.type "tuple") (rDn X.K fTuple) := cv_of call_tuple_of fun xs H Q h => by
  obtain ⟨F, ds, d, t, sm, rb, e, k⟩ := h
  unfold fTuple at e
  split at e
  · cases e
    obtain ⟨v, rfl, rv⟩ := rb.one
    obtain ⟨a, vs, rfl, q1, r1⟩ := rv.list sm
    exact ⟨a, vs, rfl, .inl ⟨q1, fun b hb => k _ _ _ (vp_tup sm hb r1)⟩⟩
  · cases e
theorem cv_divmod : CallR X (.builtin "divmod") (rDn X.K fDivmod) := cv_of call_divmod fun xs H Q h => by
  obtain ⟨F, ds, d, t, sm, rb, e, k⟩ := h
  unfold fDivmod at e
  split at e
  · split at e
    · rename_i hz
      cases e
      obtain ⟨v, w, rfl, rv, rw'⟩ := rb.two
      exact ⟨_, _, by rw [rv.int, rw'.int], hz, fun b hb => k _ _ _ (vp_tup sm hb (.cons (.int _) (.cons (.int _) .nil)))⟩
    · cases e
  · cases e
theorem cv_sum (hc : X.calm = true) : CallR X (.builtin "sum") (rDn X.K fSum) := cv_of (cr_sum hc) fun xs H Q h => by
  obtain ⟨F, ds, d, t, sm, rb, e, k⟩ := h
  unfold fSum at e
  split at e
  · simp only [Option.map_eq_some_iff] at e
    obtain ⟨ns, h1, h2⟩ := e
    cases h2
    obtain ⟨v, rfl, rv⟩ := rb.one
    obtain ⟨a, vs, rfl, q1, r1⟩ := rv.list sm
    rw [intsD_eq h1] at r1
    rw [r1.ints] at q1
    exact ⟨a, ns, rfl, q1, k F H _ (vp_sc sm (.int _))⟩
  · cases e
theorem cv_any (hc : X.calm = true) : CallR X (.builtin "any") (rDn X.K fAny) := cv_of (cr_any hc) fun xs H Q h => by
  obtain ⟨F, ds, d, t, sm, rb, e, k⟩ := h
  unfold fAny at e
  split at e
  · simp only [Option.map_eq_some_iff] at e
    obtain ⟨ns, h1, h2⟩ := e
    cases h2
    obtain ⟨v, rfl, rv⟩ := rb.one
    obtain ⟨a, vs, rfl, q1, r1⟩ := rv.list sm
    rw [boolsD_eq h1] at r1
    rw [r1.bools] at q1
    exact ⟨a, ns, rfl, q1, k F H _ (vp_sc sm (.bl _))⟩
  · cases e
theorem cv_all (hc : X.calm = true) : CallR X (.builtin "all") (rDn X.K fAll) := cv_of (cr_all hc) fun xs H Q h => by
  obtain ⟨F, ds, d, t, sm, rb, e, k⟩ := h
  unfold fAll at e
  split at e
  · simp only [Option.map_eq_some_iff] at e
    obtain ⟨ns, h1, h2⟩ := e
    cases h2
    obtain ⟨v, rfl, rv⟩ := rb.one
    obtain ⟨a, vs, rfl, q1, r1⟩ := rv.list sm
    rw [boolsD_eq h1] at r1
    rw [r1.bools] at q1
    exact ⟨a, ns, rfl, q1, k F H _ (vp_sc sm (.bl _))⟩
  · cases e
end
end Dd
namespace Dd
open PySem PySem.Spec PyProof.Rows L2

theorem Rl.write {K : PySem.W.Frag} {F H : Hp} {σ : Sg} {env : Ev} (r : Rl K F H σ env) {i : Nat} {d d' : D} {t : Tg} {a : Addr} {o' : HO} (nt : t ≠ Tg.sh) (e : env[i]? = some (some (d, t))) (hs : σ[i]? = some (some (V.ref a))) (w : OwO K F o' d') :
    Rl K F (upd H a o') σ (env.set i (some (d', t))) := by
  obtain ⟨a', h1, f, o, ho, _⟩ := r.ow i d t nt e
  rw [hs] at h1
  cases h1
  refine ⟨fun b u hb => ?_, by simpa using r.len, fun j d1 ej => ?_, fun j d1 t1 n1 ej => ?_, fun j k d1 d2 t1 t2 b n1 n2 e1 e2 s1 s2 => ?_⟩
  · rw [upd_ne]
    · exact r.sub b u hb
    · rintro rfl
      rw [f] at hb
      cases hb
  · by_cases hj : i = j
    · subst hj
      rw [List.getElem?_set_self (get_lt e)] at ej
      cases ej
      exact absurd rfl nt
    · rw [List.getElem?_set_ne hj] at ej
      exact r.sh j d1 ej
  · by_cases hj : i = j
    · subst hj
      rw [List.getElem?_set_self (get_lt e)] at ej
      cases ej
      exact ⟨a, hs, f, o', upd_same, w⟩
    · rw [List.getElem?_set_ne hj] at ej
      obtain ⟨b, h1, f1, u, h2, h3⟩ := r.ow j d1 t1 n1 ej
      have ne : b ≠ a := fun z => by
        subst z
        exact hj (r.sep i j d d1 t t1 b nt n1 e ej hs h1)
      exact ⟨b, h1, f1, u, by rw [upd_ne ne]; exact h2, h3⟩
  · have back : ∀ {j : Nat} {d1 : D} {t1 : Tg}, (env.set i (some (d', t)))[j]? = some (some (d1, t1)) → ∃ d2, env[j]? = some (some (d2, t1)) := fun {j d1 t1} z => by
      by_cases hj : i = j
      · subst hj
        rw [List.getElem?_set_self (get_lt e)] at z
        cases z
        exact ⟨d, e⟩
      · rw [List.getElem?_set_ne hj] at z
        exact ⟨d1, z⟩
    obtain ⟨x1, z1⟩ := back e1
    obtain ⟨x2, z2⟩ := back e2
    exact r.sep j k x1 x2 t1 t2 b n1 n2 z1 z2 s1 s2
theorem le_write {env : Ev} {i : Nat} {d d' : D} {t : Tg} (e : env[i]? = some (some (d, t))) : Le env (env.set i (some (d', t))) where
  len := by simp
  ow := fun j d1 t1 n h => by
    by_cases hj : i = j
    · subst hj
      rw [List.getElem?_set_self (get_lt e)] at h
      cases h
      exact ⟨d, e⟩
    · rw [List.getElem?_set_ne hj] at h
      exact ⟨d1, h⟩
  io := fun j d1 h => by
    by_cases hj : i = j
    · subst hj
      rw [e] at h
      cases h
      exact ⟨d', List.getElem?_set_self (get_lt e)⟩
    · exact ⟨d1, by rw [List.getElem?_set_ne hj]; exact h⟩
theorem write_post {K : PySem.W.Frag} {F H : Hp} {σ : Sg} {env : Ev} (r : Rl K F H σ env) {i : Nat} {d d' x : D} {t : Tg} {a : Addr} {o' : HO} {v : V} (nt : t ≠ Tg.sh) (e : env[i]? = some (some (d, t))) (hs : σ[i]? = some (some (V.ref a))) (w : OwO K F o' d') (rv : Rep K F v x) :
    EPost K σ env F H x .sh (env.set i (some (d', t))) F (upd H a o') v := by
  refine ⟨r.write nt e hs w, ⟨.refl _, fun b u hb nb => ⟨?_, fun z _ => z⟩, fun b hb => ?_⟩, le_write e, rv⟩
  · rw [upd_ne]
    · exact hb
    · rintro rfl
      exact nb ⟨i, d, t, nt, e, hs⟩
  · by_cases hba : b = a
    · subst hba
      rw [upd_same] at hb
      cases hb
    · rw [upd_ne hba] at hb
      exact hb
/-- the slot's own object -/
def own (i : Nat) (e : Ev) : Option (D × Tg) := (sl e i).bind fun p => if p.2 = .sh then none else some p
theorem own_inv {i : Nat} {e : Ev} {d : D} {t : Tg} (h : own i e = some (d, t)) : e[i]? = some (some (d, t)) ∧ t ≠ Tg.sh := by
  unfold own at h
  simp only [Option.bind_eq_some_iff] at h
  obtain ⟨p, h1, h2⟩ := h
  split at h2
  · cases h2
  · rename_i n
    cases h2
    exact ⟨sl_iff.mp h1, n⟩
theorem Rl.lst {K : PySem.W.Frag} {F H : Hp} {σ : Sg} {env : Ev} (r : Rl K F H σ env) {i : Nat} {ds : List D} {t : Tg} (h : own i env = some (.list ds, t)) : ∃ a vs, σ[i]? = some (some (V.ref a)) ∧ H a = some (.lst vs) ∧ Reps K F vs ds := by
  obtain ⟨h1, h2⟩ := own_inv h
  obtain ⟨a, e, f, o, ho, w⟩ := r.ow i _ t h2 h1
  cases w with
  | lst rv => exact ⟨a, _, e, ho, rv⟩
/-- x.append(e) -/
def eApp (i : Nat) (m : EM) : EM := fun e => match own i e with
  | some (.list _, _) => (eSh m e).bind fun x => match own i x.2.2 with
    | some (.list ds, t) => if ds.length < lim then some (.none, .sh, x.2.2.set i (some (.list (ds ++ [x.1]), t))) else none
    | _ => none
  | _ => none
section
variable {X : Cx} {a b e : Expr} {es : List Expr} {pos apos cpos : Pos} {m : EM} {i : Nat}
theorem d_app (ho : PE X a (tVar i)) (he : PE X e (TEof X.K m)) (hbase : attributeBase a "append" X.env (eval a X.env) = eval a X.env := by rfl)
    (hfew : ((backTo cpos (starEach [e] X.env)).all (fun x => !x.1) && (backToKw cpos (keywordEach [] X.env)).all (fun x => x.1.isSome) && decide (([e] : List Expr).length + ([] : List Keyword).length + (if ([] : List Keyword).isEmpty then 0 else 1) < 30)) = true := by rfl)
    (hline : (apos.endLine == cpos.line) = true := by rfl) (hs : starEach [e] X.env = (false, eval e X.env) :: starEach [] X.env := by rfl) :
    PE X (.Call (.Attribute a "append" apos) [e] [] cpos) (TEof X.K (eApp i m)) := (pe_bm PySem.F.plainAttrs_list PySem.F.slot_list_append PySem.F.type_list_append mt_append ho (pa_cons he pa_nil hs) hbase hfew hline hs (by rfl)).mono fun σ H Q q => by
  obtain ⟨F, env, r, d, t, env', e, k⟩ := q
  unfold eApp at e
  split at e
  · rename_i ds0 t0 h0
    simp only [Option.bind_eq_some_iff] at e
    obtain ⟨⟨d1, t1, e1⟩, h1, h2⟩ := e
    split at h2
    · rename_i ds t2 h3
      split at h2
      · rename_i hz
        cases h2
        obtain ⟨p, vs0, hp, hH, _⟩ := r.lst h0
        have ht : t1 = .sh := by
          unfold eSh at h1
          simp only [Option.map_eq_some_iff] at h1
          obtain ⟨z, _, hz⟩ := h1
          cases hz
          rfl
        subst ht
        refine ⟨.ref p, hp, .inl ⟨rfl, vs0, .of hH⟩, sh_core ⟨F, env, r, d1, .sh, e1, h1, fun F1 H1 v q => ?_⟩⟩
        obtain ⟨p', vs, hp', hH1, rv⟩ := q.rl.lst h3
        rw [hp] at hp'
        cases hp'
        obtain ⟨h4, h5⟩ := own_inv h3
        refine ⟨p, vs, v, rfl, rfl, hH1, by rw [rv.len]; exact lim_lt (Nat.le_of_lt hz), k F1 _ .non ?_⟩
        exact (write_post q.rl h5 h4 hp (.lst (rv.append (.one q.rep))) .non).after q.ex q.le
      · cases h2
    · cases h2
  · cases e
/-- x.pop() -/
def ePop (i : Nat) : EM := fun e => match own i e with
  | some (.list ds, t) => (ds[ds.length - 1]?).map fun d => (d, .sh, e.set i (some (.list ds.dropLast, t)))
  | _ => none
theorem Reps.dropLast {K : PySem.W.Frag} {F : Hp} {vs : List V} {ds : List D} (r : Reps K F vs ds) : Reps K F vs.dropLast ds.dropLast := by
  rw [List.dropLast_eq_take, List.dropLast_eq_take, r.len]
  exact r.take _
theorem d_pop (ho : PE X a (tVar i)) (hbase : attributeBase a "pop" X.env (eval a X.env) = eval a X.env := by rfl) (hline : (apos.endLine == cpos.line) = true := by rfl) :
    PE X (.Call (.Attribute a "pop" apos) [] [] cpos) (TEof X.K (ePop i)) := (pe_bm0 PySem.F.plainAttrs_list PySem.F.slot_list_pop PySem.F.type_list_pop mt_pop ho hbase hline).mono fun σ H Q q => by
  obtain ⟨F, env, r, d, t, env', e, k⟩ := q
  unfold ePop at e
  split at e
  · rename_i ds t0 h0
    simp only [Option.map_eq_some_iff] at e
    obtain ⟨x, h1, h2⟩ := e
    cases h2
    obtain ⟨p, vs, hp, hH, rv⟩ := r.lst h0
    obtain ⟨h4, h5⟩ := own_inv h0
    obtain ⟨y, hy, ry⟩ := rv.get h1
    exact ⟨.ref p, hp, .inl ⟨rfl, vs, .of hH⟩, p, vs, y, rfl, rfl, hH, by rw [rv.len]; exact hy, k F _ y (write_post r h5 h4 hp (.lst rv.dropLast) ry)⟩
  · cases e
/-- x.pop(0) -/
def ePop0 (i : Nat) : EM := fun e => match own i e with
  | some (.list (d :: ds), t) => some (d, .sh, e.set i (some (.list ds, t)))
  | _ => none
theorem d_pop0 {kk : Nat} {p2 : Pos} (ho : PE X a (tVar i)) (hbase : attributeBase a "pop" X.env (eval a X.env) = eval a X.env := by rfl)
    (hfew : ((backTo cpos (starEach [Expr.Constant (.int 0) kk p2] X.env)).all (fun x => !x.1) && (backToKw cpos (keywordEach [] X.env)).all (fun x => x.1.isSome) && decide (([Expr.Constant (.int 0) kk p2] : List Expr).length + ([] : List Keyword).length + (if ([] : List Keyword).isEmpty then 0 else 1) < 30)) = true := by rfl)
    (hline : (apos.endLine == cpos.line) = true := by rfl) : PE X (.Call (.Attribute a "pop" apos) [.Constant (.int 0) kk p2] [] cpos) (TEof X.K (ePop0 i)) :=
  (pe_bm PySem.F.plainAttrs_list PySem.F.slot_list_pop PySem.F.type_list_pop mt_popAt ho (pa_cons pe_int pa_nil) hbase hfew hline (by rfl) (by rfl)).mono fun σ H Q q => by
  obtain ⟨F, env, r, d, t, env', e, k⟩ := q
  unfold ePop0 at e
  split at e
  · rename_i d1 ds t0 h0
    cases e
    obtain ⟨p, vs, hp, hH, rv⟩ := r.lst h0
    obtain ⟨h4, h5⟩ := own_inv h0
    cases rv with
    | @cons y vs' _ _ ry rv =>
      refine ⟨.ref p, hp, .inl ⟨rfl, _, .of hH⟩, p, y :: vs', 0, 0, y, rfl, rfl, hH, by decide, by decide, ?_, rfl, k F _ y (write_post r h5 h4 hp (.lst rv) ry)⟩
      exact seqIndex_of (by decide) (by simp only [List.length_cons]; omega)
  · cases e
/-- x.remove(e) -/
def eRem (i : Nat) (m : EM) : EM := fun e => match own i e with
  | some (.list _, _) => (eSh m e).bind fun x => match own i x.2.2 with
    | some (.list ds, t) => if PyData.plainAll ds && x.1.plain && decide (min (PyData.depthAll ds) x.1.depth ≤ 60) then (SeqAt.dataPlace ds x.1).map fun j => (.none, .sh, x.2.2.set i (some (.list (ds.eraseIdx j), t))) else none
    | _ => none
  | _ => none
theorem Reps.eraseIdx {K : PySem.W.Frag} {F : Hp} : ∀ {vs : List V} {ds : List D} (n : Nat), Reps K F vs ds → Reps K F (vs.eraseIdx n) (ds.eraseIdx n)
  | _, _, _, .nil => .nil
  | _, _, 0, .cons h r => r
  | _, _, n + 1, .cons h r => .cons h (Reps.eraseIdx n r)
def rRemD (K : PySem.W.Frag) : V → List V → Hp → VK → Prop := fun x vs H Q => ∃ (F : Hp) (l : Addr) (xs : List V) (y : V) (ds : List D) (d : D) (j : Nat), x = .ref l ∧ vs = [y] ∧ Same F H ∧ H l = some (.lst xs) ∧ Reps K F xs ds ∧ Rep K F y d ∧ PyData.plainAll ds = true ∧ d.plain = true ∧ min (PyData.depthAll ds) d.depth ≤ 60 ∧ SeqAt.dataPlace ds d = some j ∧ Q .non (upd H l (.lst (xs.eraseIdx j)))
theorem Vals.eraseIdx' {xs : List V} {us : List Value} (n : Nat) (r : Vals xs us) : Vals (xs.eraseIdx n) (us.eraseIdx n) := by
  induction r generalizing n with
  | nil => exact .nil
  | cons h t ih =>
    cases n with
    | zero => exact t
    | succ n => exact .cons h (ih n)
theorem mt_remD (hu : X.A.units + 64 < cLine) : MtR X "list.remove" (rRemD X.K) := by
  rintro pins s σ H x vs v us Q I rx rv ⟨F, l, xs, y, ds, d, j, rfl, rfl, sm, hl, rds', ry, h1, h2, h3, h4, k⟩
  cases rx
  obtain ⟨u, rfl, ru⟩ := rv.one
  obtain ⟨hz, its, n, rel, hlen, g⟩ := I.lstM hl
  obtain ⟨as, rs⟩ := Dp.readsAll I ds xs its (rds'.dp sm h1) rel
  obtain ⟨bs, rd'⟩ := Dp.reads I d y u (ry.dp sm h2) ru
  refine SeqAt.remove_list_data (vs := its.toArray) (j := j) ⟨_, g, rfl, n, rfl⟩ (by simpa using rs) rd' h1 h2 (room61 hu h3) h4 (by simp only [List.size_toArray]; omega) ?_
  refine ⟨.non, _, I.lset (its' := its.eraseIdx j) (t' := s.toks) hl g ?_ (Vals.eraseIdx' j rel) ?_, rfl, k⟩
  · rw [List.eraseIdxIfInBounds_toArray]
  · exact Nat.le_trans (List.length_eraseIdx_le ..) hz
theorem d_rem (hu : X.A.units + 64 < cLine) (ho : PE X a (tVar i)) (he : PE X e (TEof X.K m)) (hbase : attributeBase a "remove" X.env (eval a X.env) = eval a X.env := by rfl)
    (hfew : ((backTo cpos (starEach [e] X.env)).all (fun x => !x.1) && (backToKw cpos (keywordEach [] X.env)).all (fun x => x.1.isSome) && decide (([e] : List Expr).length + ([] : List Keyword).length + (if ([] : List Keyword).isEmpty then 0 else 1) < 30)) = true := by rfl)
    (hline : (apos.endLine == cpos.line) = true := by rfl) (hs : starEach [e] X.env = (false, eval e X.env) :: starEach [] X.env := by rfl) :
    PE X (.Call (.Attribute a "remove" apos) [e] [] cpos) (TEof X.K (eRem i m)) := (pe_bm PySem.F.plainAttrs_list PySem.F.slot_list_remove PySem.F.type_list_remove (mt_remD hu) ho (pa_cons he pa_nil hs) hbase hfew hline hs (by rfl)).mono fun σ H Q q => by
  obtain ⟨F, env, r, d, t, env', e, k⟩ := q
  unfold eRem at e
  split at e
  · rename_i ds0 t0 h0
    simp only [Option.bind_eq_some_iff] at e
    obtain ⟨⟨d1, t1, e1⟩, h1, h2⟩ := e
    split at h2
    · rename_i ds t2 h3
      split at h2
      · rename_i hz
        simp only [Option.map_eq_some_iff] at h2
        obtain ⟨j, hj, h2⟩ := h2
        cases h2
        simp only [Bool.and_eq_true] at hz
        obtain ⟨p, vs0, hp, hH, _⟩ := r.lst h0
        have ht : t1 = .sh := by
          unfold eSh at h1
          simp only [Option.map_eq_some_iff] at h1
          obtain ⟨z, _, hz⟩ := h1
          cases hz
          rfl
        subst ht
        refine ⟨.ref p, hp, .inl ⟨rfl, vs0, .of hH⟩, sh_core ⟨F, env, r, d1, .sh, e1, h1, fun F1 H1 v q => ?_⟩⟩
        obtain ⟨p', vs, hp', hH1, rv⟩ := q.rl.lst h3
        rw [hp] at hp'
        cases hp'
        obtain ⟨h4, h5⟩ := own_inv h3
        refine ⟨F1, p, vs, v, ds, d1, j, rfl, rfl, q.rl.sub, hH1, rv, q.rep, hz.1.1, hz.1.2, of_decide_eq_true hz.2, hj, k F1 _ .non ?_⟩
        exact (write_post q.rl h5 h4 hp (.lst (rv.eraseIdx j)) .non).after q.ex q.le
      · cases h2
    · cases h2
  · cases e
/-- x[k] = e, x a list of ours -/
def sStL (i : Nat) (mk mv : EM) : SM := fun e => (eSh mv e).bind fun x => (sl x.2.2 i).bind fun _ => (mk x.2.2).bind fun y => match y.1, y.2.1 with
  | .int k, .sh => match own i y.2.2 with
    | some (.list ds, t) => (L2.ixN ds.length k).map fun j => .nx (y.2.2.set i (some (.list (ds.set j x.1), t)))
    | _ => none
  | _, _ => none
theorem z_stL {mk mv : EM} {k' : Nat} {v : Expr} {pos' : Pos} (ho : PE X a (tVar i)) (hk : PE X b (TEof X.K mk)) (hv : PE X v (TEof X.K mv)) (hs : swapsWithSole [.Subscript a b pos'] v pos.line X.env = pure false := by rfl) (hw : swappedStores [.Subscript a b pos'] v X.env = pure none := by rfl)
    (h1 : (assignEach [.Subscript a b pos'] X.env).map (·.2) = [assign (.Subscript a b pos') X.env] := by rfl)
    (ha : ∀ v, assign (.Subscript a b pos') X.env v = (do
      let ov ← holding [v] (eval a X.env)
      let iv ← holding [v, ov] (eval b X.env)
      standAt pos'
      holding [v, ov, iv] (setItem ov iv v)
      release [v, ov, iv] []) := by intro _; rfl) : PS X (.Assign [.Subscript a b pos'] v pos) (TSof X.K (sStL i mk mv)) := (ps_asg hv (pg_sub ho hk set_list ha) hs hw h1).mono fun D' σ H h => by
  obtain ⟨F, env, r, out, e, w⟩ := h
  unfold sStL at e
  simp only [Option.bind_eq_some_iff] at e
  obtain ⟨⟨d, t, e1⟩, h1, px, hpx, ⟨dk, tk, e2⟩, h2, h3⟩ := e
  split at h3
  · rename_i kk hd ht
    have hd : dk = .int kk := hd
    have ht : tk = .sh := ht
    subst hd ht
    split at h3
    · rename_i ds t2 h4
      simp only [Option.map_eq_some_iff] at h3
      obtain ⟨j, hj, h3⟩ := h3
      subst h3
      have ht : t = .sh := by
        unfold eSh at h1
        simp only [Option.map_eq_some_iff] at h1
        obtain ⟨z, _, hz⟩ := h1
        cases hz
        rfl
      subst ht
      refine sh_core ⟨F, env, r, d, .sh, e1, h1, fun F1 H1 v p => ?_⟩
      obtain ⟨h5, h6⟩ := own_inv h4
      -- the slot is ours before the index, too
      have sp1 := SPost.of_expr p.rl p.ex p.le
      obtain ⟨x, hx⟩ := p.rl.val (sl_iff.mp hpx)
      refine ⟨x, hx, F1, e1, p.rl, .int kk, .sh, e2, h2, fun F2 H2 v2 p2 => ?_⟩
      obtain ⟨q, vs, hq, hH, rv⟩ := p2.rl.lst h4
      rw [hx] at hq
      cases hq
      have q2 : Rep X.K F2 v2 (.int kk) := p2.rep
      cases q2
      refine ⟨q, vs, kk, j, rfl, rfl, hH, by rw [rv.len]; exact hj, ?_⟩
      have wp := write_post (x := .none) (v := .non) p2.rl h6 h5 hx (.lst (rv.set j (Rep.mono p2.ex.subF p.rep))) .non
      exact w F2 _ σ (sp1.trans ((SPost.of_expr p2.rl p2.ex p2.le).trans (SPost.of_expr wp.rl wp.ex wp.le)))
    · cases h3
  · cases h3
end

def unK : D → Option Key
  | .int i => some (.inl i)
  | .str x => some (.inr x)
  | _ => none
theorem unK_kD (k : Key) : unK (kD k) = some k := by cases k <;> rfl
theorem unK_eq {d : D} {k : Key} (h : unK d = some k) : d = kD k := by
  unfold unK at h
  split at h <;> first | (cases h; rfl) | cases h
def unKs : List D → Option (List Key)
  | [] => some []
  | d :: ds => (unK d).bind fun k => (unKs ds).map fun ks => k :: ks
theorem unKs_map (ks : List Key) : unKs (ks.map kD) = some ks := by
  induction ks with
  | nil => rfl
  | cons k ks ih => simp [unKs, unK_kD, ih]
theorem unKs_eq : ∀ {ds : List D} {ks : List Key}, unKs ds = some ks → ds = ks.map kD
  | [], _, h => by cases h; rfl
  | d :: ds, _, h => by
    unfold unKs at h
    simp only [Option.bind_eq_some_iff, Option.map_eq_some_iff] at h
    obtain ⟨k, h1, ks, h2, h3⟩ := h
    subst h3
    rw [unK_eq h1, unKs_eq h2]
    rfl
def unT : D → Option (List Key)
  | .tuple xs => unKs xs
  | _ => none
theorem unT_tD (k : List Key) : unT (tD k) = some k := unKs_map k
theorem unT_eq {d : D} {k : List Key} (h : unT d = some k) : d = tD k := by
  unfold unT at h
  split at h
  · rw [unKs_eq h]; rfl
  · cases h
section tables
variable {κ : Type} [DecidableEq κ]
/-- the value at a key, the keys read by un -/
def tGet (un : D → Option κ) (kvs : List (D × D)) (k : κ) : Option D := (kvs.find? fun p => decide (un p.1 = some k)).map (·.2)
def tPut (un : D → Option κ) (kvs : List (D × D)) (kd : D) (k : κ) (d : D) : List (D × D) :=
  if (kvs.any fun p => decide (un p.1 = some k)) = true then kvs.map (fun p => if un p.1 = some k then (p.1, d) else p) else kvs ++ [(kd, d)]
end tables
theorem getK {K : PySem.W.Frag} {F : Hp} (k : Key) : ∀ {kvs : List (Key × V)} {ds : List (D × D)}, RepK K F kvs ds → (∀ d, tGet unK ds k = some d → ∃ v, valV kvs k = some v ∧ Rep K F v d) ∧ (tGet unK ds k = none → valV kvs k = none)
  | _, _, .nil => ⟨fun d h => (nomatch h), fun _ => rfl⟩
  | _, _, .cons (k := j) (vs := vs) (ds := ds) (d := d0) h r => by
    obtain ⟨i1, i2⟩ := getK k r
    by_cases e : j = k
    · subst e
      have e1 : tGet unK ((kD j, d0) :: ds) j = some d0 := by simp [tGet, List.find?_cons, unK_kD]
      rw [e1, valV_pos (p := (j, _)) rfl]
      exact ⟨fun d q => (by cases q; exact ⟨_, rfl, h⟩), fun q => (nomatch q)⟩
    · have e1 : tGet unK ((kD j, d0) :: ds) k = tGet unK ds k := by simp [tGet, List.find?_cons, unK_kD, e]
      rw [e1, valV_neg (p := (j, _)) e]
      exact ⟨i1, i2⟩
theorem getT {K : PySem.W.Frag} {F : Hp} (k : List Key) : ∀ {kvs : List (List Key × V)} {ds : List (D × D)}, RepT K F kvs ds → (∀ d, tGet unT ds k = some d → ∃ v, valV kvs k = some v ∧ Rep K F v d) ∧ (tGet unT ds k = none → valV kvs k = none)
  | _, _, .nil => ⟨fun d h => (nomatch h), fun _ => rfl⟩
  | _, _, .cons (k := j) (vs := vs) (ds := ds) (d := d0) h r => by
    obtain ⟨i1, i2⟩ := getT k r
    by_cases e : j = k
    · subst e
      have e1 : tGet unT ((tD j, d0) :: ds) j = some d0 := by simp [tGet, List.find?_cons, unT_tD]
      rw [e1, valV_pos (p := (j, _)) rfl]
      exact ⟨fun d q => (by cases q; exact ⟨_, rfl, h⟩), fun q => (nomatch q)⟩
    · have e1 : tGet unT ((tD j, d0) :: ds) k = tGet unT ds k := by simp [tGet, List.find?_cons, unT_tD, e]
      rw [e1, valV_neg (p := (j, _)) e]
      exact ⟨i1, i2⟩
theorem RepK.len {K : PySem.W.Frag} {F : Hp} : ∀ {kvs : List (Key × V)} {ds : List (D × D)}, RepK K F kvs ds → kvs.length = ds.length
  | _, _, .nil => rfl
  | _, _, .cons _ r => by simp [RepK.len r]
theorem RepT.len {K : PySem.W.Frag} {F : Hp} : ∀ {kvs : List (List Key × V)} {ds : List (D × D)}, RepT K F kvs ds → kvs.length = ds.length
  | _, _, .nil => rfl
  | _, _, .cons _ r => by simp [RepT.len r]
theorem anyK {K : PySem.W.Frag} {F : Hp} (k : Key) : ∀ {kvs : List (Key × V)} {ds : List (D × D)}, RepK K F kvs ds → (kvs.any fun p => decide (p.1 = k)) = ds.any fun p => decide (unK p.1 = some k)
  | _, _, .nil => rfl
  | _, _, .cons (k := j) h r => by simp [List.any_cons, anyK k r, unK_kD]
theorem anyT {K : PySem.W.Frag} {F : Hp} (k : List Key) : ∀ {kvs : List (List Key × V)} {ds : List (D × D)}, RepT K F kvs ds → (kvs.any fun p => decide (p.1 = k)) = ds.any fun p => decide (unT p.1 = some k)
  | _, _, .nil => rfl
  | _, _, .cons (k := j) h r => by simp [List.any_cons, anyT k r, unT_tD]
theorem RepK.app {K : PySem.W.Frag} {F : Hp} {k : Key} {v : V} {d : D} (h : Rep K F v d) : ∀ {kvs : List (Key × V)} {ds : List (D × D)}, RepK K F kvs ds → RepK K F (kvs ++ [(k, v)]) (ds ++ [(kD k, d)])
  | _, _, .nil => .cons h .nil
  | _, _, .cons q r => .cons q (RepK.app h r)
theorem RepT.app {K : PySem.W.Frag} {F : Hp} {k : List Key} {v : V} {d : D} (h : Rep K F v d) : ∀ {kvs : List (List Key × V)} {ds : List (D × D)}, RepT K F kvs ds → RepT K F (kvs ++ [(k, v)]) (ds ++ [(tD k, d)])
  | _, _, .nil => .cons h .nil
  | _, _, .cons q r => .cons q (RepT.app h r)
theorem RepK.upd {K : PySem.W.Frag} {F : Hp} {k : Key} {v : V} {d : D} (h : Rep K F v d) : ∀ {kvs : List (Key × V)} {ds : List (D × D)}, RepK K F kvs ds → RepK K F (kvs.map fun p => if p.1 = k then (p.1, v) else p) (ds.map fun p => if unK p.1 = some k then (p.1, d) else p)
  | _, _, .nil => .nil
  | _, _, .cons (k := j) q r => by
    rw [List.map_cons, List.map_cons]
    by_cases e : j = k
    · rw [if_pos e, if_pos (by rw [unK_kD, e])]
      exact .cons h (RepK.upd h r)
    · rw [if_neg e, if_neg (by rw [unK_kD]; exact fun z => e (Option.some.inj z))]
      exact .cons q (RepK.upd h r)
theorem RepT.upd {K : PySem.W.Frag} {F : Hp} {k : List Key} {v : V} {d : D} (h : Rep K F v d) : ∀ {kvs : List (List Key × V)} {ds : List (D × D)}, RepT K F kvs ds → RepT K F (kvs.map fun p => if p.1 = k then (p.1, v) else p) (ds.map fun p => if unT p.1 = some k then (p.1, d) else p)
  | _, _, .nil => .nil
  | _, _, .cons (k := j) q r => by
    rw [List.map_cons, List.map_cons]
    by_cases e : j = k
    · rw [if_pos e, if_pos (by rw [unT_tD, e])]
      exact .cons h (RepT.upd h r)
    · rw [if_neg e, if_neg (by rw [unT_tD]; exact fun z => e (Option.some.inj z))]
      exact .cons q (RepT.upd h r)
theorem putK_rep {K : PySem.W.Frag} {F : Hp} {k : Key} {v : V} {d : D} (h : Rep K F v d) {kvs : List (Key × V)} {ds : List (D × D)} (r : RepK K F kvs ds) : RepK K F (putK kvs k v) (tPut unK ds (kD k) k d) := by
  unfold putK tPut
  rw [anyK k r]
  split
  · exact r.upd h
  · exact r.app h
theorem putT_rep {K : PySem.W.Frag} {F : Hp} {k : List Key} {v : V} {d : D} (h : Rep K F v d) {kvs : List (List Key × V)} {ds : List (D × D)} (r : RepT K F kvs ds) : RepT K F (putK kvs k v) (tPut unT ds (tD k) k d) := by
  unfold putK tPut
  rw [anyT k r]
  split
  · exact r.upd h
  · exact r.app h
theorem dropK_rep {K : PySem.W.Frag} {F : Hp} {k : Key} : ∀ {kvs : List (Key × V)} {ds : List (D × D)}, RepK K F kvs ds → RepK K F (dropK kvs k) (ds.filter fun p => decide (unK p.1 ≠ some k))
  | _, _, .nil => .nil
  | _, _, .cons (k := j) (vs := vs) (ds := ds) q r => by
    have ih := dropK_rep (k := k) r
    unfold dropK at ih ⊢
    rw [List.filter_cons, List.filter_cons]
    by_cases e : j = k
    · rw [if_neg (by simp [e]), if_neg (by simp [unK_kD, e])]
      exact ih
    · rw [if_pos (by simp [e]), if_pos (by simp [unK_kD, e])]
      exact .cons q ih
/-- a dict's look-up; the first entry tells the kind -/
def dGet (x k : D) : Option (Option D) := match x with
  | .dict ((.none, .none) :: ds) => (unT k).map fun kk => tGet unT ds kk
  | .dict ds => (unK k).map fun kk => tGet unK ds kk
  | _ => none
theorem rep_kV {K : PySem.W.Frag} {F : Hp} {v : V} {k : Key} (h : Rep K F v (kD k)) : v = L2.kV k := by
  cases k with
  | inl i => cases h; rfl
  | inr x => cases h; rfl
theorem reps_kV {K : PySem.W.Frag} {F : Hp} : ∀ {vs : List V} {ks : List Key}, Reps K F vs (ks.map kD) → vs = ks.map L2.kV
  | _, [], .nil => rfl
  | _, k :: ks, .cons h r => by rw [rep_kV h, reps_kV r]; rfl
theorem RepB.key {K : PySem.W.Frag} {F H : Hp} {v : V} {k : Key} (h : RepB K F H v (kD k)) : v = L2.kV k := by
  rcases h with h | ⟨a, rfl, f, o, ho, w⟩
  · exact rep_kV h
  · cases k <;> cases w
theorem RepB.keyT {K : PySem.W.Frag} {F H : Hp} (s : Same F H) {v : V} {k : List Key} (h : RepB K F H v (tD k)) : ∃ b, v = .ref b ∧ H b = some (.tup (k.map L2.kV)) := by
  obtain ⟨b, vs, rfl, q, r⟩ := RepB.tup s h
  exact ⟨b, rfl, by rw [q, reps_kV r]⟩
theorem dict_cases {K : PySem.W.Frag} {F H : Hp} (s : Same F H) {v : V} {ds : List (D × D)} (h : RepB K F H v (.dict ds)) : ∃ a, v = .ref a ∧ ((∃ kvs, Rd H a (.dK kvs) ∧ RepK K F kvs ds) ∨ ∃ kvs es, Rd H a (.dT kvs) ∧ RepT K F kvs es ∧ ds = (.none, .none) :: es) := by
  rcases h with h | ⟨a, rfl, f, o, ho, w⟩
  · cases h with
    | dK q r => exact ⟨_, rfl, .inl ⟨_, rd_mono s q, r⟩⟩
    | dT q r => exact ⟨_, rfl, .inr ⟨_, _, rd_mono s q, r, rfl⟩⟩
  · cases w with
    | dK r => exact ⟨a, rfl, .inl ⟨_, .inl ho, r⟩⟩
    | dT r => exact ⟨a, rfl, .inr ⟨_, _, .inl ho, r, rfl⟩⟩
theorem repK_noT {K : PySem.W.Frag} {F : Hp} {kvs : List (Key × V)} {es : List (D × D)} (h : RepK K F kvs ((.none, .none) :: es)) : False := by
  generalize hx : ((PyData.none, PyData.none) :: es) = l at h
  cases h with
  | nil => cases hx
  | @cons k _ _ _ _ _ _ =>
    injection hx with h1 h2
    injection h1 with h3 h4
    cases k <;> cases h3
theorem dGet_ok {K : PySem.W.Frag} {F H : Hp} (s : Same F H) {v y : V} {x k : D} {o : Option D} (hx : RepB K F H v x) (hk : RepB K F H y k) (h : dGet x k = some o) :
    ∃ a ov, v = .ref a ∧ DGet H a y ov ∧ (match o with
      | some d => ∃ w, ov = some w ∧ Rep K F w d
      | none => ov = none) := by
  cases x with
  | dict ds =>
    obtain ⟨a, rfl, ⟨kvs, q, r⟩ | ⟨kvs, es, q, r, rfl⟩⟩ := dict_cases s hx
    · have h' : (unK k).map (fun kk => tGet unK ds kk) = some o := by
        unfold dGet at h
        split at h
        · rename_i e
          cases e
          exact (repK_noT r).elim
        · rename_i e
          cases e
          exact h
        · rename_i e1 e2
          exact (e2 ds rfl).elim
      simp only [Option.map_eq_some_iff] at h'
      obtain ⟨kk, h1, h2⟩ := h'
      rw [unK_eq h1] at hk
      refine ⟨a, valV kvs kk, rfl, .inl ⟨kvs, kk, q, hk.key, rfl⟩, ?_⟩
      obtain ⟨g1, g2⟩ := getK kk r
      rw [h2] at g1 g2
      cases o with
      | none => exact g2 rfl
      | some d =>
        obtain ⟨w, e1, e2⟩ := g1 d rfl
        exact ⟨w, e1, e2⟩
    · simp only [dGet, Option.map_eq_some_iff] at h
      obtain ⟨kk, h1, h2⟩ := h
      rw [unT_eq h1] at hk
      obtain ⟨b, rfl, hb⟩ := hk.keyT s
      refine ⟨a, valV kvs kk, rfl, .inr ⟨kvs, kk, b, q, rfl, hb, rfl⟩, ?_⟩
      obtain ⟨g1, g2⟩ := getT kk r
      rw [h2] at g1 g2
      cases o with
      | none => exact g2 rfl
      | some d =>
        obtain ⟨w, e1, e2⟩ := g1 d rfl
        exact ⟨w, e1, e2⟩
  | _ => cases h
def dDix (x k : D) : Option Res := match dGet x k with
  | some (some d) => some (d, .sh)
  | _ => none
def dDin (k x : D) : Option Res := (dGet x k).map fun o => (.bool o.isSome, .sh)
def dDnin (k x : D) : Option Res := (dGet x k).map fun o => (.bool (!o.isSome), .sh)
def dDget1 (x k : D) : Option Res := (dGet x k).map fun o => (o.getD .none, .sh)
section
variable {X : Cx} {a b c e : Expr} {pos apos cpos pos' : Pos} {o1 o2 o3 : OM} {i : Nat}
theorem d_dix (hu : X.A.units + 1 < cLine) (ha : PE X a (TOof X.K o1)) (hb : PE X b (TOof X.K o2)) (hs : NoSl b := by intro _ _; rfl) : PE X (.Subscript a b pos) (TEof X.K (e2 dDix o1 o2)) := (pe_dget hu ha hb hs).mono fun σ H Q q => by
  obtain ⟨F, env, r, d, t, env', e, k⟩ := q
  obtain ⟨r1, em, r2, x, y, h1, h2, h3, h4, h5⟩ := e2_inv e
  refine ⟨F, env, r, r1, em, h1, fun F1 H1 v p => ⟨F1, em, p.rl, r2, env', h2, fun F2 H2 w p2 => ?_⟩⟩
  unfold dDix at h5
  split at h5
  · rename_i d' hg
    cases h5
    obtain ⟨ad, ov, rfl, g, w', e1, e2⟩ := dGet_ok p2.rl.sub (p.late F2 H2 env' x p2.rl p2.ex p2.le h3).b (p2.late F2 H2 env' y p2.rl .refl .refl h4).b hg
    exact ⟨ad, w', rfl, by rw [← e1]; exact g, k F2 H2 w' ((((vp_sc p2.rl.sub e2).epost p2.rl).after p2.ex p2.le).after p.ex p.le)⟩
  · cases h5
theorem din_core {K : PySem.W.Frag} {σ : Sg} {H : Hp} {Q : VK} (h : TEof K (e2 dDin o1 o2) σ H Q) : tDIn (TOof K o1) (TOof K o2) σ H Q := by
  obtain ⟨F, env, r, d, t, env', e, k⟩ := h
  obtain ⟨r1, em, r2, x, y, h1, h2, h3, h4, h5⟩ := e2_inv e
  refine ⟨F, env, r, r1, em, h1, fun F1 H1 v p => ⟨F1, em, p.rl, r2, env', h2, fun F2 H2 w p2 => ?_⟩⟩
  simp only [dDin, Option.map_eq_some_iff] at h5
  obtain ⟨o, hg, h6⟩ := h5
  cases h6
  obtain ⟨ad, ov, rfl, g, q⟩ := dGet_ok p2.rl.sub (p2.late F2 H2 env' y p2.rl .refl .refl h4).b (p.late F2 H2 env' x p2.rl p2.ex p2.le h3).b hg
  refine ⟨ad, ov, rfl, g, ?_⟩
  have eo : ov.isSome = o.isSome := by
    cases o with
    | none => rw [show ov = none from q]; rfl
    | some d => obtain ⟨w', e1, _⟩ := q; rw [e1]; rfl
  rw [eo]
  exact k F2 H2 _ ((((vp_sc p2.rl.sub (.bl _)).epost p2.rl).after p2.ex p2.le).after p.ex p.le)
theorem dnin_core {K : PySem.W.Frag} {σ : Sg} {H : Hp} {Q : VK} (h : TEof K (e2 dDnin o1 o2) σ H Q) : tDNotIn (TOof K o1) (TOof K o2) σ H Q := by
  obtain ⟨F, env, r, d, t, env', e, k⟩ := h
  obtain ⟨r1, em, r2, x, y, h1, h2, h3, h4, h5⟩ := e2_inv e
  refine ⟨F, env, r, r1, em, h1, fun F1 H1 v p => ⟨F1, em, p.rl, r2, env', h2, fun F2 H2 w p2 => ?_⟩⟩
  simp only [dDnin, Option.map_eq_some_iff] at h5
  obtain ⟨o, hg, h6⟩ := h5
  cases h6
  obtain ⟨ad, ov, rfl, g, q⟩ := dGet_ok p2.rl.sub (p2.late F2 H2 env' y p2.rl .refl .refl h4).b (p.late F2 H2 env' x p2.rl p2.ex p2.le h3).b hg
  refine ⟨ad, ov, rfl, g, ?_⟩
  have eo : ov.isSome = o.isSome := by
    cases o with
    | none => rw [show ov = none from q]; rfl
    | some d => obtain ⟨w', e1, _⟩ := q; rw [e1]; rfl
  rw [eo]
  exact k F2 H2 _ ((((vp_sc p2.rl.sub (.bl _)).epost p2.rl).after p2.ex p2.le).after p.ex p.le)
theorem d_din (hu : X.A.units + 1 < cLine) (ha : PE X a (TOof X.K o1)) (hb : PE X b (TOof X.K o2)) (hm : behindInMarks .In b = false := by rfl) : PE X (.Compare a [.In] [b] pos) (TEof X.K (e2 dDin o1 o2)) := (pe_cmp (pc_din hu ha hb) hm).mono fun _ _ _ q => din_core q
theorem y_din (hu : X.A.units + 1 < cLine) (ha : PE X a (TOof X.K o1)) (hb : PE X b (TOof X.K o2)) (hm : behindInMarks .In b = false := by rfl) : PT X (.Compare a [.In] [b] pos) (TTof X.K (tB (e2 dDin o1 o2))) := (pt_cmp (pc_din hu ha hb) hm).mono fun _ _ _ q => din_core (tB_core q)
theorem y_dnin (hu : X.A.units + 1 < cLine) (ha : PE X a (TOof X.K o1)) (hb : PE X b (TOof X.K o2)) (hm : behindInMarks .NotIn b = false := by rfl) : PT X (.Compare a [.NotIn] [b] pos) (TTof X.K (tB (e2 dDnin o1 o2))) := (pt_cmp (pc_dnotin hu ha hb) hm).mono fun _ _ _ q => dnin_core (tB_core q)
end
end Dd
namespace Dd
open PySem PySem.Spec PyProof.Rows L2

def isDic : D → Bool
  | .dict _ => true
  | _ => false
theorem isD_of {K : PySem.W.Frag} {F H : Hp} (s : Same F H) {v : V} {x : D} (h : RepB K F H v x) (hd : isDic x = true) : ∃ a, v = .ref a ∧ IsD H a := by
  cases x with
  | dict ds =>
    obtain ⟨a, rfl, ⟨kvs, q, _⟩ | ⟨kvs, _, q, _⟩⟩ := dict_cases s h
    · exact ⟨a, rfl, .inl ⟨kvs, q⟩⟩
    · exact ⟨a, rfl, .inr ⟨kvs, q⟩⟩
  | _ => cases hd
def eDget1 (o1 o2 : OM) : EM := fun e => (o1 e).bind fun x => (rd x.1 x.2).bind fun d => if isDic d = true then (o2 x.2).bind fun y => (rd x.1 y.2).bind fun a => (rd y.1 y.2).bind fun b => (dGet a b).map fun r => (r.getD .none, .sh, y.2) else none
def eDget2 (o1 o2 : OM) (m : EM) : EM := fun e => (o1 e).bind fun x => (rd x.1 x.2).bind fun d => if isDic d = true then (o2 x.2).bind fun y => (eSh m y.2).bind fun z => (rd x.1 z.2.2).bind fun a => (rd y.1 z.2.2).bind fun b => (dGet a b).map fun r => (r.getD z.1, .sh, z.2.2) else none
/-- x[k] = d by data -/
def dPut (x k d : D) : Option D := match x with
  | .dict ((.none, .none) :: ds) => (unT k).bind fun kk => if ds.length < lim then some (.dict ((.none, .none) :: tPut unT ds k kk d)) else none
  | .dict ds => (unK k).bind fun kk => if ds.length < lim then some (.dict (tPut unK ds k kk d)) else none
  | _ => none
def sStD (i : Nat) (mk mv : EM) : SM := fun e => (eSh mv e).bind fun x => (sl x.2.2 i).bind fun _ => (mk x.2.2).bind fun y => if y.2.1 = .sh then (own i y.2.2).bind fun p => (dPut p.1 y.1 x.1).map fun z => .nx (y.2.2.set i (some (z, p.2))) else none
theorem eSh_tag {m : EM} {e e' : Ev} {d : D} {t : Tg} (h : eSh m e = some (d, t, e')) : t = .sh := by
  unfold eSh at h
  simp only [Option.map_eq_some_iff] at h
  obtain ⟨z, _, hz⟩ := h
  cases hz
  rfl
theorem dPut_ok {K : PySem.W.Frag} {F H : Hp} (s : Same F H) {a : Addr} {y v : V} {x k d z : D} (hx : Ow K F H a x) (hk : Rep K F y k) (hv : Rep K F v d) (h : dPut x k d = some z) : ∃ o', DPut H a y v (upd H a o') ∧ OwO K F o' z := by
  obtain ⟨f, o, ho, w⟩ := hx
  cases w with
  | lst _ => cases h
  | @dK kvs ds r =>
    have h' : (unK k).bind (fun kk => if ds.length < lim then some (PyData.dict (tPut unK ds k kk d)) else none) = some z := by
      unfold dPut at h
      split at h
      · rename_i e
        cases e
        exact (repK_noT r).elim
      · rename_i e
        cases e
        exact h
      · rename_i e1 e2
        exact (e2 ds rfl).elim
    simp only [Option.bind_eq_some_iff] at h'
    obtain ⟨kk, h1, h2⟩ := h'
    split at h2
    · rename_i hz
      cases h2
      have e := unK_eq h1
      subst e
      exact ⟨.dK (putK kvs kk v), .inl ⟨kvs, kk, ho, rep_kV hk, by rw [r.len]; exact lim_lt (Nat.le_of_lt hz), rfl⟩, .dK (putK_rep hv r)⟩
    · cases h2
  | @dT kvs ds r =>
    simp only [dPut, Option.bind_eq_some_iff] at h
    obtain ⟨kk, h1, h2⟩ := h
    split at h2
    · rename_i hz
      cases h2
      have e := unT_eq h1
      subst e
      obtain ⟨b, rfl, hb⟩ := RepB.keyT s (.inl hk)
      exact ⟨.dT (putK kvs kk v), .inr ⟨kvs, kk, b, ho, rfl, hb, by rw [r.len]; exact lim_lt (Nat.le_of_lt hz), rfl⟩, .dT (putT_rep hv r)⟩
    · cases h2
def eDk : EM := fun e => some (.dict [], .ow, e)
def eDt : EM := fun e => some (.dict [(.none, .none)], .ow, e)
section
variable {X : Cx} {a b c e : Expr} {pos apos cpos pos' : Pos} {o1 o2 : OM} {m mk mv : EM} {i : Nat}
theorem d_dget1 (hu : X.A.units + 1 < cLine) (ho : PE X a (TOof X.K o1)) (he : PE X e (TOof X.K o2)) (mm : M1 X a "get" apos e cpos) : PE X (.Call (.Attribute a "get" apos) [e] [] cpos) (TEof X.K (eDget1 o1 o2)) := (pe_dget1 hu ho he mm).mono fun σ H Q q => by
  obtain ⟨F, env, r, d, t, env', e, k⟩ := q
  unfold eDget1 at e
  simp only [Option.bind_eq_some_iff] at e
  obtain ⟨⟨r1, em⟩, h1, x0, h2, h3⟩ := e
  split at h3
  · rename_i hd
    simp only [Option.bind_eq_some_iff, Option.map_eq_some_iff] at h3
    obtain ⟨⟨r2, e3⟩, h4, x, h5, y, h6, o, h7, h8⟩ := h3
    cases h8
    refine ⟨F, env, r, r1, em, h1, fun F1 H1 v p => ?_⟩
    obtain ⟨ad, rfl, id'⟩ := isD_of p.rl.sub (p.late F1 H1 em x0 p.rl .refl .refl h2).b hd
    refine ⟨ad, rfl, id', F1, em, p.rl, r2, e3, h4, fun F2 H2 w p2 => ?_⟩
    obtain ⟨ad', ov, ea, g, q⟩ := dGet_ok p2.rl.sub (p.late F2 H2 e3 x p2.rl p2.ex p2.le h5).b (p2.late F2 H2 e3 y p2.rl .refl .refl h6).b h7
    cases ea
    refine ⟨ov, g, k F2 H2 _ ((((vp_sc p2.rl.sub ?_).epost p2.rl).after p2.ex p2.le).after p.ex p.le)⟩
    cases o with
    | none => rw [show ov = none from q]; exact .non
    | some d => obtain ⟨w', e1, e2⟩ := q; rw [e1]; exact e2
  · cases h3
theorem d_dget2 (hu : X.A.units + 1 < cLine) (ho : PE X a (TOof X.K o1)) (he : PE X e (TOof X.K o2)) (hc : PE X c (TEof X.K m)) (mm : M2 X a "get" apos e c cpos) : PE X (.Call (.Attribute a "get" apos) [e, c] [] cpos) (TEof X.K (eDget2 o1 o2 m)) := (pe_dget2 hu ho he hc mm).mono fun σ H Q q => by
  obtain ⟨F, env, r, d, t, env', e, k⟩ := q
  unfold eDget2 at e
  simp only [Option.bind_eq_some_iff] at e
  obtain ⟨⟨r1, em⟩, h1, x0, h2, h3⟩ := e
  split at h3
  · rename_i hd
    simp only [Option.bind_eq_some_iff, Option.map_eq_some_iff] at h3
    obtain ⟨⟨r2, e3⟩, h4, ⟨dz, tz, e4⟩, hz, x, h5, y, h6, o, h7, h8⟩ := h3
    cases h8
    have := eSh_tag hz
    subst this
    refine ⟨F, env, r, r1, em, h1, fun F1 H1 v p => ?_⟩
    obtain ⟨ad, rfl, id'⟩ := isD_of p.rl.sub (p.late F1 H1 em x0 p.rl .refl .refl h2).b hd
    refine ⟨ad, rfl, id', F1, em, p.rl, r2, e3, h4, fun F2 H2 w p2 => sh_core ⟨F2, e3, p2.rl, dz, .sh, _, hz, fun F3 H3 zv p3 => ?_⟩⟩
    obtain ⟨ad', ov, ea, g, q⟩ := dGet_ok p3.rl.sub (p.late F3 H3 _ x p3.rl (p2.ex.then p2.le p3.ex) (p2.le.trans p3.le) h5).b (p2.late F3 H3 _ y p3.rl p3.ex p3.le h6).b h7
    cases ea
    refine ⟨ov, g, k F3 H3 _ (((((vp_sc p3.rl.sub ?_).epost p3.rl).after p3.ex p3.le).after p2.ex p2.le).after p.ex p.le)⟩
    cases o with
    | none => rw [show ov = none from q]; exact p3.rep
    | some d => obtain ⟨w', e1, e2⟩ := q; rw [e1]; exact e2
  · cases h3
theorem z_stD (hu : X.A.units + 1 < cLine) (ho : PE X a (tVar i)) (hk : PE X b (TEof X.K mk)) (hv : PE X c (TEof X.K mv)) (hs : swapsWith c (some (.Subscript a b pos')) pos.line X.env = pure false := by rfl) : PS X (.Assign [.Subscript a b pos'] c pos) (TSof X.K (sStD i mk mv)) := (ps_dput hu ho hk hv hs).mono fun D' σ H h => by
  obtain ⟨F, env, r, out, e, w⟩ := h
  unfold sStD at e
  simp only [Option.bind_eq_some_iff] at e
  obtain ⟨⟨d, t, e1⟩, h1, px, hpx, ⟨dk, tk, e2⟩, h2, h3⟩ := e
  split at h3
  · rename_i ht
    have ht : tk = .sh := ht
    subst ht
    simp only [Option.bind_eq_some_iff, Option.map_eq_some_iff] at h3
    obtain ⟨⟨x, t2⟩, h4, z, h5, h6⟩ := h3
    subst h6
    have := eSh_tag h1
    subst this
    refine sh_core ⟨F, env, r, d, .sh, e1, h1, fun F1 H1 v p => ?_⟩
    obtain ⟨xv, hx⟩ := p.rl.val (sl_iff.mp hpx)
    refine ⟨xv, hx, F1, e1, p.rl, dk, .sh, e2, h2, fun F2 H2 v2 p2 => ?_⟩
    obtain ⟨h7, h8⟩ := own_inv h4
    obtain ⟨ad, q, oo⟩ := p2.rl.ow i x t2 h8 h7
    rw [hx] at q
    cases q
    obtain ⟨o', dp, ow'⟩ := dPut_ok p2.rl.sub oo p2.rep (Rep.mono p2.ex.subF p.rep) h5
    refine ⟨ad, _, rfl, dp, ?_⟩
    have wp := write_post (x := .none) (v := .non) p2.rl h8 h7 hx ow' .non
    exact w F2 _ σ ((SPost.of_expr p.rl p.ex p.le).trans ((SPost.of_expr p2.rl p2.ex p2.le).trans (SPost.of_expr wp.rl wp.ex wp.le)))
  · cases h3
theorem vp_new {K : PySem.W.Frag} {F H : Hp} {p : Addr} {o : HO} {d : D} (s : Same F H) (h : H p = none) (w : OwO K F o d) : VPost K F H F (upd H p o) (.ref p) d .ow where
  sub := fun a u q => by rw [upd_ne (ne_of_none (s a u q) h)]; exact s a u q
  subF := .refl _
  keep := fun a u q => ⟨by rw [upd_ne (ne_of_none q h)]; exact q, fun z _ => z⟩
  rep := ⟨rfl, p, rfl, h, s.free h, _, upd_same, w⟩
theorem d_dk : PE X (.Dict [] [] pos) (TEof X.K eDk) := pe_dnewK.mono fun σ H Q q => by
  obtain ⟨F, env, r, d, t, env', e, k⟩ := q
  cases e
  exact fun p hp => k F _ _ ((vp_new r.sub hp (.dK .nil)).epost r)
theorem d_dt : PE X (.Dict [] [] pos) (TEof X.K eDt) := pe_dnewT.mono fun σ H Q q => by
  obtain ⟨F, env, r, d, t, env', e, k⟩ := q
  cases e
  exact fun p hp => k F _ _ ((vp_new r.sub hp (.dT .nil)).epost r)
/-- {k: v}, an int and an int -/
def eD01 (i j : Int) : EM := fun e => some (.dict [(.int i, .int j)], .ow, e)
theorem d_d01 {i j : Int} {k1 k2 : Nat} {p1 p2 : Pos} : PE X (.Dict [some (.Constant (.int i) k1 p1)] [.Constant (.int j) k2 p2] pos) (TEof X.K (eD01 i j)) := (pe_disp (pps_cons pe_int pe_int pps_nil) (by rfl) (by rfl) (fun z => by cases z) (Nat.le_of_ble_eq_true rfl)).mono fun σ H Q q => by
  obtain ⟨F, env, r, d, t, env', e, k⟩ := q
  cases e
  refine fun p hp => ⟨upd_same, [(.inl i, .int j)], rfl, Nat.le_of_ble_eq_true rfl, ?_⟩
  have e : upd (upd H p (.dK [])) p (.dK (mergeK [] [(Sum.inl i, V.int j)])) = upd H p (.dK [(Sum.inl i, V.int j)]) := upd_upd
  rw [e]
  exact k F _ _ ((vp_new r.sub hp (.dK (.cons (.int j) .nil))).epost r)
end

theorem PI.or {X : Cx} {tg e : Expr} {w1 w2 : TI} (h1 : PI X tg e w1) (h2 : PI X tg e w2) : PI X tg e (fun σ H R => w1 σ H R ∨ w2 σ H R) := ⟨fun pins s σ H R I h => h.elim (h1.run pins s σ H R I) (h2.run pins s σ H R I)⟩
/-- a list or a tuple -/
def iE (m : EM) : IM := fun e => (m e).bind fun x => match x.1 with
  | .list ds => some (ds, x.2.2)
  | .tuple ds => some (ds, x.2.2)
  | _ => none
/-- what stands at a list that nobody changes -/
theorem stayL {K : PySem.W.Frag} {σ : Sg} {env env' : Ev} {F H F' H' F2 H2 : Hp} {v : V} {ds : List D} {t : Tg} (p : EPost K σ env F H (.list ds) t env' F' H' v) : ∃ a vs, v = .ref a ∧ SqL K H' a vs ∧ Reps K F' vs ds ∧ ∀ F2 H2, Ex σ env' F' H' F2 H2 → Same F2 H2 → SqL K H2 a vs := by
  have q := p.rep
  cases t with
  | sh =>
    cases q with
    | lst h r => exact ⟨_, _, rfl, sqL_mono p.rl.sub h, r, fun F2 H2 ex s => sqL_mono s (sqL_mono ex.subF h)⟩
  | ow =>
    obtain ⟨_, a, rfl, ⟨f, o, ho, w⟩, n, _⟩ := q
    cases w with
    | lst r => exact ⟨a, _, rfl, .of ho, r, fun F2 H2 ex s => .of (ex.keep a _ ho n).1⟩
  | io => cases q.1
theorem stayT {K : PySem.W.Frag} {σ : Sg} {env env' : Ev} {F H F' H' : Hp} {v : V} {ds : List D} {t : Tg} (p : EPost K σ env F H (.tuple ds) t env' F' H' v) : ∃ a vs, v = .ref a ∧ SqT K H' a vs ∧ Reps K F' vs ds ∧ ∀ F2 H2, Ex σ env' F' H' F2 H2 → Same F2 H2 → SqT K H2 a vs := by
  have q := p.rep
  cases t with
  | sh =>
    cases q with
    | tup h r => exact ⟨_, _, rfl, .of (p.rl.sub _ _ h), r, fun F2 H2 ex s => .of (s _ _ (ex.subF _ _ h))⟩
  | ow =>
    obtain ⟨_, a, rfl, ⟨f, o, ho, w⟩, n, _⟩ := q
    cases w
  | io => cases q.1
theorem it_list {K : PySem.W.Frag} {σ : Sg} {env : Ev} {F H : Hp} {a : Addr} {vs : List V} {ds : List D} (r : Reps K F vs ds) (st : ∀ F2 H2, Ex σ env F H F2 H2 → Same F2 H2 → SqL K H2 a vs) : ItOk K σ env F H (Itl K a) ds where
  go := fun F2 H2 ex s i hi => by
    have hv : i < vs.length := by rw [r.len]; exact hi
    exact ⟨vs, vs[i], st F2 H2 ex s, List.getElem?_eq_getElem hv⟩
  yld := fun F2 H2 ex s i d hd x H3 hy => by
    obtain ⟨rfl, q⟩ := hy
    obtain ⟨v, hv, rv⟩ := r.get hd
    have := (q vs (st F2 _ ex s)).symm.trans hv
    cases this
    exact ⟨F2, vp_sc s (rv.mono ex.subF)⟩
  stop := fun F2 H2 ex s => ⟨vs, st F2 H2 ex s, by rw [r.len]; exact Nat.le_refl _⟩
theorem it_tup {K : PySem.W.Frag} {σ : Sg} {env : Ev} {F H : Hp} {a : Addr} {vs : List V} {ds : List D} (r : Reps K F vs ds) (st : ∀ F2 H2, Ex σ env F H F2 H2 → Same F2 H2 → SqT K H2 a vs) : ItOk K σ env F H (Itt K a) ds where
  go := fun F2 H2 ex s i hi => by
    have hv : i < vs.length := by rw [r.len]; exact hi
    exact ⟨vs, vs[i], st F2 H2 ex s, List.getElem?_eq_getElem hv⟩
  yld := fun F2 H2 ex s i d hd x H3 hy => by
    obtain ⟨rfl, q⟩ := hy
    obtain ⟨v, hv, rv⟩ := r.get hd
    have := (q vs (st F2 _ ex s)).symm.trans hv
    cases this
    exact ⟨F2, vp_sc s (rv.mono ex.subF)⟩
  stop := fun F2 H2 ex s => ⟨vs, st F2 H2 ex s, by rw [r.len]; exact Nat.le_refl _⟩
/-- ints from a to b -/
def rngD (lo : Int) (n : Nat) : List D := (List.range n).map fun (k : Nat) => PyData.int (lo + (k : Int))
theorem it_rng {K : PySem.W.Frag} {σ : Sg} {env : Ev} {F H : Hp} (lo : Int) (n : Nat) : ItOk K σ env F H (Itr lo n) (rngD lo n) where
  go := fun F2 H2 ex s i hi => by
    have h : i < n := by simpa [rngD] using hi
    exact h
  yld := fun F2 H2 ex s i d hd x H3 hy => by
    obtain ⟨rfl, rfl⟩ := hy
    unfold rngD at hd
    rw [List.getElem?_map] at hd
    simp only [Option.map_eq_some_iff] at hd
    obtain ⟨k, h1, h2⟩ := hd
    obtain ⟨_, h3⟩ := List.getElem?_eq_some_iff.mp h1
    rw [List.getElem_range] at h3
    subst h3 h2
    exact ⟨F2, vp_sc s (.int _)⟩
  stop := fun F2 H2 ex s => by simp [Itr, rngD]
def big : Int := 1000000000000
def iR1 (l : LM) : IM := fun e => (l e).bind fun x => match x.1 with
  | [.int j] => if -big ≤ j ∧ j ≤ big then some (rngD 0 j.toNat, x.2) else none
  | _ => none
def iR2 (l : LM) : IM := fun e => (l e).bind fun x => match x.1 with
  | [.int i, .int j] => if (-big ≤ i ∧ i ≤ big) ∧ -big ≤ j ∧ j ≤ big then some (rngD i (j - i).toNat, x.2) else none
  | _ => none
/-- numbered items -/
def enumD (ds : List D) : List D := ds.zipIdx.map fun p => .tuple [.int (p.2 : Int), p.1]
def iEn (l : LM) : IM := fun e => (l e).bind fun x => match x.1 with
  | [.list ds] => some (enumD ds, x.2)
  | _ => none
def zipD (xs ys : List D) : List D := List.zipWith (fun x y => PyData.tuple [x, y]) xs ys
def iZ2 (l : LM) : IM := fun e => (l e).bind fun x => match x.1 with
  | [.list xs, .list ys] => some (zipD xs ys, x.2)
  | _ => none
section
variable {X : Cx} {tg e e' : Expr} {es elts : List Expr} {kk : Nat} {tpos pos p : Pos} {m : EM} {l : LM}
theorem w_e (h : PE X e (TEof X.K m)) : PI X tg e (TIof X.K (iE m)) := (PI.or (pi_list h) (pi_tup h)).mono fun σ H R q => by
  obtain ⟨F, env, r, ds, env', e, k⟩ := q
  unfold iE at e
  simp only [Option.bind_eq_some_iff] at e
  obtain ⟨⟨d, t, e1⟩, h1, h2⟩ := e
  split at h2
  · rename_i xs hd
    have hd : d = .list xs := hd
    subst hd
    cases h2
    refine .inl ⟨F, env, r, _, _, _, h1, fun F1 H1 v p => ?_⟩
    obtain ⟨a, vs, rfl, q, rv, st⟩ := stayL (F2 := F) (H2 := H) p
    exact ⟨a, rfl, ⟨vs, q⟩, k F1 H1 _ ⟨p.rl, p.ex, p.le, it_list rv st⟩⟩
  · rename_i xs hd
    have hd : d = .tuple xs := hd
    subst hd
    cases h2
    refine .inr ⟨F, env, r, _, _, _, h1, fun F1 H1 v p => ?_⟩
    obtain ⟨a, vs, rfl, q, rv, st⟩ := stayT p
    exact ⟨a, rfl, ⟨vs, q⟩, k F1 H1 _ ⟨p.rl, p.ex, p.le, it_tup rv st⟩⟩
  · cases h2
theorem w_r1 (hg : Gl X "range") (hm : X.mg "range" = none) (ha : PA X [e] (TLof X.K l)) (hs : starEach [e] X.env = [(false, eval e X.env)] := by rfl) : PI X tg (.Call (.Name "range" p) [e] [] pos) (TIof X.K (iR1 l)) := (pi_range1 hg hm ha hs).mono fun σ H R q => by
  obtain ⟨F, env, r, ds, env', e, k⟩ := q
  unfold iR1 at e
  simp only [Option.bind_eq_some_iff] at e
  obtain ⟨⟨ds1, e1⟩, h1, h2⟩ := e
  split at h2
  · rename_i j hd
    have hd : ds1 = [.int j] := hd
    subst hd
    split at h2
    · rename_i hb
      cases h2
      refine ⟨F, env, r, _, _, h1, fun F1 H1 vs p => ?_⟩
      have := Reps.ints (ns := [j]) p.rep
      subst this
      unfold big at hb
      exact ⟨j, rfl, by omega, by omega, k F1 H1 _ ⟨p.rl, p.ex, p.le, it_rng 0 j.toNat⟩⟩
    · cases h2
  · cases h2
theorem w_r2 (hg : Gl X "range") (hm : X.mg "range" = none) (ha : PA X [e, e'] (TLof X.K l)) (hs : starEach [e, e'] X.env = [(false, eval e X.env), (false, eval e' X.env)] := by rfl) (hs2 : starEach [e'] X.env = [(false, eval e' X.env)] := by rfl) : PI X tg (.Call (.Name "range" p) [e, e'] [] pos) (TIof X.K (iR2 l)) := (pi_range2 hg hm ha hs hs2).mono fun σ H R q => by
  obtain ⟨F, env, r, ds, env', e, k⟩ := q
  unfold iR2 at e
  simp only [Option.bind_eq_some_iff] at e
  obtain ⟨⟨ds1, e1⟩, h1, h2⟩ := e
  split at h2
  · rename_i i j hd
    have hd : ds1 = [.int i, .int j] := hd
    subst hd
    split at h2
    · rename_i hb
      cases h2
      refine ⟨F, env, r, _, _, h1, fun F1 H1 vs p => ?_⟩
      have := Reps.ints (ns := [i, j]) p.rep
      subst this
      unfold big at hb
      exact ⟨i, j, rfl, by omega, k F1 H1 _ ⟨p.rl, p.ex, p.le, it_rng i (j - i).toNat⟩⟩
    · cases h2
  · cases h2
theorem w_en (hg : Gl X "enumerate") (hm : X.mg "enumerate" = none) (ha : PA X [e] (TLof X.K l)) (hs : starEach [e] X.env = [(false, eval e X.env)] := by rfl) : PI X (.Tuple elts kk tpos) (.Call (.Name "enumerate" p) [e] [] pos) (TIof X.K (iEn l)) := (pi_enum hg hm ha hs).mono fun σ H R q => by
  obtain ⟨F, env, r, ds, env', e, k⟩ := q
  unfold iEn at e
  simp only [Option.bind_eq_some_iff] at e
  obtain ⟨⟨ds1, e1⟩, h1, h2⟩ := e
  split at h2
  · rename_i xs hd
    have hd : ds1 = [.list xs] := hd
    subst hd
    cases h2
    refine ⟨F, env, r, _, _, h1, fun F1 H1 us p => ?_⟩
    obtain ⟨v, vs, rfl, rv, rn⟩ : ∃ v vs, us = v :: vs ∧ Rep X.K F1 v (.list xs) ∧ Reps X.K F1 vs [] := by
      cases p.rep with
      | cons a b => exact ⟨_, _, rfl, a, b⟩
    cases rn
    cases rv with
    | @lst a ws _ q rw' =>
      have st : ∀ F2 H2, Ex σ e1 F1 H1 F2 H2 → Same F2 H2 → SqL X.K H2 a ws := fun F2 H2 ex s => sqL_mono s (sqL_mono ex.subF q)
      refine ⟨a, ws, rfl, sqL_mono p.rl.sub q, k F1 H1 _ ⟨p.rl, p.ex, p.le, ⟨fun F2 H2 ex s i hi => ?_, fun F2 H2 ex s i d hd x H3 hy => ?_, fun F2 H2 ex s => ⟨ws, st F2 H2 ex s, by simp [enumD, rw'.len]⟩⟩⟩⟩
      · have hv : i < ws.length := by rw [rw'.len]; simpa [enumD] using hi
        exact ⟨ws, ws[i], st F2 H2 ex s, List.getElem?_eq_getElem hv⟩
      · obtain ⟨T, y, rfl, hT, rfl, hq⟩ := hy
        unfold enumD at hd
        rw [List.getElem?_map] at hd
        simp only [Option.map_eq_some_iff] at hd
        obtain ⟨⟨dx, ix⟩, h3, h4⟩ := hd
        subst h4
        rw [List.getElem?_zipIdx] at h3
        simp only [Option.map_eq_some_iff] at h3
        obtain ⟨dx', h5, h6⟩ := h3
        cases h6
        obtain ⟨z, hz, rz⟩ := rw'.get h5
        have := (hq ws (st F2 H2 ex s)).symm.trans hz
        cases this
        simp only [Nat.zero_add]
        exact ⟨_, vp_tup s hT (.cons (.int _) (.one (rz.mono ex.subF)))⟩
  · cases h2
theorem w_z2 (hg : Gl X "zip") (hm : X.mg "zip" = none) (ha : PA X [e, e'] (TLof X.K l)) (hs : starEach [e, e'] X.env = (false, eval e X.env) :: starEach [e'] X.env := by rfl) (hpl : (backTo pos (starEach [e'] X.env)).any (·.1) = false := by rfl) : PI X (.Tuple elts kk tpos) (.Call (.Name "zip" p) [e, e'] [] pos) (TIof X.K (iZ2 l)) := (pi_zip hg hm ha hs hpl).mono fun σ H R q => by
  obtain ⟨F, env, r, ds, env', e, k⟩ := q
  unfold iZ2 at e
  simp only [Option.bind_eq_some_iff] at e
  obtain ⟨⟨ds1, e1⟩, h1, h2⟩ := e
  split at h2
  · rename_i xs ys hd
    have hd : ds1 = [.list xs, .list ys] := hd
    subst hd
    cases h2
    refine ⟨F, env, r, _, _, h1, fun F1 H1 us p => ?_⟩
    obtain ⟨v, w, rfl, rv, rw'⟩ : ∃ v w, us = [v, w] ∧ Rep X.K F1 v (.list xs) ∧ Rep X.K F1 w (.list ys) := by
      cases p.rep with
      | cons a b =>
        cases b with
        | cons c d =>
          cases d
          exact ⟨_, _, rfl, a, c⟩
    cases rv with
    | @lst a vs _ q r1 =>
      cases rw' with
      | @lst b ws _ q2 r2 =>
        have st1 : ∀ F2 H2, Ex σ e1 F1 H1 F2 H2 → Same F2 H2 → SqL X.K H2 a vs := fun F2 H2 ex s => sqL_mono s (sqL_mono ex.subF q)
        have st2 : ∀ F2 H2, Ex σ e1 F1 H1 F2 H2 → Same F2 H2 → SqL X.K H2 b ws := fun F2 H2 ex s => sqL_mono s (sqL_mono ex.subF q2)
        refine ⟨a, b, vs, ws, rfl, sqL_mono p.rl.sub q, sqL_mono p.rl.sub q2, k F1 H1 _ ⟨p.rl, p.ex, p.le, ⟨fun F2 H2 ex s i hi => ?_, fun F2 H2 ex s i d hd x H3 hy => ?_, fun F2 H2 ex s => ⟨vs, ws, st1 F2 H2 ex s, st2 F2 H2 ex s, ?_⟩⟩⟩⟩
        · simp only [zipD, List.length_zipWith] at hi
          have hv : i < vs.length := by rw [r1.len]; omega
          have hw : i < ws.length := by rw [r2.len]; omega
          exact ⟨vs, ws, vs[i], ws[i], st1 F2 H2 ex s, st2 F2 H2 ex s, List.getElem?_eq_getElem hv, List.getElem?_eq_getElem hw⟩
        · obtain ⟨T, y, z, rfl, hT, rfl, hq, hq2⟩ := hy
          unfold zipD at hd
          rw [List.getElem?_zipWith] at hd
          split at hd
          · rename_i dx dy hx hy
            cases hd
            obtain ⟨u, hu, ru⟩ := r1.get hx
            obtain ⟨u2, hu2, ru2⟩ := r2.get hy
            have := (hq vs (st1 F2 H2 ex s)).symm.trans hu
            cases this
            have := (hq2 ws (st2 F2 H2 ex s)).symm.trans hu2
            cases this
            exact ⟨_, vp_tup s hT (.cons (ru.mono ex.subF) (.one (ru2.mono ex.subF)))⟩
          · cases hd
        · simp only [zipD, List.length_zipWith, r1.len, r2.len]
          omega
  · cases h2
end
end Dd
namespace Dd
open PySem PySem.Spec PyProof.Rows L2

/-- the source of a comprehension, and the slot that it hides meanwhile -/
abbrev CM := Ev → Option (List D × Option Nat × Ev)
structure CPost (K : PySem.W.Frag) (σ : Sg) (env : Ev) (F H : Hp) (ds : List D) (h : Option Nat) (env' : Ev) (F' H' : Hp) (J : It) : Prop where
  rl : Rl K F' H' σ env'
  ex : Ex σ env F H F' H'
  le : Le env env'
  it : ItOk K σ env' F' H' J ds
  hd : ∀ i, h = some i → ∃ d a, env[i]? = some (some (d, Tg.ow)) ∧ env'[i]? = some none ∧ σ[i]? = some (some (V.ref a)) ∧ Ow K F' H' a d ∧ ¬ Oa σ env' a
def TCof (K : PySem.W.Frag) (im : CM) : TI := fun σ H R => ∃ F env, Rl K F H σ env ∧ ∃ ds h env', im env = some (ds, h, env') ∧ ∀ F' H' J, CPost K σ env F H ds h env' F' H' J → R J H'
def cI (im : IM) : CM := fun e => (im e).map fun x => (x.1, none, x.2)
/-- a slot's list -/
def cV (i : Nat) : CM := fun e => match sl e i with
  | some (.list ds, .sh) => some (ds, none, e)
  | some (.list ds, .ow) => some (ds, some i, e.set i none)
  | some (.tuple ds, .sh) => some (ds, none, e)
  | _ => none
section
variable {X : Cx} {tg e : Expr} {im : IM} {i : Nat}
theorem c_i (h : PI X tg e (TIof X.K im)) : PI X tg e (TCof X.K (cI im)) := h.mono fun σ H R q => by
  obtain ⟨F, env, r, ds, h, env', e, k⟩ := q
  simp only [cI, Option.map_eq_some_iff] at e
  obtain ⟨⟨ds1, e1⟩, h1, h2⟩ := e
  cases h2
  exact ⟨F, env, r, _, _, h1, fun F1 H1 J p => k F1 H1 J ⟨p.rl, p.ex, p.le, p.it, fun i z => (nomatch z)⟩⟩
theorem Rl.drop {K : PySem.W.Frag} {F H : Hp} {σ : Sg} {env : Ev} (r : Rl K F H σ env) (i : Nat) : Rl K F H σ (env.set i none) := by
  have back : ∀ {j : Nat} {p : D × Tg}, (env.set i none)[j]? = some (some p) → env[j]? = some (some p) := fun {j p} z => by
    by_cases hj : i = j
    · subst hj
      by_cases hl : i < env.length
      · rw [List.getElem?_set_self hl] at z
        cases z
      · rw [List.getElem?_eq_none (by simpa using hl)] at z
        cases z
    · rw [List.getElem?_set_ne hj] at z
      exact z
  exact ⟨r.sub, by simpa using r.len, fun j d z => r.sh j d (back z), fun j d t n z => r.ow j d t n (back z), fun j k d1 d2 t u b n1 n2 z1 z2 => r.sep j k d1 d2 t u b n1 n2 (back z1) (back z2)⟩
theorem c_v (h : PE X e (tVar i)) : PI X tg e (TCof X.K (cV i)) := (PI.or (pi_list h) (pi_tup h)).mono fun σ H R q => by
  obtain ⟨F, env, r, ds, hh, env', e, k⟩ := q
  unfold cV at e
  split at e
  · rename_i ds0 hs
    cases e
    have hs := sl_iff.mp hs
    obtain ⟨v, hv, rv⟩ := r.sh i _ hs
    cases rv with
    | @lst a vs _ q r1 =>
      exact .inl ⟨_, hv, a, rfl, ⟨vs, sqL_mono r.sub q⟩, k F H _ ⟨r, .refl, .refl, it_list r1 fun F2 H2 ex s => sqL_mono s (sqL_mono ex.subF q), fun i z => (nomatch z)⟩⟩
  · rename_i ds0 hs
    cases e
    have hs := sl_iff.mp hs
    obtain ⟨a, hv, f, o, ho, w⟩ := r.ow i _ .ow (by decide) hs
    cases w with
    | @lst vs _ r1 =>
      have no : ¬ Oa σ (env.set i none) a := by
        rintro ⟨j, d', t, n, z, q⟩
        by_cases hj : i = j
        · subst hj
          rw [List.getElem?_set_self (get_lt hs)] at z
          cases z
        · rw [List.getElem?_set_ne hj] at z
          exact hj (r.sep i j _ d' .ow t a (by decide) n hs z hv q)
      refine .inl ⟨_, hv, a, rfl, ⟨vs, .of ho⟩, k F H _ ⟨r.drop i, .refl, le_freeze hs _ (fun _ _ z => nomatch z), it_list r1 fun F2 H2 ex s => .of (ex.keep a _ ho no).1, fun j z => ?_⟩⟩
      cases z
      exact ⟨_, a, hs, List.getElem?_set_self (get_lt hs), hv, ⟨f, _, ho, .lst r1⟩, no⟩
  · rename_i ds0 hs
    cases e
    have hs := sl_iff.mp hs
    obtain ⟨v, hv, rv⟩ := r.sh i _ hs
    cases rv with
    | @tup a vs _ q r1 =>
      exact .inr ⟨_, hv, a, rfl, ⟨vs, .of (r.sub _ _ q)⟩, k F H _ ⟨r, .refl, .refl, it_tup r1 fun F2 H2 ex s => .of (s _ _ (ex.subF _ _ q)), fun i z => (nomatch z)⟩⟩
  · cases e
end

def wipeE (e : Ev) : List Nat → Ev
  | [] => e
  | v :: vs => (wipeE e vs).set v none
def backE (src : Ev) : List Nat → Ev → Ev
  | [], e => e
  | v :: vs, e => (backE src vs e).set v (src[v]?.join)
theorem wipeE_len (e : Ev) : ∀ vs, (wipeE e vs).length = e.length
  | [] => rfl
  | v :: vs => by simp [wipeE, wipeE_len e vs]
theorem wipeE_get {e : Ev} {j : Nat} : ∀ {vs : List Nat}, j ∉ vs → (wipeE e vs)[j]? = e[j]?
  | [], _ => rfl
  | v :: vs, h => by
    simp only [List.mem_cons, not_or] at h
    rw [wipeE, List.getElem?_set_ne (fun z => h.1 z.symm), wipeE_get h.2]
theorem wipeE_in {e : Ev} {j : Nat} {p : D × Tg} : ∀ {vs : List Nat}, (wipeE e vs)[j]? = some (some p) → j ∉ vs ∧ e[j]? = some (some p)
  | [], h => ⟨by simp, h⟩
  | v :: vs, h => by
    unfold wipeE at h
    by_cases hj : v = j
    · subst hj
      by_cases hl : v < (wipeE e vs).length
      · rw [List.getElem?_set_self hl] at h
        cases h
      · rw [List.getElem?_eq_none (by simpa using hl)] at h
        cases h
    · rw [List.getElem?_set_ne hj] at h
      obtain ⟨h1, h2⟩ := wipeE_in h
      exact ⟨by simp only [List.mem_cons, not_or]; exact ⟨fun z => hj z.symm, h1⟩, h2⟩
theorem backE_len (src : Ev) : ∀ vs e, (backE src vs e).length = e.length
  | [], e => rfl
  | v :: vs, e => by simp [backE, backE_len src vs e]
theorem backE_out {src e : Ev} {j : Nat} : ∀ {vs : List Nat}, j ∉ vs → (backE src vs e)[j]? = e[j]?
  | [], _ => rfl
  | v :: vs, h => by
    simp only [List.mem_cons, not_or] at h
    rw [backE, List.getElem?_set_ne (fun z => h.1 z.symm), backE_out h.2]
theorem backE_in {src e : Ev} (hl : src.length = e.length) {j : Nat} : ∀ {vs : List Nat}, j ∈ vs → ∀ p, (backE src vs e)[j]? = some (some p) ↔ src[j]? = some (some p)
  | v :: vs, h, p => by
    by_cases hj : v = j
    · subst hj
      unfold backE
      by_cases hlt : v < e.length
      · rw [List.getElem?_set_self (by rw [backE_len]; exact hlt)]
        have : v < src.length := by omega
        rw [List.getElem?_eq_getElem this]
        cases src[v] <;> simp
      · rw [List.getElem?_eq_none (by simp [backE_len]; omega), List.getElem?_eq_none (by omega)]
    · unfold backE
      rw [List.getElem?_set_ne hj]
      exact backE_in hl ((List.mem_cons.mp h).resolve_left fun z => hj z.symm) p
theorem wipe_get {σ : Sg} {j : Nat} : ∀ {vs : List Nat}, j ∉ vs → (wipe σ vs)[j]? = σ[j]?
  | [], _ => rfl
  | v :: vs, h => by
    simp only [List.mem_cons, not_or] at h
    show ((wipe σ vs).set v none)[j]? = σ[j]?
    rw [List.getElem?_set_ne (fun z => h.1 z.symm), wipe_get h.2]
theorem wipe_eq {σ σ2 : Sg} (hl : σ2.length = σ.length) : ∀ {vs : List Nat}, (∀ j : Nat, j ∉ vs → σ2[j]? = σ[j]?) → wipe σ2 vs = wipe σ vs := by
  intro vs h
  refine List.ext_getElem? fun j => ?_
  by_cases hj : j ∈ vs
  · have z : ∀ (τ : Sg) (ws : List Nat), j ∈ ws → (wipe τ ws)[j]? = if j < τ.length then some none else none := by
      intro τ ws
      induction ws with
      | nil => intro h; cases h
      | cons w ws ih =>
        intro hm
        show ((wipe τ ws).set w none)[j]? = _
        by_cases e : w = j
        · subst e
          rw [List.getElem?_set_self']
          by_cases hlt : w < τ.length
          · rw [if_pos hlt, List.getElem?_eq_getElem (by rw [wipe_length]; exact hlt)]
            rfl
          · rw [if_neg hlt, List.getElem?_eq_none (by rw [wipe_length]; omega)]
            rfl
        · rw [List.getElem?_set_ne e]
          exact ih ((List.mem_cons.mp hm).resolve_left fun z => e z.symm)
    rw [z σ2 vs hj, z σ vs hj, hl]
  · rw [wipe_get hj, wipe_get hj, h j hj]

def lcl (vs : List Nat) (g : GM) (t : TM) (m : EM) : List D → Ev → Option (List D × Ev)
  | [], e => some ([], e)
  | d :: ds, e => (g d e).bind fun e1 => (t e1).bind fun b => if b.1 = true then (eSh m b.2).bind fun x => (lcl vs g t m ds (wipeE x.2.2 vs)).map fun y => (x.1 :: y.1, y.2)
    else lcl vs g t m ds (wipeE b.2 vs)
def bkH (h : Option Nat) (src e : Ev) : Ev := match h with
  | none => e
  | some i => e.set i (src[i]?.join)
def eLc (vs : List Nat) (im : CM) (g : GM) (t : TM) (m : EM) : EM := fun e => (im e).bind fun x => if (x.2.1.all fun i => decide (i ∉ vs)) = true then (lcl vs g t m x.1 (wipeE x.2.2 vs)).bind fun y =>
  if y.1.length ≤ lim then some (.list y.1, .ow, bkH x.2.1 e (backE x.2.2 vs y.2)) else none else none
theorem tYes_of {K : PySem.W.Frag} : ∀ σ H Q, TTof K (fun e => some (true, e)) σ H Q → tYes σ H Q := fun σ H Q h => by
  obtain ⟨F, env, r, b, env', e, k⟩ := h
  cases e
  exact k F H ⟨r, .refl, .refl⟩
theorem _root_.L2.PTs.mono {X : Cx} {e : List Expr} {t t' : TT} (h : PTs X e t) (q : ∀ σ H Q, t' σ H Q → t σ H Q) : PTs X e t' := ⟨fun pins s σ H Q I hw => h.run pins s σ H Q I (q _ _ _ hw)⟩
def tT : TM := fun e => some (true, e)
theorem t_nil {X : Cx} : PTs X [] (TTof X.K tT) := pts_nil.mono tYes_of
theorem t_one {X : Cx} {c : Expr} {t : TM} (h : PT X c (TTof X.K t)) : PTs X [c] (TTof X.K t) := pts_one h
/-- what holds in the block between two turns -/
structure LcI (K : PySem.W.Frag) (σw : Sg) (vs : List Nat) (e1w : Ev) (F1 H1 : Hp) (D0 : Addr) (F2 H2 : Hp) (env2 : Ev) (accV : List V) (accD : List D) : Prop where
  rl : Rl K F2 H2 σw env2
  ex : Ex σw e1w F1 H1 F2 H2
  le : Le e1w env2
  at_ : H2 D0 = some (.lst accV)
  fr : F2 D0 = none
  rep : Reps K F2 accV accD
theorem Oa.unwipe {σ : Sg} {env : Ev} {vs : List Nat} {a : Addr} (h : Oa (wipe σ vs) (wipeE env vs) a) : Oa σ env a := by
  obtain ⟨j, d, t, n, e, q⟩ := h
  obtain ⟨h1, h2⟩ := wipeE_in e
  rw [wipe_get h1] at q
  exact ⟨j, d, t, n, h2, q⟩
theorem Rl.wiped {K : PySem.W.Frag} {F H : Hp} {σ σw : Sg} {env : Ev} {vs : List Nat} (r : Rl K F H σ env) (hl : σw.length = σ.length) (h : ∀ j : Nat, j ∉ vs → σw[j]? = σ[j]?) : Rl K F H σw (wipeE env vs) := by
  refine ⟨r.sub, by rw [hl, wipeE_len]; exact r.len, fun j d e => ?_, fun j d t n e => ?_, fun j k d1 d2 t u a n1 n2 e1 e2 s1 s2 => ?_⟩
  · obtain ⟨h1, h2⟩ := wipeE_in e
    rw [h j h1]
    exact r.sh j d h2
  · obtain ⟨h1, h2⟩ := wipeE_in e
    rw [h j h1]
    exact r.ow j d t n h2
  · obtain ⟨h1, h2⟩ := wipeE_in e1
    obtain ⟨h3, h4⟩ := wipeE_in e2
    rw [h j h1] at s1
    rw [h k h3] at s2
    exact r.sep j k d1 d2 t u a n1 n2 h2 h4 s1 s2
theorem LcI.noD {K : PySem.W.Frag} {σw : Sg} {vs : List Nat} {e1w : Ev} {F1 H1 F2 H2 : Hp} {D0 : Addr} {env2 : Ev} {accV : List V} {accD : List D} (r1 : Rl K F1 H1 σw e1w) (hn : H1 D0 = none) (I : LcI K σw vs e1w F1 H1 D0 F2 H2 env2 accV accD) : ¬ Oa σw env2 D0 := fun h => by
  obtain ⟨_, o, ho⟩ := r1.oaH (I.le.oa h)
  rw [hn] at ho
  cases ho
theorem LcI.step {K : PySem.W.Frag} {σw : Sg} {vs : List Nat} {e1w : Ev} {F1 H1 F2 H2 : Hp} {D0 : Addr} {env2 : Ev} {accV : List V} {accD : List D} (r1 : Rl K F1 H1 σw e1w) (hn : H1 D0 = none) (I : LcI K σw vs e1w F1 H1 D0 F2 H2 env2 accV accD)
    {σ2 : Sg} {F5 H5 : Hp} {e3 e5 : Ev} (sp : SPost K σw env2 F2 H2 e5 F5 H5 σ2) (hs : ∀ j : Nat, j ∉ vs → σ2[j]? = σw[j]?) (h3 : ∀ j : Nat, j ∉ vs → e3[j]? = env2[j]?) (le : Le e3 e5) (hw : ∀ j ∈ vs, ∀ p, e1w[j]? ≠ some (some p)) {x : Option (V × D)}
    (hx : ∀ v d, x = some (v, d) → Rep K F5 v d) :
    H5 D0 = some (.lst accV) ∧ F5 D0 = none ∧ (match x with
      | some (v, d) => LcI K σw vs e1w F1 H1 D0 F5 (upd H5 D0 (.lst (accV ++ [v]))) (wipeE e5 vs) (accV ++ [v]) (accD ++ [d])
      | none => LcI K σw vs e1w F1 H1 D0 F5 H5 (wipeE e5 vs) accV accD) := by
  have noD := I.noD r1 hn
  obtain ⟨k1, k2⟩ := sp.ex.keep D0 _ I.at_ noD
  have hF5 := k2 I.fr fun _ z => (nomatch z)
  have rl5 : Rl K F5 H5 σw (wipeE e5 vs) := sp.rl.wiped sp.len.symm fun j hj => (hs j hj).symm
  have le5 : Le e1w (wipeE e5 vs) := by
    refine ⟨by rw [wipeE_len, ← sp.rl.len, sp.len]; exact r1.len, fun j d t n e => ?_, fun j d e => ?_⟩
    · obtain ⟨hj, e⟩ := wipeE_in e
      obtain ⟨d1, z1⟩ := le.ow j d t n e
      rw [h3 j hj] at z1
      exact I.le.ow j d1 t n z1
    · have hj : j ∉ vs := fun z => hw j z _ e
      obtain ⟨d1, z1⟩ := I.le.io j d e
      rw [← h3 j hj] at z1
      obtain ⟨d2, z2⟩ := le.io j d1 z1
      exact ⟨d2, by rw [wipeE_get hj]; exact z2⟩
  have ex5 : Ex σw e1w F1 H1 F5 H5 := I.ex.trans sp.ex fun a h => .inl (I.le.oa h)
  refine ⟨k1, hF5, ?_⟩
  cases x with
  | none => exact ⟨rl5, ex5, le5, k1, hF5, I.rep.mono sp.ex.subF⟩
  | some p =>
    obtain ⟨v, d⟩ := p
    have noD5 : ¬ Oa σw (wipeE e5 vs) D0 := fun h => by
      obtain ⟨_, o, ho⟩ := r1.oaH (le5.oa h)
      rw [hn] at ho
      cases ho
    refine ⟨?_, ⟨ex5.subF, fun a o ha na => ?_, fun a ha => ?_⟩, le5, upd_same, hF5, (I.rep.mono sp.ex.subF).append (.one (hx v d rfl))⟩
    · refine rl5.grow (fun a o ha => ?_) (.refl _) fun a ha o ho => ⟨?_, fun z _ => z⟩
      · rw [upd_ne]
        · exact rl5.sub a o ha
        · rintro rfl
          rw [hF5] at ha
          cases ha
      · rw [upd_ne]
        · exact ho
        · rintro rfl
          exact noD5 ha
    · have ne : a ≠ D0 := fun z => by
        subst z
        rw [hn] at ha
        cases ha
      rw [upd_ne ne]
      exact ex5.keep a o ha na
    · by_cases z : a = D0
      · rw [z]; exact hn
      · rw [upd_ne z] at ha
        exact ex5.dom a ha
theorem lc_core' {K : PySem.W.Frag} {vs : List Nat} {im : CM} {g : GM} {t : TM} {m : EM} {σ : Sg} {H : Hp} {Q : VK} (h : TEof K (eLc vs im g t m) σ H Q) : tLc (TCof K im) (TGof K vs g) (TTof K t) (TEof K m) vs σ H Q := by
  obtain ⟨F, env, r, d, tg, env', e, k⟩ := h
  unfold eLc at e
  simp only [Option.bind_eq_some_iff] at e
  obtain ⟨⟨ds, hh, e1⟩, h1, h2⟩ := e
  split at h2
  rotate_left
  · cases h2
  rename_i hall
  simp only [Option.bind_eq_some_iff] at h2
  obtain ⟨⟨out, efin⟩, h3, h4⟩ := h2
  split at h4
  rotate_left
  · cases h4
  rename_i hz
  cases h4
  refine ⟨F, env, r, ds, hh, e1, h1, fun F1 H1 J p D0 hn => ?_⟩
  have r1 : Rl K F1 H1 (wipe σ vs) (wipeE e1 vs) := p.rl.wiped (wipe_length σ vs) fun j hj => wipe_get hj
  have hw : ∀ j ∈ vs, ∀ q, (wipeE e1 vs)[j]? ≠ some (some q) := fun j hj q z => (wipeE_in z).1 hj
  have toJ : ∀ {F2 H2 : Hp}, Ex (wipe σ vs) (wipeE e1 vs) F1 H1 F2 H2 → Ex σ e1 F1 H1 F2 H2 := fun {F2 H2} ex => ⟨ex.subF, fun a o ha na => ex.keep a o ha fun z => na z.unwipe, ex.dom⟩
  refine ⟨fun i mm H2 => i + mm = ds.length ∧ ∃ F2 env2 accV accD rest, LcI K (wipe σ vs) vs (wipeE e1 vs) F1 H1 D0 F2 H2 env2 accV accD ∧ lcl vs g t m (ds.drop i) env2 = some (rest, efin) ∧ accD ++ rest = out,
    ⟨ds.length, by simp, F1, wipeE e1 vs, [], [], out, ⟨?_, ⟨.refl _, fun a o ha _ => ⟨?_, fun z _ => z⟩, fun a ha => ?_⟩, .refl, upd_same, p.rl.sub.free hn, .nil⟩, by simpa using h3, rfl⟩, fun i mm H2 hW => ?_⟩
  · refine r1.grow (fun a o ha => ?_) (.refl _) fun a ha o ho => ⟨?_, fun z _ => z⟩
    · rw [upd_ne (ne_of_none (r1.sub a o ha) hn)]
      exact r1.sub a o ha
    · rw [upd_ne (ne_of_none ho hn)]
      exact ho
  · rw [upd_ne (ne_of_none ha hn)]
    exact ha
  · by_cases z : a = D0
    · rw [z]; exact hn
    · rw [upd_ne z] at ha
      exact ha
  obtain ⟨hm, F2, env2, accV, accD, rest, I, hl, hout⟩ := hW
  by_cases hi : i < ds.length
  · have hd : ds.drop i = ds[i] :: ds.drop (i + 1) := List.drop_eq_getElem_cons hi
    rw [hd] at hl
    simp only [lcl, Option.bind_eq_some_iff] at hl
    obtain ⟨e3, h5, ⟨b, e4⟩, h6, h7⟩ := hl
    refine .inr ⟨p.it.go F2 H2 (toJ I.ex) I.rl.sub i hi, fun H6 => ∃ F2 env2 accV accD rest, LcI K (wipe σ vs) vs (wipeE e1 vs) F1 H1 D0 F2 H6 env2 accV accD ∧ lcl vs g t m (ds.drop (i + 1)) env2 = some (rest, efin) ∧ accD ++ rest = out, fun H6 q => ⟨mm - 1, by omega, by omega, q⟩, fun x H3 hy => ?_⟩
    obtain ⟨F3, vp⟩ := p.it.yld F2 H2 (toJ I.ex) I.rl.sub i ds[i] (List.getElem?_eq_getElem hi) x H3 hy
    have s3 := vp.spost I.rl
    refine ⟨F3, env2, ds[i], s3.rl, vp.rep, e3, h5, fun σ2 q4 hs => ⟨?_, F3, e3, q4.rl, b, e4, h6, fun F4 H4 p4 => ?_⟩⟩
    · exact wipe_eq ((q4.len).trans (wipe_length σ vs)) fun j hj => ((hs j hj).1).trans (wipe_get hj)
    · have s4 := s3.trans (q4.trans (SPost.of_expr p4.rl p4.ex p4.le))
      cases b with
      | true =>
        rw [if_pos rfl] at h7
        refine iteT ?_
        simp only [Option.bind_eq_some_iff, Option.map_eq_some_iff] at h7
        obtain ⟨⟨dx, tx, e5⟩, h8, ⟨rest2, ef⟩, h9, h10⟩ := h7
        cases h10
        have := eSh_tag h8
        subst this
        refine sh_core ⟨F4, e4, p4.rl, dx, .sh, e5, h8, fun F5 H5 v p5 => ?_⟩
        have s5 := s4.trans (SPost.of_expr p5.rl p5.ex p5.le)
        obtain ⟨z1, z2, z3⟩ := I.step r1 hn s5 (fun j hj => (hs j hj).1) (fun j hj => (hs j hj).2) (p4.le.trans p5.le) hw (x := some (v, dx)) (fun v' d' e => by cases e; exact p5.rep)
        refine ⟨accV, z1, ?_, F5, wipeE e5 vs, accV ++ [v], accD ++ [dx], rest2, z3, h9, by rw [List.append_assoc]; exact hout⟩
        rw [I.rep.len]
        have : out.length ≤ lim := hz
        rw [← hout, List.length_append, List.length_cons] at this
        exact lim_lt (by omega)
      | false =>
        rw [if_neg Bool.false_ne_true] at h7
        refine iteF ?_
        obtain ⟨z1, z2, z3⟩ := I.step r1 hn s4 (fun j hj => (hs j hj).1) (fun j hj => (hs j hj).2) p4.le hw (x := none) (fun v' d' e => nomatch e)
        exact ⟨F4, wipeE e4 vs, accV, accD, rest, z3, h7, hout⟩
  · have hi' : i = ds.length := by omega
    subst hi'
    simp only [List.drop_length, lcl] at hl
    cases hl
    rw [List.append_nil] at hout
    subst hout
    refine .inl ⟨p.it.stop F2 H2 (toJ I.ex) I.rl.sub, k F2 H2 (.ref D0) ?_⟩
    -- the slots come back
    have hlen : e1.length = efin.length := by
      have a1 := I.le.len
      rw [wipeE_len] at a1
      exact a1.symm
    have hlen0 : env.length = efin.length := p.le.len.symm.trans hlen
    have exJ := toJ I.ex
    -- what a slot of the end's environment is
    have what : ∀ (j : Nat) (q : D × Tg), (bkH hh env (backE e1 vs efin))[j]? = some (some q) → (hh = some j ∧ env[j]? = some (some q)) ∨ (hh ≠ some j ∧ j ∈ vs ∧ e1[j]? = some (some q)) ∨ (hh ≠ some j ∧ j ∉ vs ∧ efin[j]? = some (some q)) := fun j q hq => by
      have base : ∀ q, (backE e1 vs efin)[j]? = some (some q) → (j ∈ vs ∧ e1[j]? = some (some q)) ∨ (j ∉ vs ∧ efin[j]? = some (some q)) := fun q z => by
        by_cases hj : j ∈ vs
        · exact .inl ⟨hj, (backE_in hlen hj q).mp z⟩
        · rw [backE_out hj] at z
          exact .inr ⟨hj, z⟩
      cases hh with
      | none => exact .inr ((base q hq).imp (fun z => ⟨fun w => (nomatch w), z⟩) fun z => ⟨fun w => (nomatch w), z⟩)
      | some i =>
        unfold bkH at hq
        by_cases hij : i = j
        · subst hij
          by_cases hlt : i < (backE e1 vs efin).length
          · rw [List.getElem?_set_self hlt] at hq
            have hq : (env[i]?).join = some q := Option.some.inj hq
            exact .inl ⟨rfl, sl_iff.mp hq⟩
          · rw [List.getElem?_eq_none (by simpa using hlt)] at hq
            cases hq
        · rw [List.getElem?_set_ne hij] at hq
          exact .inr ((base q hq).imp (fun z => ⟨fun w => hij (Option.some.inj w), z⟩) fun z => ⟨fun w => hij (Option.some.inj w), z⟩)
    -- an owned slot's object, whichever it is
    have obj : ∀ (j : Nat) (d : D) (t' : Tg), t' ≠ Tg.sh → (bkH hh env (backE e1 vs efin))[j]? = some (some (d, t')) → ∃ a, σ[j]? = some (some (V.ref a)) ∧ Ow K F2 H2 a d ∧ a ≠ D0 := fun j d t' n hq => by
      rcases what j _ hq with ⟨hj, z⟩ | ⟨_, hj, z⟩ | ⟨_, hj, z⟩
      · obtain ⟨d', a, z1, z2, z3, ⟨f, o, ho, w⟩, z5⟩ := p.hd j hj
        rw [z] at z1
        cases z1
        obtain ⟨y1, y2⟩ := exJ.keep a o ho z5
        exact ⟨a, z3, ⟨y2 f w.nt, o, y1, w.mono I.ex.subF⟩, fun e => by rw [e, hn] at ho; cases ho⟩
      · obtain ⟨a, z3, f, o, ho, w⟩ := p.rl.ow j d t' n z
        have no : ¬ Oa (wipe σ vs) (wipeE e1 vs) a := by
          rintro ⟨i, d2, t2, n2, q1, q2⟩
          obtain ⟨h8, h9⟩ := wipeE_in q1
          rw [wipe_get h8] at q2
          have := p.rl.sep i j d2 d t2 t' a n2 n h9 z q2 z3
          subst this
          exact h8 hj
        obtain ⟨y1, y2⟩ := I.ex.keep a o ho no
        exact ⟨a, z3, ⟨y2 f w.nt, o, y1, w.mono I.ex.subF⟩, fun e => by rw [e, hn] at ho; cases ho⟩
      · obtain ⟨a, z3, oo⟩ := I.rl.ow j d t' n z
        rw [wipe_get hj] at z3
        refine ⟨a, z3, oo, fun e => ?_⟩
        subst e
        refine I.noD r1 hn ⟨j, d, t', n, z, ?_⟩
        rw [wipe_get hj]
        exact z3
    -- where an owned slot was owned before
    have was : ∀ (j : Nat) (d : D) (t' : Tg), t' ≠ Tg.sh → (bkH hh env (backE e1 vs efin))[j]? = some (some (d, t')) → ∃ d', env[j]? = some (some (d', t')) := fun j d t' n hq => by
      rcases what j _ hq with ⟨hj, z⟩ | ⟨_, hj, z⟩ | ⟨_, hj, z⟩
      · exact ⟨d, z⟩
      · exact p.le.ow j d t' n z
      · obtain ⟨d1, z1⟩ := I.le.ow j d t' n z
        exact p.le.ow j d1 t' n (wipeE_in z1).2
    refine ⟨⟨I.rl.sub, ?_, fun j d hq => ?_, fun j d t' n hq => ?_, fun i j d1 d2 t1 t2 a n1 n2 q1 q2 s1 s2 => ?_⟩, p.ex.trans exJ fun a ha => .inl (p.le.oa ha), ⟨?_, was, fun j d hq => ?_⟩, rfl, D0, rfl, ⟨I.fr, _, I.at_, .lst I.rep⟩, ?_, .inl (p.ex.dom D0 hn)⟩
    · have l0 := r.len
      cases hh <;> simp [bkH, backE_len] <;> omega
    · rcases what j _ hq with ⟨hj, z⟩ | ⟨_, hj, z⟩ | ⟨_, hj, z⟩
      · obtain ⟨d', a, z1, _⟩ := p.hd j hj
        rw [z] at z1
        cases z1
      · obtain ⟨v, z1, z2⟩ := p.rl.sh j d z
        exact ⟨v, z1, z2.mono I.ex.subF⟩
      · obtain ⟨v, z1, z2⟩ := I.rl.sh j d z
        rw [wipe_get hj] at z1
        exact ⟨v, z1, z2⟩
    · obtain ⟨a, z1, z2, _⟩ := obj j d t' n hq
      exact ⟨a, z1, z2⟩
    · obtain ⟨d1', w1⟩ := was i d1 t1 n1 q1
      obtain ⟨d2', w2⟩ := was j d2 t2 n2 q2
      exact r.sep i j d1' d2' t1 t2 a n1 n2 w1 w2 s1 s2
    · cases hh <;> simp [bkH, backE_len] <;> omega
    · -- io slots stay
      have hj2 : hh ≠ some j := fun z => by
        obtain ⟨d', a, z1, _⟩ := p.hd j z
        rw [hq] at z1
        cases z1
      obtain ⟨d1, z1⟩ := p.le.io j d hq
      have same : (bkH hh env (backE e1 vs efin))[j]? = (backE e1 vs efin)[j]? := by
        cases hh with
        | none => rfl
        | some i => exact List.getElem?_set_ne fun z => hj2 (by rw [z])
      rw [same]
      by_cases hj : j ∈ vs
      · exact ⟨d1, (backE_in hlen hj _).mpr z1⟩
      · rw [backE_out hj]
        obtain ⟨d2, z2⟩ := I.le.io j d1 (by rw [wipeE_get hj]; exact z1)
        exact ⟨d2, z2⟩
    · rintro ⟨j, d, t', n, q1, q2⟩
      obtain ⟨a, z1, _, z3⟩ := obj j d t' n q1
      rw [q2] at z1
      cases z1
      exact z3 rfl
section
variable {X : Cx} {elt tg iter : Expr} {ifs : List Expr} {scope : Scope} {own : List (Str × Nat)} {pos spos : Pos} {vs : List Nat} {im : CM} {g : GM} {t : TM} {m : EM}
theorem d_lc (hc : X.calm = true) (hN : X.N.Nodup) (hi : PI X tg iter (TCof X.K im)) (ok : BlkOk X.N X.env.scope scope own) (hv : own.map (·.2) = vs)
    (hg : ∀ (s : Shared) (H : Hp) (C : Addr) (cl : List (Str × Addr)) (fp : List Addr), PG (X.blk s H scope (compEnvC scope cl C X.env) fp) tg (TGof X.K vs g)) (ht : ∀ (s : Shared) (H : Hp) (C : Addr) (cl : List (Str × Addr)) (fp : List Addr), PTs (X.blk s H scope (compEnvC scope cl C X.env) fp) ifs (TTof X.K t))
    (he : ∀ (s : Shared) (H : Hp) (C : Addr) (cl : List (Str × Addr)) (fp : List Addr), PE (X.blk s H scope (compEnvC scope cl C X.env) fp) elt (TEof X.K m)) (hs : ∀ x, foldedSetIterable iter X.env x = pure x := by intro _; rfl) :
    PE X (.ListComp elt [⟨tg, iter, ifs, 0⟩] scope pos) (TEof X.K (eLc vs im g t m)) := by
  subst hv
  exact (pe_lc hc hN hi ok hg ht he hs).mono fun _ _ _ q => lc_core' q
theorem set_core {K : PySem.W.Frag} {i : Nat} {m : EM} {D' : Ends} {σ : Sg} {H : Hp} (h : TSof K (sSet i m) D' σ H) : tAsg (TEof K m) (L2.gName i) D' σ H := by
  obtain ⟨F, env, r, out, e, w⟩ := h
  unfold sSet at e
  simp only [Option.map_eq_some_iff, Option.bind_eq_some_iff] at e
  obtain ⟨⟨d, t, e1⟩, h1, e2, h2, h3⟩ := e
  subst h3
  obtain ⟨h4, h5, h6⟩ := put_inv h2
  subst h4
  exact ⟨F, env, r, d, t, e1, h1, fun F1 H1 v p => w F1 H1 _ (.put h5 h6 p)⟩
theorem z_setLc {i : Nat} {y : Str} {py : Pos} (hc : X.calm = true) (hN : X.N.Nodup) (hy : X.N[i]? = some y) (hyl : X.env.scope.names.lookup y = some .local)
    (hsw : swapsWith (.ListComp elt [⟨tg, iter, ifs, 0⟩] scope pos) (some (.Name y py)) spos.line X.env = pure true) (hi : PI X tg iter (TCof X.K im)) (ok : BlkOk X.N X.env.scope scope own) (hv : own.map (·.2) = vs)
    (hg : ∀ (s : Shared) (H : Hp) (C : Addr) (cl : List (Str × Addr)) (fp : List Addr), PG (X.blk s H scope (compEnvC scope cl C X.env) fp) tg (TGof X.K vs g)) (ht : ∀ (s : Shared) (H : Hp) (C : Addr) (cl : List (Str × Addr)) (fp : List Addr), PTs (X.blk s H scope (compEnvC scope cl C X.env) fp) ifs (TTof X.K t))
    (he : ∀ (s : Shared) (H : Hp) (C : Addr) (cl : List (Str × Addr)) (fp : List Addr), PE (X.blk s H scope (compEnvC scope cl C X.env) fp) elt (TEof X.K m)) (hs : ∀ x, foldedSetIterable iter X.env x = pure x := by intro _; rfl) :
    PS X (.Assign [.Name y py] (.ListComp elt [⟨tg, iter, ifs, 0⟩] scope pos) spos) (TSof X.K (sSet i (eLc vs im g t m))) := by
  subst hv
  exact (ps_setLc hc hN hy hyl hsw hi ok hg ht he hs).mono fun D' σ H q => by
    obtain q2 := set_core q
    exact lc_core' q2
end
end Dd
namespace Dd
open PySem PySem.Spec PyProof.Rows L2

def tyN : D → Option String
  | .none => some "NoneType"
  | .bool _ => some "bool"
  | .int _ => some "int"
  | .str _ => some "str"
  | .list _ => some "list"
  | .tuple _ => some "tuple"
  | .dict _ => none
theorem TOof.mono' {K : PySem.W.Frag} {o : OM} {σ : Sg} {H : Hp} {Q Q' : VK} (h : TOof K o σ H Q) (q : ∀ v H', Q v H' → Q' v H') : TOof K o σ H Q' := by
  obtain ⟨F, env, r, rd0, env', e, k⟩ := h
  exact ⟨F, env, r, rd0, env', e, fun F' H' v p => q _ _ (k F' H' v p)⟩
theorem tyx_rd {K : PySem.W.Frag} {H : Hp} {a : Addr} {vs : List V} (h : SqL K H a vs) : TyX K H (.ref a) (.type "list") := by
  rcases h with h | ⟨o, _, _, e, c, _⟩
  rotate_left
  · exact .kList e c
  rcases h with h | ⟨o, h⟩
  · exact .base (.lst h)
  · exact .base (.frz h)
theorem tyx_of {K : PySem.W.Frag} {F H : Hp} (s : Same F H) {v : V} {d : D} {n : String} (h : RepB K F H v d) (e : tyN d = some n) : TyX K H v (.type n) := by
  cases d with
  | none => cases e; rw [h.none]; exact .base .non
  | bool b => cases e; rw [h.bool]; exact .base (.bl b)
  | int b => cases e; rw [h.int]; exact .base (.int b)
  | str b => cases e; rw [h.str]; exact .base (.str b)
  | list ds =>
    cases e
    obtain ⟨a, vs, rfl, q, _⟩ := h.list s
    exact tyx_rd q
  | tuple ds =>
    cases e
    obtain ⟨a, vs, rfl, q, _⟩ := h.tup s
    exact .base (.tup q)
  | dict ds => cases e
def dIsi (n : String) (x : D) : Option Res := (tyN x).bind fun m => (kitB m n).map fun b => (.bool b, .sh)
section
variable {X : Cx} {a : Expr} {o : OM} {p p2 pos : Pos} {x : Str} {n : String}
theorem d_isi (hg : Gl X "isinstance") (hm : X.mg "isinstance" = none) (hg2 : Gl X x) (hm2 : X.mg x = none) (hv2 : bootBuiltins x = some (.type n)) (ha : PE X a (TOof X.K o)) (hn2 : x ≠ "__name__" := by decide) (hd2 : (x == ("__debug__" : Str)) = false := by decide)
    (he : starEach [a, .Name x p2] X.env = (false, eval a X.env) :: starEach [.Name x p2] X.env := by rfl) (he2 : starEach [.Name x p2] X.env = (false, eval (.Name x p2) X.env) :: starEach [] X.env := by rfl)
    (hpl : (backTo pos (starEach [.Name x p2] X.env)).any (·.1) = false := by rfl) :
    PE X (.Call (.Name "isinstance" p) [a, .Name x p2] [] pos) (TEof X.K (e1 (dIsi n) o)) :=
  (pe_callB call_isi hg hm (by first | rfl | decide +kernel) (pa_cons ha (pa_cons (pe_bltn (v := .ty n) hg2 hm2 hv2 (show Value.type n = Value.type n from rfl) hn2 hd2) pa_nil he2) he) (by decide) (by decide) he hpl).mono fun σ H Q q => by
    have z := core1 q
    refine TOof.mono' z fun v H1 h => ?_
    obtain ⟨F, dx, d, t, sm, rb, e, k⟩ := h
    unfold dIsi at e
    simp only [Option.bind_eq_some_iff, Option.map_eq_some_iff] at e
    obtain ⟨m, h1, b, h2, h3⟩ := e
    cases h3
    exact ⟨v, .ty n, .type m, .type n, b, rfl, .ty n, tyx_of sm rb h1, kit_ty h2, k F H1 _ (vp_sc sm (.bl _))⟩
end
end Dd
namespace Dd
open PySem PySem.Spec PyProof.Rows L2

theorem int_alike (ns : List Int) : PySem.W.AlikeAll (ns.map PyData.int) := by
  refine ⟨fun x hx y hy => ?_, fun x hx => ?_⟩
  · obtain ⟨n, _, rfl⟩ := List.mem_map.mp hx
    obtain ⟨m, _, rfl⟩ := List.mem_map.mp hy
    rfl
  · obtain ⟨n, _, rfl⟩ := List.mem_map.mp hx
    exact fun z => nomatch z
theorem int_depth (ns : List Int) : PyData.depthAll (ns.map PyData.int) = 0 := PySem.W.depth_ints ns
theorem int_plain (ns : List Int) : PyData.plainAll (ns.map PyData.int) = true := by
  induction ns with
  | nil => rfl
  | cons n ns ih => rw [List.map_cons, PyData.plainAll, ih]; rfl
/-- a list's or a tuple's ints -/
def seqI : D → Option (List Int)
  | .list xs => intsD xs
  | .tuple xs => intsD xs
  | _ => none
def fMaxL : List D → Option Res
  | [x] => (seqI x).bind fun ns => match ns with
    | n :: r => some (.int (r.foldl max n), .sh)
    | [] => none
  | _ => none
def fMinL : List D → Option Res
  | [x] => (seqI x).bind fun ns => match ns with
    | n :: r => some (.int (r.foldl min n), .sh)
    | [] => none
  | _ => none
section
variable {X : Cx}
theorem seq_reads {pins : List (Addr × Obj)} {σ : Sg} {F H : Hp} {s : Shared} {v : V} {u : Value} {x : D} {ns : List Int} (I : Inv X pins σ H s) (sm : Same F H) (h : RepB X.K F H v x) (r : RelV v u) (e : seqI x = some ns) :
    ∃ l vs as, u = .ref l ∧ (s.heap.IsList l vs ∨ s.heap.IsTuple l vs) ∧ ReadsAll s.heap vs.toList (ns.map PyData.int) as := by
  cases x with
  | list xs =>
    have hx : xs = ns.map PyData.int := intsD_eq e
    obtain ⟨as, rr⟩ := reads_of I sm h (show (PyData.list xs).plain = true by rw [hx]; exact int_plain ns) r
    rw [hx] at rr
    cases rr with
    | list h1 h2 h3 h4 => exact ⟨_, _, _, rfl, .inl ⟨_, h1, h2, _, h3⟩, h4⟩
  | tuple xs =>
    have hx : xs = ns.map PyData.int := intsD_eq e
    obtain ⟨as, rr⟩ := reads_of I sm h (show (PyData.tuple xs).plain = true by rw [hx]; exact int_plain ns) r
    rw [hx] at rr
    cases rr with
    | tuple h1 h2 h3 h4 => exact ⟨_, _, _, rfl, .inr ⟨_, h1, h2, _, h3⟩, h4⟩
  | _ => cases e
theorem kept_inv {pins : List (Addr × Obj)} {σ : Sg} {H : Hp} {s : Shared} {h' : Heap} {tk : Nat} (I : Inv X pins σ H s) (k : ∀ b o, s.heap.get? b = some o → h'.get? b = some o) : Inv X pins σ H { s with heap := h', toks := tk } := I.kept k
theorem reads_int {h : Heap} {v : Value} {n : Int} {as : List Addr} (r : Reads h v (.int n) as) : ∃ t, v = .int n t := by
  cases r
  exact ⟨_, rfl⟩
theorem cv_maxL (hc : X.calm = true) (hu : X.A.units + 64 < cLine) : CallR X (.builtin "max") (rDn X.K fMaxL) := by
  rintro pins s σ H xs us Q I rv ⟨F, ds, d, t, sm, rb, e, k⟩
  unfold fMaxL at e
  split at e
  · simp only [Option.bind_eq_some_iff] at e
    obtain ⟨ns, h1, h2⟩ := e
    split at h2
    · rename_i n r
      cases h2
      obtain ⟨v, rfl, rb1⟩ := rb.one
      obtain ⟨u, rfl, ru⟩ := rv.one
      obtain ⟨l, vs, as, rfl, hl, hr⟩ := seq_reads I sm rb1 ru h1
      have al := int_alike (n :: r)
      have dp : X.A.units + 1 + PyData.depthAll (PyData.int n :: r.map PyData.int) < cLine := by
        rw [show PyData.int n :: r.map PyData.int = (n :: r).map PyData.int from rfl, int_depth]; omega
      have fin : ∀ (i : Nat) v h' tk bs, vs[i]? = some v → Reads h' v (PySem.W.maxD (.int n) (r.map PyData.int)) bs → (∀ b o, s.heap.get? b = some o → h'.get? b = some o) → EP X pins σ Q v { s with heap := h', toks := tk } := fun i v h' tk bs _ rr kk => by
        rw [PySem.W.maxD_ints] at rr
        obtain ⟨t, rfl⟩ := reads_int rr
        exact ⟨.int _, H, kept_inv I kk, ⟨t, rfl⟩, k F H _ (vp_sc sm (.int _))⟩
      rcases hl with hl | hl
      · exact PySem.W.max_list_data (I.ok.hd hc) hl hr al dp fin
      · exact PySem.W.max_tuple_data (I.ok.hd hc) hl hr al dp fin
    · cases h2
  · cases e
theorem cv_minL (hc : X.calm = true) (hu : X.A.units + 64 < cLine) : CallR X (.builtin "min") (rDn X.K fMinL) := by
  rintro pins s σ H xs us Q I rv ⟨F, ds, d, t, sm, rb, e, k⟩
  unfold fMinL at e
  split at e
  · simp only [Option.bind_eq_some_iff] at e
    obtain ⟨ns, h1, h2⟩ := e
    split at h2
    · rename_i n r
      cases h2
      obtain ⟨v, rfl, rb1⟩ := rb.one
      obtain ⟨u, rfl, ru⟩ := rv.one
      obtain ⟨l, vs, as, rfl, hl, hr⟩ := seq_reads I sm rb1 ru h1
      have al := int_alike (n :: r)
      have dp : X.A.units + 1 + PyData.depthAll (PyData.int n :: r.map PyData.int) < cLine := by
        rw [show PyData.int n :: r.map PyData.int = (n :: r).map PyData.int from rfl, int_depth]; omega
      have fin : ∀ (i : Nat) v h' tk bs, vs[i]? = some v → Reads h' v (PySem.W.minD (.int n) (r.map PyData.int)) bs → (∀ b o, s.heap.get? b = some o → h'.get? b = some o) → EP X pins σ Q v { s with heap := h', toks := tk } := fun i v h' tk bs _ rr kk => by
        rw [PySem.W.minD_ints] at rr
        obtain ⟨t, rfl⟩ := reads_int rr
        exact ⟨.int _, H, kept_inv I kk, ⟨t, rfl⟩, k F H _ (vp_sc sm (.int _))⟩
      rcases hl with hl | hl
      · exact PySem.W.min_list_data (I.ok.hd hc) hl hr al dp fin
      · exact PySem.W.min_tuple_data (I.ok.hd hc) hl hr al dp fin
    · cases h2
  · cases e
def fMaxD (c : D) (x : D) : Option Res := (seqI x).map fun ns => match ns with
    | n :: r => (.int (r.foldl max n), .sh)
    | [] => (c, .sh)
def fMinD (c : D) (x : D) : Option Res := (seqI x).map fun ns => match ns with
    | n :: r => (.int (r.foldl min n), .sh)
    | [] => (c, .sh)
def rMD (K : PySem.W.Frag) (op : D → Option Res) (cv : V) : List V → List V → Hp → VK → Prop := fun xs zs H Q => ∃ v, xs = [v] ∧ zs = [cv] ∧ rD1 K op v H Q
theorem ck_maxD {c : D} {cv : V} (hcv : ∀ F, Rep X.K F cv c) (hc : X.calm = true) (hu : X.A.units + 64 < cLine) : CallRK X (.builtin "max") [Str.ofString "default"] (rMD X.K (fMaxD c) cv) := by
  rintro pins s σ H xs us zs ws Q I rv rz ⟨v, rfl, rfl, F, dx, d, t, sm, rb1, e, k⟩
  obtain ⟨u, rfl, ru⟩ := rv.one
  obtain ⟨w, rfl, rw'⟩ := rz.one
  unfold fMaxD at e
  simp only [Option.map_eq_some_iff] at e
  obtain ⟨ns, h1, h2⟩ := e
  obtain ⟨l, vs, as, rfl, hl, hr⟩ := seq_reads I sm rb1 ru h1
  have al := int_alike ns
  have dp : X.A.units + 1 + PyData.depthAll (ns.map PyData.int) < cLine := by rw [int_depth]; omega
  have fin0 : ns.map PyData.int = [] → ∀ h' tk, (∀ b o, s.heap.get? b = some o → h'.get? b = some o) → EP X pins σ Q w { s with heap := h', toks := tk } := fun h0 h' tk kk => by
    have hn : ns = [] := List.map_eq_nil_iff.mp h0
    subst hn
    cases h2
    exact ⟨cv, H, kept_inv I kk, rw', k F H _ (vp_sc sm (hcv F))⟩
  have fin : ∀ (y : PyData) (ys : List PyData) (i : Nat) v h' tk bs, ns.map PyData.int = y :: ys → vs[i]? = some v → Reads h' v (PySem.W.maxD y ys) bs → (∀ b o, s.heap.get? b = some o → h'.get? b = some o) → EP X pins σ Q v { s with heap := h', toks := tk } := fun y ys i v h' tk bs hy _ rr kk => by
    cases ns with
    | nil => cases hy
    | cons n r =>
      cases hy
      cases h2
      rw [PySem.W.maxD_ints] at rr
      obtain ⟨t, rfl⟩ := reads_int rr
      exact ⟨.int _, H, kept_inv I kk, ⟨t, rfl⟩, k F H _ (vp_sc sm (.int _))⟩
  rcases hl with hl | hl
  · exact PySem.W.max_list_default (I.ok.hd hc) hl hr al dp fin0 fin
  · exact PySem.W.max_tuple_default (I.ok.hd hc) hl hr al dp fin0 fin
theorem ck_minD {c : D} {cv : V} (hcv : ∀ F, Rep X.K F cv c) (hc : X.calm = true) (hu : X.A.units + 64 < cLine) : CallRK X (.builtin "min") [Str.ofString "default"] (rMD X.K (fMinD c) cv) := by
  rintro pins s σ H xs us zs ws Q I rv rz ⟨v, rfl, rfl, F, dx, d, t, sm, rb1, e, k⟩
  obtain ⟨u, rfl, ru⟩ := rv.one
  obtain ⟨w, rfl, rw'⟩ := rz.one
  unfold fMinD at e
  simp only [Option.map_eq_some_iff] at e
  obtain ⟨ns, h1, h2⟩ := e
  obtain ⟨l, vs, as, rfl, hl, hr⟩ := seq_reads I sm rb1 ru h1
  have al := int_alike ns
  have dp : X.A.units + 1 + PyData.depthAll (ns.map PyData.int) < cLine := by rw [int_depth]; omega
  have fin0 : ns.map PyData.int = [] → ∀ h' tk, (∀ b o, s.heap.get? b = some o → h'.get? b = some o) → EP X pins σ Q w { s with heap := h', toks := tk } := fun h0 h' tk kk => by
    have hn : ns = [] := List.map_eq_nil_iff.mp h0
    subst hn
    cases h2
    exact ⟨cv, H, kept_inv I kk, rw', k F H _ (vp_sc sm (hcv F))⟩
  have fin : ∀ (y : PyData) (ys : List PyData) (i : Nat) v h' tk bs, ns.map PyData.int = y :: ys → vs[i]? = some v → Reads h' v (PySem.W.minD y ys) bs → (∀ b o, s.heap.get? b = some o → h'.get? b = some o) → EP X pins σ Q v { s with heap := h', toks := tk } := fun y ys i v h' tk bs hy _ rr kk => by
    cases ns with
    | nil => cases hy
    | cons n r =>
      cases hy
      cases h2
      rw [PySem.W.minD_ints] at rr
      obtain ⟨t, rfl⟩ := reads_int rr
      exact ⟨.int _, H, kept_inv I kk, ⟨t, rfl⟩, k F H _ (vp_sc sm (.int _))⟩
  rcases hl with hl | hl
  · exact PySem.W.min_list_default (I.ok.hd hc) hl hr al dp fin0 fin
  · exact PySem.W.min_tuple_default (I.ok.hd hc) hl hr al dp fin0 fin
variable {a c : Expr} {o : OM} {p pos kpos : Pos} {x : Str} {id : String} {op : D → Option Res} {cv : V}
theorem d_mD (hk : CallRK X (.builtin id) [Str.ofString "default"] (rMD X.K op cv)) (hg : Gl X x) (hm : X.mg x = none) (hv : bootBuiltins x = some (.builtin id)) (ha : PE X a (TOof X.K o)) (hcc : PE X c (tC cv)) (hn : x ≠ "__name__" := by decide) (hdb : (x == ("__debug__" : Str)) = false := by decide)
    (he : starEach [a] X.env = (false, eval a X.env) :: starEach [] X.env := by rfl) :
    PE X (.Call (.Name x p) [a] [⟨some "default", c, kpos⟩] pos) (TEof X.K (e1 op o)) :=
  (pe_callBK hk hg hm hv (pa_cons ha pa_nil he) (pk_cons hcc pk_nil) hn hdb (by rw [he] <;> rfl) (by rw [he] <;> rfl) (by rfl) (by rfl) (by rfl)).mono fun σ H Q q => by
    refine TOof.mono' (core1 q) fun v H1 h => ?_
    exact ⟨v, rfl, rfl, h⟩
end
end Dd
namespace Dd
open PySem PySem.Spec PyProof.Rows L2

section ins
variable {α : Type} (le : α → α → Bool)
def insD (x : α) : List α → List α
  | [] => [x]
  | y :: ys => if le x y = true then x :: y :: ys else y :: insD x ys
def isort : List α → List α
  | [] => []
  | x :: xs => insD le x (isort xs)
variable {le}
theorem mem_insD {x z : α} : ∀ {l : List α}, z ∈ insD le x l ↔ z = x ∨ z ∈ l
  | [] => by simp [insD]
  | y :: ys => by
    unfold insD
    split
    · simp
    · rw [List.mem_cons, mem_insD (l := ys), List.mem_cons]
      constructor
      · rintro (h | h | h) <;> simp [h]
      · rintro (h | h | h) <;> simp [h]
theorem insD_pair (h : PySem.W.TotalLe le) {x : α} : ∀ {l : List α}, l.Pairwise (fun a b => le a b = true) → (insD le x l).Pairwise (fun a b => le a b = true)
  | [], _ => by simp [insD]
  | y :: ys, p => by
    unfold insD
    obtain ⟨p1, p2⟩ := List.pairwise_cons.mp p
    split
    · rename_i hl
      refine List.pairwise_cons.mpr ⟨fun z hz => ?_, p⟩
      rcases List.mem_cons.mp hz with rfl | hz
      · exact hl
      · exact h.trans _ _ _ hl (p1 z hz)
    · rename_i hl
      refine List.pairwise_cons.mpr ⟨fun z hz => ?_, insD_pair h p2⟩
      rcases mem_insD.mp hz with rfl | hz
      · exact (h.total y z).resolve_right hl
      · exact p1 z hz
theorem insD_filter (h : PySem.W.TotalLe le) {x : α} (c : α) : ∀ l : List α, (insD le x l).filter (PySem.W.sameRank le c) = (x :: l).filter (PySem.W.sameRank le c)
  | [] => rfl
  | y :: ys => by
    unfold insD
    split
    · rfl
    · rename_i hl
      rw [List.filter_cons, insD_filter h c ys]
      simp only [List.filter_cons]
      cases hx : PySem.W.sameRank le c x with
      | false => cases PySem.W.sameRank le c y <;> rfl
      | true =>
        cases hy : PySem.W.sameRank le c y with
        | false => rfl
        | true =>
          exfalso
          unfold PySem.W.sameRank at hx hy
          rw [Bool.and_eq_true] at hx hy
          exact hl (h.trans _ _ _ hx.2 hy.1)
theorem isort_pair (h : PySem.W.TotalLe le) : ∀ l : List α, (isort le l).Pairwise (fun a b => le a b = true)
  | [] => List.Pairwise.nil
  | x :: xs => insD_pair h (isort_pair h xs)
theorem isort_filter (h : PySem.W.TotalLe le) (c : α) : ∀ l : List α, (isort le l).filter (PySem.W.sameRank le c) = l.filter (PySem.W.sameRank le c)
  | [] => rfl
  | x :: xs => by
    unfold isort
    rw [insD_filter h c, List.filter_cons, isort_filter h c xs, List.filter_cons]
theorem isort_eq (h : PySem.W.TotalLe le) (l : List α) : isort le l = l.mergeSort le := PySem.W.sort_unique h (isort_pair h l) fun c => isort_filter h c l
theorem isort_perm : ∀ l : List α, (isort le l).Perm l
  | [] => .refl _
  | x :: xs => by
    have ih : ∀ l : List α, (insD le x l).Perm (x :: l) := fun l => by
      induction l with
      | nil => exact .refl _
      | cons y ys ih =>
        unfold insD
        split
        · exact .refl _
        · exact (List.Perm.cons y ih).trans (List.Perm.swap x y ys)
    exact (ih _).trans (.cons x (isort_perm xs))
end ins
def leD (a b : D) : Bool := !PySem.W.dataLt b a
theorem leD_total : PySem.W.TotalLe leD := by
  have h := PySem.W.sortLe_total (PyProof.Rows.listOrd PyProof.Rows.itemOrd) false (fun b : D => PySem.W.keyToks b)
  exact h

def tup1 : D → Bool
  | .tuple (_ :: _) => true
  | _ => false
def noTup : D → Bool
  | .tuple _ => false
  | .none => false
  | _ => true
def okSort (ds : List D) : Bool := ds.all (fun x => ds.all fun y => PySem.W.alike x y) && (ds.all tup1 || ds.all noTup) && PyData.plainAll ds && decide (ds.length ≤ lim) && ds.all fun x => decide (x.depth ≤ 60)
theorem okSort_inv {ds : List D} (h : okSort ds = true) : PySem.W.AllAlike ds ∧ PySem.W.Sortable ds ∧ PyData.plainAll ds = true ∧ ds.length ≤ lim ∧ ∀ d, d ∈ ds → d.depth ≤ 60 := by
  unfold okSort at h
  simp only [Bool.and_eq_true, Bool.or_eq_true, List.all_eq_true, decide_eq_true_eq] at h
  obtain ⟨⟨⟨⟨h1, h2⟩, h3⟩, h4⟩, h5⟩ := h
  refine ⟨fun d hd d' hd' => h1 d hd d' hd', ?_, h3, h4, h5⟩
  rcases h2 with h2 | h2
  · refine .inl fun d hd => ?_
    have q := h2 d hd
    unfold tup1 at q
    split at q
    · exact ⟨_, _, rfl⟩
    · cases q
  · refine .inr fun d hd => ?_
    have q := h2 d hd
    refine ⟨fun e => ?_, fun xs e => ?_⟩
    · rw [e] at q
      cases q
    · rw [e] at q
      cases q
def seqD : D → Option (List D)
  | .list xs => some xs
  | .tuple xs => some xs
  | _ => none
def fSorted : List D → Option Res
  | [.list xs] => if okSort xs = true then some (.list (isort leD xs), .ow) else none
  | _ => none
theorem each_reps {K : PySem.W.Frag} {F : Hp} : ∀ {vs : List V} {us : List Value} {ds : List D}, Vals vs us → Reps K F vs ds → PySem.W.EachIs (fun u d => ∃ v, RelV v u ∧ Rep K F v d) us ds
  | _, _, _, .nil, .nil => .nil
  | _, _, _, .cons r t, .cons r' t' => .cons ⟨_, r, r'⟩ (each_reps t t')
theorem reps_each {K : PySem.W.Frag} {F : Hp} : ∀ {us : List Value} {ds : List D}, PySem.W.EachIs (fun u d => ∃ v, RelV v u ∧ Rep K F v d) us ds → ∃ vs, Vals vs us ∧ Reps K F vs ds
  | _, _, .nil => ⟨[], .nil, .nil⟩
  | _, _, .cons ⟨v, r, r'⟩ t => by
    obtain ⟨vs, h1, h2⟩ := reps_each t
    exact ⟨v :: vs, .cons r h1, .cons r' h2⟩
theorem plain_mem : ∀ {ds : List D}, PyData.plainAll ds = true → ∀ d ∈ ds, d.plain = true
  | d :: ds, h, x, hx => by
    rw [PyData.plainAll, Bool.and_eq_true] at h
    rcases List.mem_cons.mp hx with rfl | hx
    · exact h.1
    · exact plain_mem h.2 x hx
section
variable {X : Cx}
theorem each_reads {pins : List (Addr × Obj)} {σ : Sg} {F H : Hp} {s : Shared} (I : Inv X pins σ H s) (sm : Same F H) : ∀ {vs : List V} {us : List Value} {ds : List D}, Vals vs us → Reps X.K F vs ds → PyData.plainAll ds = true →
    PySem.W.EachIs (fun u d => ∃ as, Reads s.heap u (id d) as) us ds
  | _, _, _, .nil, .nil, _ => .nil
  | _, _, _, .cons r t, .cons r' t', h => by
    rw [PyData.plainAll, Bool.and_eq_true] at h
    exact .cons (reads_of I sm (.inl r') h.1 r) (each_reads I sm t t' h.2)
theorem cv_sorted (hu : X.A.units + 64 < cLine) : CallR X (.builtin "sorted") (rDn X.K fSorted) := by
  rintro pins s σ H xs us Q I rv ⟨F, ds, d, t, sm, rb, e, k⟩
  unfold fSorted at e
  split at e
  · rename_i xs'
    split at e
    · rename_i hok
      cases e
      obtain ⟨al, so, pl, ln, dp⟩ := okSort_inv hok
      obtain ⟨v, rfl, rb1⟩ := rb.one
      obtain ⟨l, vs, rfl, hl, rr⟩ := rb1.list sm
      obtain ⟨hz, its, n, rits, hlen, dd, slo, ho⟩ := rd_lst I hl
      rw [Vals.ref1 rv]
      have e1 := each_reps rits rr
      have e2 := each_reads I sm rits rr pl
      refine PySem.W.sorted_data (enc := id) (bs := xs') ⟨_, ho, rfl, n, rfl⟩ e1 e2 (by simpa using al) (by simpa using so) (lim_line ln) (fun b hb => ?_) fun out h1 h2 => ?_
      · have := dp b hb
        show X.A.units + 2 + b.depth < cLine
        omega
      · obtain ⟨ws, r1, r2⟩ := reps_each h2
        obtain ⟨ep, he'⟩ := PyProof.Rows.sortedAll_at s.heap its (List.toArray out)
        have hn := I.hok.fresh (Nat.le_succ s.heap.objs.size)
        refine ⟨.ref _, upd H (s.heap.objs.size + 1) (.lst ws), I.laid (t' := s.toks) (fun _ _ => PyProof.Rows.sortedAll_old) (Nat.le_succ _) ⟨?_, out, ep, r1, he'⟩, rfl, k _ _ _ (vp_lst sm hn ?_)⟩
        · rw [r1.length, h1]
          exact lim_line ln
        · rw [isort_eq leD_total]
          exact r2
    · cases e
  · cases e
def dCnt (x y : D) : Option Res := match x with
  | .list xs => if okD x y = true then some (.int ((xs.countP fun z => PyData.eqv z y : Nat) : Int), .sh) else none
  | _ => none
def isLst : D → Bool
  | .list _ => true
  | _ => false
/-- a method of a list that only reads -/
def eMth (ck : D → Bool) (op : D → D → Option Res) (o1 o2 : OM) : EM := fun e => (o1 e).bind fun x => (rd x.1 x.2).bind fun d => if ck d = true then (o2 x.2).bind fun y => (rd x.1 y.2).bind fun a => (rd y.1 y.2).bind fun b => (op a b).map fun z => (z.1, z.2, y.2) else none
theorem tyv_list {K : PySem.W.Frag} {F H : Hp} (s : Same F H) {v : V} {x : D} (h : RepB K F H v x) (hd : isLst x = true) : tyV K "list" v H := by
  cases x with
  | list ds =>
    obtain ⟨a, vs, rfl, q, _⟩ := h.list s
    exact .inl ⟨rfl, vs, q⟩
  | _ => cases hd
theorem eMth_core {K : PySem.W.Frag} {T : String} {ck : D → Bool} {op : D → D → Option Res} {o1 o2 : OM} (hk : ∀ F H v x, Same F H → RepB K F H v x → ck x = true → tyV K T v H) {σ : Sg} {H : Hp} {Q : VK} (h : TEof K (eMth ck op o1 o2) σ H Q) :
    tBM K T (fun x xs H Q => ∃ y, xs = [y] ∧ rD2 K op x y H Q) (TOof K o1) (L2.tCons (TOof K o2) L2.tNil) σ H Q := by
  obtain ⟨F, env, r, d, t, env', e, k⟩ := h
  unfold eMth at e
  simp only [Option.bind_eq_some_iff] at e
  obtain ⟨⟨r1, em⟩, h1, x0, h2, h3⟩ := e
  split at h3
  · rename_i hd
    simp only [Option.bind_eq_some_iff, Option.map_eq_some_iff] at h3
    obtain ⟨⟨r2, e3⟩, h4, x, h5, y, h6, ⟨z1, z2⟩, h7, h8⟩ := h3
    cases h8
    refine ⟨F, env, r, r1, em, h1, fun F1 H1 v p => ?_⟩
    refine ⟨hk F1 H1 v x0 p.rl.sub (p.late F1 H1 em x0 p.rl .refl .refl h2).b hd, F1, em, p.rl, r2, e3, h4, fun F2 H2 w p2 => ?_⟩
    exact ⟨w, rfl, F2, x, y, _, _, p2.rl.sub, (p.late F2 H2 e3 x p2.rl p2.ex p2.le h5).b, (p2.late F2 H2 e3 y p2.rl .refl .refl h6).b, h7, fun F3 H3 u q => k F3 H3 u (((q.epost p2.rl).after p2.ex p2.le).after p.ex p.le)⟩
  · cases h3
theorem mt_cnt (hu : X.A.units + 64 < cLine) : MtR X "list.count" (fun x xs H Q => ∃ y, xs = [y] ∧ rD2 X.K dCnt x y H Q) := by
  rintro pins s σ H x xs v us Q I rx rxs ⟨y, rfl, F, dx, dy, d, t, sm, bx, bY, e, k⟩
  obtain ⟨u, rfl, ru⟩ := rxs.one
  unfold dCnt at e
  split at e
  · rename_i xs'
    split at e
    · rename_i hok
      cases e
      obtain ⟨p1, p2, p3⟩ := okD_inv hok
      obtain ⟨as, r1⟩ := reads_of I sm bx p1 rx
      obtain ⟨bs, r2⟩ := reads_of I sm bY p2 ru
      cases r1 with
      | list h1 h2 h3 h4 =>
        refine SeqAt.count_list_data ⟨_, h1, h2, _, h3⟩ h4 r2 p1 p2 ?_ ?_
        · have : (PyData.list xs').depth = PyData.depthAll xs' + 1 := rfl
          omega
        · exact ⟨.int _, H, I.tok _, ⟨_, rfl⟩, k F H _ (vp_sc sm (.int _))⟩
    · cases e
  · cases e
variable {a b : Expr} {o1 o2 : OM} {apos pos : Pos}
theorem d_cnt (hu : X.A.units + 64 < cLine) (ha : PE X a (TOof X.K o1)) (hb : PE X b (TOof X.K o2))
    (hbase : attributeBase a "count" X.env (eval a X.env) = eval a X.env := by rfl)
    (hfew : ((backTo pos (starEach (b :: []) X.env)).all (fun x => !x.1) && (backToKw pos (keywordEach [] X.env)).all (fun x => x.1.isSome)
      && decide ((b :: []).length + ([] : List Keyword).length + (if ([] : List Keyword).isEmpty then 0 else 1) < 30)) = true := by rfl)
    (hline : (apos.endLine == pos.line) = true := by rfl) (hs : starEach (b :: []) X.env = (false, eval b X.env) :: starEach [] X.env := by rfl) (hplain : (backTo pos (starEach [] X.env)).any (·.1) = false := by rfl) :
    PE X (.Call (.Attribute a "count" apos) [b] [] pos) (TEof X.K (eMth isLst dCnt o1 o2)) :=
  (pe_bm F.plainAttrs_list F.slot_list_count F.type_list_count (mt_cnt hu) ha (pa_cons hb pa_nil hs) hbase hfew hline hs hplain).mono fun _ _ _ q => eMth_core (fun _ _ _ _ s h c => tyv_list s h c) q
end
end Dd
namespace Dd
open PySem PySem.Spec PyProof.Rows L2

/-- the rows of a dict -/
def tblD : D → Option (List (D × D))
  | .dict ((.none, .none) :: ds) => some ds
  | .dict ds => some ds
  | _ => none
theorem RepK.vals {K : PySem.W.Frag} {F : Hp} : ∀ {kvs : List (Key × V)} {ds : List (D × D)}, RepK K F kvs ds → Reps K F (kvs.map (·.2)) (ds.map (·.2))
  | _, _, .nil => .nil
  | _, _, .cons h r => .cons h (RepK.vals r)
theorem RepT.vals {K : PySem.W.Frag} {F : Hp} : ∀ {kvs : List (List Key × V)} {ds : List (D × D)}, RepT K F kvs ds → Reps K F (kvs.map (·.2)) (ds.map (·.2))
  | _, _, .nil => .nil
  | _, _, .cons h r => .cons h (RepT.vals r)
theorem tbl_cases {K : PySem.W.Frag} {F H : Hp} (s : Same F H) {v : V} {x : D} {ds : List (D × D)} (h : RepB K F H v x) (e : tblD x = some ds) :
    ∃ a, v = .ref a ∧ ((∃ kvs, Rd H a (.dK kvs) ∧ RepK K F kvs ds) ∨ ∃ kvs, Rd H a (.dT kvs) ∧ RepT K F kvs ds) := by
  unfold tblD at e
  split at e
  · cases e
    obtain ⟨a, rfl, ⟨kvs, q, r⟩ | ⟨kvs, es, q, r, z⟩⟩ := dict_cases s h
    · exact (repK_noT r).elim
    · cases z
      exact ⟨a, rfl, .inr ⟨kvs, q, r⟩⟩
  · rename_i ds' nz
    cases e
    obtain ⟨a, rfl, ⟨kvs, q, r⟩ | ⟨kvs, es, q, r, z⟩⟩ := dict_cases s h
    · exact ⟨a, rfl, .inl ⟨kvs, q, r⟩⟩
    · subst z
      exact (nz es rfl).elim
  · cases e
theorem pairR {α β : Type} {G : α → β → Prop} {xs : List α} {ys : List β} (h : Paired G xs ys) : ∀ {i : Nat} {b : β}, ys[i]? = some b → ∃ a, xs[i]? = some a ∧ G a b := by
  induction h with
  | nil => intro i b e; simp at e
  | cons g t ih =>
    intro i b e
    cases i with
    | zero => simp at e; subst e; exact ⟨_, rfl, g⟩
    | succ i =>
      obtain ⟨a, h1, h2⟩ := ih (i := i) (b := b) (by simpa using e)
      exact ⟨a, by simpa using h1, h2⟩
section
variable {X : Cx} {pins : List (Addr × Obj)} {σ : Sg} {F H : Hp} {s : Shared}
/-- how a dict's values stand in the heap -/
theorem raw_of (I : Inv X pins σ H s) (sm : Same F H) {v : V} {u : Value} {x : D} {ds : List (D × D)} (h : RepB X.K F H v x) (e : tblD x = some ds) (r : RelV v u) :
    ∃ a es ep vs, v = .ref a ∧ u = .ref a ∧ (a == sysModules) = false ∧ s.heap.DictRaw a es ep ∧ es.size ≤ sizeLine ∧ es.size = vs.length ∧ Reps X.K F vs (ds.map (·.2)) ∧ ∀ (i : Nat) w, (∃ hi : i < es.size, w = es[i].val) → ∃ x, vs[i]? = some x ∧ RelV x w := by
  obtain ⟨a, rfl, ⟨kvs, q, rr⟩ | ⟨kvs, q, rr⟩⟩ := tbl_cases sm h e
  · cases (show u = Value.ref a from r)
    obtain ⟨ln, hs, vs, rel, dof⟩ := dk_rd I.hok q
    obtain ⟨es, ep, hr, hz, hv⟩ := dof.raw
    have hl : es.size = (kvs.map (·.2)).length := by rw [hz, List.length_map]; exact (KV.length rel).symm
    refine ⟨a, es, ep, kvs.map (·.2), rfl, rfl, hs, hr, ?_, hl, rr.vals, fun i w ⟨hi, hw⟩ => ?_⟩
    · rw [hl, List.length_map]; exact ln
    · have hi2 : i < vs.length := hz ▸ hi
      obtain ⟨_, h2⟩ := hv i hi vs[i].1 vs[i].2 (List.getElem?_eq_getElem hi2)
      obtain ⟨y, h3, h4⟩ := KV.at' rel (List.getElem?_eq_getElem hi2)
      exact ⟨y, by rw [List.getElem?_map, h3]; rfl, by rw [hw, h2]; exact h4⟩
  · cases (show u = Value.ref a from r)
    obtain ⟨ln, hs, xs, rel, dof⟩ := dt_rd I.hok q
    obtain ⟨es, ep, hr, hz, hv⟩ := dof.raw
    have hlk : kvs.length = xs.length := Paired.length rel
    have hl : es.size = (kvs.map (·.2)).length := by rw [hz, List.length_map, hlk]
    refine ⟨a, es, ep, kvs.map (·.2), rfl, rfl, hs, hr, ?_, hl, rr.vals, fun i w ⟨hi, hw⟩ => ?_⟩
    · rw [hl, List.length_map]; exact ln
    · obtain ⟨y, h1, _, h2, _⟩ := hv i hi
      obtain ⟨p, h3, h4⟩ := pairR rel h1
      exact ⟨p.2, by rw [List.getElem?_map, h3]; rfl, by rw [hw, h2]; exact h4.2.2⟩

theorem raw_rd (I : Inv X pins σ H s) {a : Addr} (q : (∃ kvs, Rd H a (.dK kvs)) ∨ ∃ kvs, Rd H a (.dT kvs)) : ∃ es ep, s.heap.DictRaw a es ep ∧ (a == sysModules) = false := by
  rcases q with ⟨kvs, q⟩ | ⟨kvs, q⟩
  · obtain ⟨_, hs, vs, _, dof⟩ := dk_rd I.hok q
    obtain ⟨es, ep, hr, _⟩ := dof.raw
    exact ⟨es, ep, hr, hs⟩
  · obtain ⟨_, hs, xs, _, dof⟩ := dt_rd I.hok q
    obtain ⟨es, ep, hr, _⟩ := dof.raw
    exact ⟨es, ep, hr, hs⟩
variable {o : Expr} {oo : OM} {apos mpos p pos kpos : Pos}
def vwO (a : Addr) : Obj := { cls := .type "dict_values", data := .fields #[.ref a] }
theorem vw_at {r a : Addr} (I : Inv X ((r, vwO a) :: pins) σ H s) : s.heap.IsValuesView r a := ⟨_, ClX.pin_at I, rfl, rfl⟩
theorem view_of (ho : PE X o (TOof X.K oo)) {Q : V → Hp → Prop} (I : Inv X pins σ H s)
    (h : TOof X.K oo σ H fun v H1 => (∃ a, v = .ref a ∧ ((∃ kvs, Rd H1 a (.dK kvs)) ∨ ∃ kvs, Rd H1 a (.dT kvs))) ∧ Q v H1)
    (hbase : attributeBase o "values" X.env (eval o X.env) = eval o X.env) (hline : (apos.endLine == mpos.line) = true) :
    wpAny (model X.prog X.w) X.A (eval (.Call (.Attribute o "values" apos) [] [] mpos) X.env) (fun u s' => ∃ r a H1, u = .ref r ∧ Inv X ((r, vwO a) :: pins) σ H1 s' ∧ Q (.ref a) H1) X.xe s := by
  refine wpAny_Call_method0_late hbase hline (thn (ho.run pins s σ H _ I h) fun v s1 ⟨x, H1, I1, r1, ⟨a, ex, q⟩, q1⟩ => ?_)
  subst ex
  obtain rfl : v = Value.ref a := r1
  obtain ⟨es, ep, raw, hs⟩ := raw_rd I1 q
  have raw' := raw
  obtain ⟨ob, h1, h2, h3⟩ := raw'
  refine ⟨"dict", "dict.values", F.plainAttrs_dict, F.slot_dict_values, F.type_dict_values, ⟨ob, h1, h2.1⟩, fun b e => ?_, Calls.callWith_builtin rfl (PySem.evalArgs_none ?_)⟩
  · cases e
    exact ⟨ob, h1, h2.2.1⟩
  refine call_meetsIn F.slot_dict_values ⟨ob, h1, h2.1⟩ F.entry_dict_values (F.args_dict_values_1 _) (meets_dict_values_raw a hs) ⟨⟨es, ep, raw⟩, ?_⟩
  exact ⟨_, a, H1, rfl, ClX.pin_new (t' := s1.toks) I1 (fun b u e => Heap.get?_push_of_some _ e) (Nat.le_refl _) (Heap.get?_push_size _ rfl) (fun v z => by cases z), q1⟩
/-- list(o.values()) -/
def opVals (x : D) : Option Res := (tblD x).map fun ds => (.list (ds.map (·.2)), .ow)
theorem isD_tbl {K : PySem.W.Frag} {F H : Hp} (sm : Same F H) {v : V} {x : D} {ds : List (D × D)} (h : RepB K F H v x) (e : tblD x = some ds) : ∃ a, v = .ref a ∧ ((∃ kvs, Rd H a (.dK kvs)) ∨ ∃ kvs, Rd H a (.dT kvs)) := by
  obtain ⟨a, rfl, ⟨kvs, q, _⟩ | ⟨kvs, q, _⟩⟩ := tbl_cases sm h e
  · exact ⟨a, rfl, .inl ⟨kvs, q⟩⟩
  · exact ⟨a, rfl, .inr ⟨kvs, q⟩⟩
theorem items_vals {Pv : Nat → Value → Prop} {acc : Array Value} {n : Nat} {vs : List V} (h : ItemsOf Pv acc n) (hn : n = vs.length) (hp : ∀ i w, Pv i w → ∃ x, vs[i]? = some x ∧ RelV x w) : Vals vs acc.toList :=
  vals_of_at (hn.symm.trans (h.1.symm.trans (Array.length_toList (xs := acc)).symm)) fun j x u hx hu => by
    obtain ⟨y, h1, h2⟩ := hp j u (h.2 j u (by rw [← Array.getElem?_toList]; exact hu))
    rw [hx] at h1
    cases h1
    exact h2
theorem d_vals (hc : X.calm = true) (hg : Gl X "list") (hm : X.mg "list" = none) (ho : PE X o (TOof X.K oo)) (hbase : attributeBase o "values" X.env (eval o X.env) = eval o X.env := by rfl) (hline : (apos.endLine == mpos.line) = true := by rfl)
    (na : starEach [Expr.Call (.Attribute o "values" apos) [] [] mpos] X.env = (false, eval (Expr.Call (.Attribute o "values" apos) [] [] mpos) X.env) :: starEach [] X.env := by rfl) :
    PE X (.Call (.Name "list" p) [.Call (.Attribute o "values" apos) [] [] mpos] [] pos) (TEof X.K (e1 opVals oo)) := by
  refine ⟨fun pins s σ H Q I h => ?_⟩
  refine Call_ (ld_blt I hg hm boot_list (PyProof.Rows.callWith_type1 (PyProof.Rows.args_cons (thn (view_of (Q := fun x H1 => rD1 X.K opVals x H1 Q) ho I (TOof.mono' (core1 h) fun v H1 hv => ⟨?_, hv⟩) hbase hline) fun u s1 hu => PyProof.Rows.args_nil ?_) na) na))
  · obtain ⟨F1, dx, d, t, sm, rb, e, _⟩ := hv
    unfold opVals at e
    simp only [Option.map_eq_some_iff] at e
    obtain ⟨ds, h1, _⟩ := e
    exact isD_tbl sm rb h1
  · obtain ⟨r, a, H1, ru, I0, F1, dx, d, t, sm, rb, e, k⟩ := hu
    subst ru
    have hview := vw_at I0
    have I1 := ClX.unpin I0
    unfold opVals at e
    simp only [Option.map_eq_some_iff] at e
    obtain ⟨ds, h1, h2⟩ := e
    cases h2
    obtain ⟨a', es, ep, vs, ea, eb, hs, raw, hz, hl, rr, hv⟩ := raw_of I1 sm rb h1 (show RelV (.ref a) (.ref a) from rfl)
    cases eb
    refine PySem.W.kdl_call (PySem.KdlSrc.rawValues (r := r) (d := a) (es := es) (ep := ep)) (I1.ok.hd hc) ⟨hview, raw⟩ hz fun h' tk acc' c' hk hS hacc => ?_
    have hvs := items_vals hacc hl hv
    have hn := I1.hok.fresh (Nat.le_refl s1.heap.objs.size)
    refine ⟨.ref _, upd H1 s1.heap.objs.size (.lst vs), I1.laid hk (Nat.le_refl _) ⟨by rw [← hl]; exact hz, acc'.toList, c', hvs, by rw [Array.toArray_toList]; exact hS⟩, rfl, k _ _ _ (vp_lst sm hn rr)⟩
end
end Dd
namespace Dd
open PySem PySem.Spec PyProof.Rows L2
section
variable {X : Cx} {pins : List (Addr × Obj)} {σ : Sg} {F H : Hp} {s : Shared} {o c : Expr} {oo : OM} {apos mpos p pos kpos p2 q : Pos}
/-- max(o.values(), default=cd), ints -/
def opMaxV (cd : D) (x : D) : Option Res := (tblD x).bind fun ds => (intsD (ds.map (·.2))).map fun ns => match ns with
    | n :: r => (.int (r.foldl max n), .sh)
    | [] => (cd, .sh)
theorem argBest_max (n : Int) (r : List Int) : (n :: r).getD (argBest (fun i j => decide ((n :: r).getD j 0 < (n :: r).getD i 0)) r.length) 0 = r.foldl max n := by
  have e2 := (PySem.W.argBest_fold (fun a b : Int => decide (b < a)) 0 n r r.length (Nat.le_refl _)).2
  rw [List.take_length] at e2
  rw [e2]
  congr 1
  funext a y
  by_cases h : a < y
  · simp [h]; omega
  · simp [h]; omega
theorem cmp_gt_ints {P : Program} {w : World} {A : Around} {h : Heap} {ns : List Int} {Pv : Nat → Value → Prop} (hv : ∀ i v, Pv i v → ∃ t, v = .int (ns.getD i 0) t) (hu : A.units < cLine) :
    PySem.CmpIn P w A .Gt h Pv (fun i j => decide (ns.getD j 0 < ns.getD i 0)) := fun i j vi vj s' Q E hk hi hj hq => by
  obtain ⟨t1, rfl⟩ := hv i vi hi
  obtain ⟨t2, rfl⟩ := hv j vj hj
  refine PySem.W.rcGt_alike (.int (ns.getD i 0)) (.int (ns.getD j 0)) A s' _ _ _ _ (.int _ _) (.int _ _) rfl (fun z => nomatch z) ?_ P w E Q ?_
  · exact hu
  · rw [PySem.W.dataLt_int]
    exact hq
theorem intsD_get {K : PySem.W.Frag} {F : Hp} {vs : List V} {ns : List Int} (r : Reps K F vs (ns.map PyData.int)) {i : Nat} {x : V} (h : vs[i]? = some x) : x = .int (ns.getD i 0) := by
  obtain ⟨d, h1, h2⟩ := r.get' h
  rw [List.getElem?_map] at h1
  obtain ⟨n, h3, h4⟩ := Option.map_eq_some_iff.mp h1
  subst h4
  cases h2
  rw [List.getD_eq_getElem?_getD, h3]
  rfl
theorem d_maxV {cd : D} {cv : V} (hcv : ∀ F, Rep X.K F cv cd) (hc : X.calm = true) (hu : X.A.units + 64 < cLine) (hg : Gl X "max") (hm : X.mg "max" = none) (ho : PE X o (TOof X.K oo)) (hcc : PE X c (tC cv))
    (hbase : attributeBase o "values" X.env (eval o X.env) = eval o X.env := by rfl) (hline : (apos.endLine == mpos.line) = true := by rfl)
    (na : starEach [Expr.Call (.Attribute o "values" apos) [] [] mpos] X.env = (false, eval (Expr.Call (.Attribute o "values" apos) [] [] mpos) X.env) :: starEach [] X.env := by rfl) :
    PE X (.Call (.Name "max" p) [.Call (.Attribute o "values" apos) [] [] mpos] [⟨some "default", c, kpos⟩] pos) (TEof X.K (e1 (opMaxV cd) oo)) := by
  refine ⟨fun pins s σ H Q I h => ?_⟩
  refine wpAny_Call_Name_kw (ld_blt I hg hm (u := .builtin "max") (by first | rfl | decide +kernel) ?_ (by first | decide +kernel | decide) (by first | decide +kernel | decide))
  have hk := pk_cons (X := X) (kpos := kpos) (nm := some "default") hcc pk_nil
  have hall : (backToKw pos (keywordEach [⟨some "default", c, kpos⟩] X.env)).all (·.1.isSome) = true := by rfl
  have hnone : (backToKw pos (keywordEach [⟨some "default", c, kpos⟩] X.env)).any (·.1.isNone) = false := by rfl
  have hks : (backToKw pos (keywordEach [⟨some "default", c, kpos⟩] X.env)).filterMap (·.1) = [Str.ofString "default"] := by rfl
  have he : backTo pos (starEach [Expr.Call (.Attribute o "values" apos) [] [] mpos] X.env) = (false, eval (Expr.Call (.Attribute o "values" apos) [] [] mpos) X.env) :: backTo pos (starEach [] X.env) := by rw [na] <;> rfl
  refine PyProof.Rows.callWith_kw ?_ he (by rw [he] <;> rfl) hall hnone
  rw [he, hks]
  show wpAny _ _ (do let v ← eval (Expr.Call (.Attribute o "values" apos) [] [] mpos) X.env; let vs ← holding [v] (spliced (backTo pos (starEach [] X.env))); pure (v :: vs)) _ _ s
  refine wpAny_bind (thn (view_of (Q := fun x H1 => rD1 X.K (opMaxV cd) x H1 Q) ho I (TOof.mono' (core1 h) fun v H1 hv => ⟨?_, hv⟩) hbase hline) fun u s1 hu => wpAny_bind (wpAny_holding (wpAny_pure (wpAny_pure ?_))))
  · obtain ⟨F1, dx, d, t, sm, rb, e, _⟩ := hv
    unfold opMaxV at e
    simp only [Option.bind_eq_some_iff] at e
    obtain ⟨ds, h1, _⟩ := e
    exact isD_tbl sm rb h1
  · obtain ⟨r, a, H1, ru, I1, hd⟩ := hu
    subst ru
    refine thn (hk.run pos ((r, vwO a) :: pins) s1 σ H1 (fun zs H2 => zs = [cv] ∧ H2 = H1) I1 ⟨rfl, rfl⟩) fun ws s2 ⟨zs, H2, I2, r2, q2, q3⟩ => ?_
    subst q2 q3
    obtain ⟨w, rfl, rw'⟩ := r2.one
    have hview := vw_at I2
    have I3 := ClX.unpin I2
    obtain ⟨F1, dx, d, t, sm, rb, e, k⟩ := hd
    unfold opMaxV at e
    simp only [Option.bind_eq_some_iff, Option.map_eq_some_iff] at e
    obtain ⟨ds, h1, ns, h2, h3⟩ := e
    obtain ⟨a', es, ep, vs, ea, eb, hs, raw, hz, hl, rr, hv⟩ := raw_of I3 sm rb h1 (show RelV (.ref a) (.ref a) from rfl)
    cases eb
    rw [intsD_eq h2] at rr
    have hlen : vs.length = ns.length := by rw [rr.len, List.length_map]
    have hval : ∀ i v, (∃ hi : i < es.size, v = es[i].val) → ∃ t, v = Value.int (ns.getD i 0) t := fun i v q => by
      obtain ⟨x, q1, q2⟩ := hv i v q
      rw [intsD_get rr q1] at q2
      exact q2
    have hlt : a < s2.heap.objs.size := raw.lt_size
    refine PySem.call_max_walkD (wpAny_pyIter_values_raw hview raw ?_)
    refine ⟨_, _, _, _, _, _, _, s2.heap, fun i j => decide (ns.getD j 0 < ns.getD i 0), rfl, (Walks.rawValues (A := X.A.in1) (I.ok.hd hc) s2.heap.objs.size a (Nat.ne_of_lt hlt) es ep).toS, ⟨⟨_, Heap.get?_push_size _ rfl, rfl, rfl⟩, raw.push _⟩, fun b hb => ?_, fun b u eb hb => ?_, fun b u eb => Heap.get?_push_of_some _ eb, fun h0 s' m => ?_, fun hp => ⟨cmp_gt_ints hval (by show X.A.units + 1 < cLine; omega), fun v s' hP m => ?_⟩⟩
    · show b < (s2.heap.push _).objs.size
      rw [Heap.size_push]
      rcases List.mem_cons.mp hb with e | hb
      · rw [e]; exact Nat.lt_succ_self _
      · rw [List.mem_singleton.mp hb]; exact Nat.lt_succ_of_lt hlt
    · rw [List.mem_singleton.mp hb] at eb
      exact absurd (Heap.lt_size eb) (Nat.lt_irrefl _)
    · have hn : ns = [] := List.eq_nil_of_length_eq_zero (by omega)
      subst hn
      cases h3
      have kk : ∀ b o, s2.heap.get? b = some o → s'.heap.get? b = some o := fun b o e => m.heap b o (fun hI => absurd (Heap.lt_size e) (by rw [List.mem_singleton.mp hI]; exact Nat.lt_irrefl _)) (Heap.get?_push_of_some _ e)
      rw [Moved.eq_with m]
      exact ⟨cv, H2, I3.kept kk, rw', k F1 H2 _ (vp_sc sm (hcv F1))⟩
    · cases ns with
      | nil => rw [hl, hlen] at hp; exact absurd hp (Nat.lt_irrefl 0)
      | cons n r' =>
        cases h3
        have kk : ∀ b o, s2.heap.get? b = some o → s'.heap.get? b = some o := fun b o e => m.heap b o (fun hI => absurd (Heap.lt_size e) (by rw [List.mem_singleton.mp hI]; exact Nat.lt_irrefl _)) (Heap.get?_push_of_some _ e)
        obtain ⟨t, rfl⟩ := hval _ v hP
        rw [Moved.eq_with m]
        have e1 : es.size - 1 = r'.length := by rw [hl, hlen]; rfl
        rw [e1, argBest_max]
        exact ⟨.int _, H2, I3.kept kk, ⟨t, rfl⟩, k F1 H2 _ (vp_sc sm (.int _))⟩
end
end Dd
set_option maxHeartbeats 4000000
namespace Dd
open PySem PySem.Spec PyProof.Rows L2
section
variable {P : Program} {w : World} {A : Around} {E : Value → Shared → Prop} {s : Shared}
set_option maxRecDepth 100000 in
set_option maxHeartbeats 3200000 in
theorem set_of_ints {l : Addr} {xs0 : Array Value} (ks : List Int) {Q : Value → Shared → Prop} (hNone : A.handled = none) (hList : s.heap.IsList l xs0) (hInts : IntsAre xs0.toList ks) (hRoom : ks.length + 1 < scanBound)
    (kQ : ∀ (hp2 : Heap) (tok c : Nat), SetR w hp2 s.heap.objs.size (fun j => decide (j ∈ ks)) c → c ≤ ks.length → (∀ b o, s.heap.get? b = some o → hp2.get? b = some o) → Q (.ref s.heap.objs.size) { s with heap := hp2, toks := tok }) :
    wpAny (model P w) A (call (.type "set") [.ref l]) Q E s := by
  have eSz : xs0.size = ks.length := by
    have q := IntsAre.length hInts
    rw [Array.length_toList] at q
    exact q
  obtain ⟨c, tl, eMro⟩ := F.called_set.mro
  have eMade := F.called_set.made
  have eSub := F.called_set.sub
  refine wpAny_call (codeAny_of_tree ?_)
  show wpAny _ _ (callAny (.type "set") _) _ _ _
  refine wpAny_pure ⟨Code.quiet_builtin _ (by decide +kernel), codeAny_builtin F.entry_type_call ?_⟩
  rw [Around.under_plain (weight_type_call_type "set" [.ref l] []) rfl]
  have e1 := F.called_set.notType
  have e2 := F.called_set.canCreate
  have e3 := F.typeCall_set_1 (.ref l)
  repeat (any_goals (first | assumption | wp_step))

  refine codeAny_mono (code_set_led1 (.ref l) (E := E) (Q₁ := fun ob0 st1 => ob0 = .ref s.heap.objs.size ∧ st1 = { s with heap := s.heap.push { cls := .type "set", dict := none, data := .set #[] 0 (.fresh 0 0 (!w.params.followText "set-order")) } }) ⟨rfl, rfl⟩) fun r st1 rRes => ?_
  cases r with
  | error e => exact rRes
  | ok fl =>
    cases fl with
    | ret ob0 =>
      obtain ⟨rfl, rfl⟩ := rRes
      have eS : (s.heap.push { cls := .type "set", dict := none, data := .set #[] 0 (.fresh 0 0 (!w.params.followText "set-order")) }).get? s.heap.objs.size = some { cls := .type "set", dict := none, data := .set #[] 0 (.fresh 0 0 (!w.params.followText "set-order")) } := Heap.get?_push_size _ rfl
      have eT : Shared.TypeIs { s with heap := s.heap.push { cls := .type "set", dict := none, data := .set #[] 0 (.fresh 0 0 (!w.params.followText "set-order")) } } (.ref s.heap.objs.size) "set" := ⟨_, eS, rfl⟩
      have e4 := F.called_set.init.lookup
      have e5 := F.called_set.init.bind (.ref s.heap.objs.size)
      repeat (any_goals (first | assumption | wp_step))

      refine codeAny_mono (codeAny_call_builtin (R := wants (fun r st2 => r = .none ∧ ∃ hp2 tok c, st2 = { s with heap := hp2, toks := tok } ∧ SetR w hp2 s.heap.objs.size (fun j => decide (j ∈ ks)) c ∧ c ≤ ks.length ∧
          (∀ b o, s.heap.get? b = some o → hp2.get? b = some o)) E) F.called_set.init.plain F.entry_set_init (check_set_init_1 eT ?_)) fun res2 st2 rRes2 => ?_
      · obtain ⟨oL, eL, eC, nL, eD⟩ := hList
        obtain ⟨q1, q2, q3, q4⟩ := oL
        simp only at eC eD
        subst eC; subst eD
        have eL2 : (s.heap.push { cls := .type "set", dict := none, data := .set #[] 0 (.fresh 0 0 (!w.params.followText "set-order")) }).get? l = some { cls := .type "list", dict := q2, data := .seq xs0 nL, slots := q4 } := Heap.get?_push_of_some _ eL
        have e6 := F.sub_list_set
        have e7 := F.sub_list_frozenset
        have e8 : (Value.type "list" == Value.type "dict") = false := by decide
        have eL1 : (s.heap.push { cls := .type "set", dict := none, data := .set #[] 0 (.fresh 0 0 (!w.params.followText "set-order")) }).IsList l xs0 := ⟨_, eL2, rfl, nL, rfl⟩
        unfold Builtin.«set.__init__» noKeywords Builtin.Frozenset.updateFrom
        generalize eIt : pyIter = iT
        wp_walk
        subst eIt

        refine wpAny_pyIter_list eL1 ?_
        refine wpAny_bind (wpAny_runValue ?_)
        have e9 : l < s.heap.objs.size := Heap.lt_size eL
        have eN3 : A.in1.in1.in1.handled = none := by simp [hNone]
        have e10 : (s.heap.push { cls := .type "set", dict := none, data := .set #[] 0 (.fresh 0 0 (!w.params.followText "set-order")) }).objs.size = s.heap.objs.size + 1 := Heap.size_push ..
        have e11 : l ≠ (s.heap.push { cls := .type "set", dict := none, data := .set #[] 0 (.fresh 0 0 (!w.params.followText "set-order")) }).objs.size := by
          rw [Heap.size_push]; exact Nat.ne_of_lt (Nat.lt_succ_of_lt e9)
        have e12 : s.heap.objs.size ∉ [(s.heap.push { cls := .type "set", dict := none, data := .set #[] 0 (.fresh 0 0 (!w.params.followText "set-order")) }).objs.size, l] := by
          rw [Heap.size_push]; simp only [List.mem_cons, List.mem_singleton, List.not_mem_nil, or_false, not_or]
          exact ⟨Nat.ne_of_lt (Nat.lt_succ_self _), Nat.ne_of_gt e9⟩
        have e13 : ∀ (i : Nat) (v : Value), xs0[i]? = some v → ∃ k t, ks[i]? = some k ∧ v = .int k t := fun i v hv => by
          have hi : i < ks.length := by rw [← eSz]; exact (Array.getElem?_eq_some_iff.mp hv).1
          obtain ⟨t, e⟩ := PyProof.Rows.IntsAre.int_at hInts i v (by rw [Array.getElem?_toList]; exact hv)
          refine ⟨ks[i], t, List.getElem?_eq_getElem hi, ?_⟩
          rw [e, List.getD_eq_getElem?_getD, List.getElem?_eq_getElem hi] <;> rfl
        refine set_update_ints ((Walks.list eN3 _ l e11 xs0).toS) s.heap.objs.size
          e12 ks eSz hRoom e13 (xs0.size - 0) 0 _ (by omega) (Nat.zero_le _)
          ⟨⟨_, Heap.get?_push_size _ rfl, rfl, rfl⟩, (eL1.push _)⟩ ?hS0 ?hR
        case hS0 =>
          have e14 : ((s.heap.push { cls := .type "set", dict := none, data := .set #[] 0 (.fresh 0 0 (!w.params.followText "set-order")) }).push { cls := .type "list_iterator", data := .fields #[.ref l, .int 0 0] }).get? s.heap.objs.size
              = some { cls := .type "set", dict := none, data := .set #[] 0 (.fresh 0 0 (!w.params.followText "set-order")) } := Heap.get?_push_of_some _ eS
          exact ⟨0, Nat.le_refl 0, setR_new_at e14⟩
        case hR =>
          intro s' c' mv eC2 eS2
          obtain ⟨hp2, gn2, d', tk', os'⟩ := s'
          have g1 : gn2 = s.gens := mv.gens
          have g2 : d' = s.drawn := mv.drawn
          have g3 : os' = s.os := mv.os
          subst g1; subst g2; subst g3
          show wpAny _ _ _ _ _ _
          refine wpAny_pure ?_
          show wpAny _ _ (ret Value.none) _ _ _
          rw [eSz] at eC2
          refine wpAny_pure ⟨rfl, hp2, tk', c', rfl, eS2, eC2, fun b o e => ?_⟩
          have b0 : b < s.heap.objs.size := Heap.lt_size e
          have b1 : b ≠ s.heap.objs.size := Nat.ne_of_lt b0
          have b2 : b ≠ (s.heap.push { cls := .type "set", dict := none, data := .set #[] 0 (.fresh 0 0 (!w.params.followText "set-order")) }).objs.size := by
            rw [Heap.size_push]; exact Nat.ne_of_lt (Nat.lt_succ_of_lt b0)
          exact mv.heap b o (by simp only [List.mem_cons, List.mem_singleton, List.not_mem_nil, or_false, not_or]; exact ⟨b1, b2⟩) (Heap.get?_push_of_some _ (Heap.get?_push_of_some _ e))

      · cases res2 with
        | error e => exact rRes2
        | ok fl₂ =>
          cases fl₂ with
          | ret r =>
            obtain ⟨rfl, hp2, tok, c', rfl, eS2, eC2, kp2⟩ := rRes2
            repeat (any_goals (first | assumption | wp_step))
            exact kQ _ _ _ eS2 eC2 kp2
          | _ => exact rRes2.elim
    | _ => exact rRes.elim
end
def insU (x : Int) : List Int → List Int
  | [] => [x]
  | y :: ys => if x < y then x :: y :: ys else if x = y then y :: ys else y :: insU x ys
def isortU : List Int → List Int
  | [] => []
  | x :: xs => insU x (isortU xs)
theorem mem_insU {x z : Int} : ∀ {l : List Int}, z ∈ insU x l ↔ z = x ∨ z ∈ l
  | [] => by simp [insU]
  | y :: ys => by
    unfold insU
    split
    · simp
    · split
      · rename_i h
        subst h
        simp
      · rw [List.mem_cons, mem_insU (l := ys), List.mem_cons]
        constructor
        · rintro (h | h | h) <;> simp [h]
        · rintro (h | h | h) <;> simp [h]
theorem mem_isortU {z : Int} : ∀ {l : List Int}, z ∈ isortU l ↔ z ∈ l
  | [] => .rfl
  | x :: xs => by
    unfold isortU
    rw [mem_insU, mem_isortU (l := xs), List.mem_cons]
theorem insU_pair {x : Int} : ∀ {l : List Int}, l.Pairwise (· < ·) → (insU x l).Pairwise (· < ·)
  | [], _ => by simp [insU]
  | y :: ys, p => by
    unfold insU
    obtain ⟨p1, p2⟩ := List.pairwise_cons.mp p
    split
    · rename_i h
      refine List.pairwise_cons.mpr ⟨fun z hz => ?_, p⟩
      rcases List.mem_cons.mp hz with rfl | hz
      · exact h
      · exact Int.lt_trans h (p1 z hz)
    · rename_i h
      split
      · exact p
      · rename_i h2
        refine List.pairwise_cons.mpr ⟨fun z hz => ?_, insU_pair p2⟩
        rcases mem_insU.mp hz with rfl | hz
        · omega
        · exact p1 z hz
theorem isortU_pair : ∀ l : List Int, (isortU l).Pairwise (· < ·)
  | [] => List.Pairwise.nil
  | x :: xs => insU_pair (isortU_pair xs)
theorem lt_unique : ∀ {l m : List Int}, l.Pairwise (· < ·) → m.Pairwise (· < ·) → (∀ z, z ∈ l ↔ z ∈ m) → l = m
  | [], [], _, _, _ => rfl
  | [], y :: m, _, _, h => absurd ((h y).mpr List.mem_cons_self) (by simp)
  | x :: l, [], _, _, h => absurd ((h x).mp List.mem_cons_self) (by simp)
  | x :: l, y :: m, p, q, h => by
    obtain ⟨p1, p2⟩ := List.pairwise_cons.mp p
    obtain ⟨q1, q2⟩ := List.pairwise_cons.mp q
    have exy : x = y := by
      rcases List.mem_cons.mp ((h x).mp List.mem_cons_self) with e | e
      · exact e
      · rcases List.mem_cons.mp ((h y).mpr List.mem_cons_self) with e2 | e2
        · exact e2.symm
        · have := q1 x e
          have := p1 y e2
          omega
    subst exy
    rw [lt_unique p2 q2 fun z => ?_]
    constructor
    · intro hz
      rcases List.mem_cons.mp ((h z).mp (List.mem_cons_of_mem _ hz)) with e | e
      · subst e
        exact absurd (p1 _ hz) (Int.lt_irrefl _)
      · exact e
    · intro hz
      rcases List.mem_cons.mp ((h z).mpr (List.mem_cons_of_mem _ hz)) with e | e
      · subst e
        exact absurd (q1 _ hz) (Int.lt_irrefl _)
      · exact e
/-- sorted(set(x)) -/
def opSS : D → Option Res
  | .list xs => (intsD xs).bind fun ns => if ns.length < 2000 ∧ (isortU ns).length < 64 then some (.list ((isortU ns).map PyData.int), .ow) else none
  | _ => none
/-- len(set(x)) -/
def opLS : D → Option Res
  | .list xs => (intsD xs).bind fun ns => if ns.length < 2000 then some (.int (isortU ns).length, .sh) else none
  | _ => none
theorem vals_intsA : ∀ {ns : List Int} {us : List Value}, Vals (ns.map V.int) us → IntsAre us ns
  | [], _, .nil => .nil
  | _ :: _, _, .cons r t => by
    obtain ⟨k, rfl⟩ := r
    exact .cons _ k (vals_intsA t)
theorem scan2000 : 2001 < scanBound := by unfold scanBound; omega
section
variable {X : Cx} {pins : List (Addr × Obj)} {σ : Sg} {F H : Hp} {s : Shared} {a : Expr} {o : OM} {p p2 q pos : Pos}
theorem keys_of {w : World} {h : Heap} {b : Addr} {S : Int → Bool} {n : Nat} (R : SetR w h b S n) : ∃ ks : List Int, ks.Nodup ∧ ks.length = n ∧ ∀ k, S k = true ↔ k ∈ ks := by
  obtain ⟨o, es, ep, t, ho, hex, hd, g, nd, hm, hb, hf, hn, hr, hl⟩ := R
  exact ⟨es.toList.map keyOf, nd, by rw [List.length_map, Array.length_toList]; exact hn, hm⟩
theorem count_of {ks ns : List Int} (nd : ks.Nodup) (h : ∀ k, decide (k ∈ ns) = true ↔ k ∈ ks) : ks.length = (isortU ns).length := by
  have hp : ks.Perm (isortU ns) := by
    refine (List.perm_ext_iff_of_nodup nd ((isortU_pair ns).imp (fun h => Int.ne_of_lt h))).mpr fun k => ?_
    rw [mem_isortU, ← h k, decide_eq_true_eq]
  exact hp.length_eq
theorem d_sset (hc : X.calm = true) (hg : Gl X "sorted") (hm : X.mg "sorted" = none) (hg2 : Gl X "set") (hm2 : X.mg "set" = none) (ha : PE X a (TOof X.K o))
    (na : starEach [a] X.env = (false, eval a X.env) :: starEach [] X.env := by rfl) : PE X (.Call (.Name "sorted" p) [.Call (.Name "set" p2) [a] [] q] [] pos) (TEof X.K (e1 opSS o)) := by
  refine ⟨fun pins s σ H Q I h => ?_⟩
  refine Call_ (ld_blt I hg hm (u := .builtin "sorted") (by first | rfl | decide +kernel) ?_ (by first | decide +kernel | decide) (by first | decide +kernel | decide))
  refine PyProof.Rows.callWith_builtin1 (PyProof.Rows.args_cons ?_ rfl) rfl rfl
  refine Call_ (ld_blt I hg2 hm2 PyProof.Rows.boot_set ?_)
  refine PyProof.Rows.callWith_type1 (PyProof.Rows.args_cons (thn (ha.run pins s σ H _ I (core1 h)) fun v s1 ⟨x, H1, I1, r1, q1⟩ => PyProof.Rows.args_nil ?_) na) na
  obtain ⟨F1, dx, d, t, sm, rb, e, k⟩ := q1
  unfold opSS at e
  split at e
  · simp only [Option.bind_eq_some_iff] at e
    obtain ⟨ns, h1, h2⟩ := e
    split at h2
    · rename_i hz
      cases h2
      obtain ⟨l, vs, rfl, hl, rr⟩ := rb.list sm
      cases r1
      rw [intsD_eq h1] at rr
      rw [rr.ints] at hl
      obtain ⟨_, its, n, rits, hlen, dd, slo, ho⟩ := rd_lst I1 hl
      refine set_of_ints (xs0 := its.toArray) ns (I1.ok.hd hc) ⟨_, ho, rfl, n, rfl⟩ (by simpa using vals_intsA rits) (Nat.lt_of_lt_of_le (Nat.succ_lt_succ hz.1) (Nat.le_of_lt scan2000)) fun h' tk c R hcn hk => PyProof.Rows.args_nil ?_
      obtain ⟨ks, nd, hkn, hks⟩ := keys_of R
      have hcc : c = (isortU ns).length := hkn.symm.trans (count_of nd hks)
      have I2 : Inv X pins σ H1 { s1 with heap := h', toks := tk } := I1.kept hk
      refine sorted_set R (I2.ok.hd hc) (by rw [hcc]; exact hz.2) fun s' p out c2 ns2 k2 g2 o2 hp hg3 hi hs hm3 hl2 => ?_
      have en : ns2 = isortU ns := lt_unique hs (isortU_pair ns) fun z => by rw [hm3 z, mem_isortU, decide_eq_true_eq]
      subst en
      have hlen2 : ((isortU ns).map V.int).length ≤ sizeLine := by rw [List.length_map, sizeLine_eq]; have := hz.2; omega
      have hn : H1 p = none := I2.hok.fresh hp
      have J := I2.call (H' := upd H1 p (.lst ((isortU ns).map V.int))) (h' := s'.heap) (g' := s'.gens) (d' := s'.drawn) (t' := s'.toks) (ch := []) (Un.laid k2 hp hn) (I2.hok.laid k2 hp ⟨hlen2, out.toList, c2, vals_of_ints hi, hg3⟩) (by rw [g2]; exact I2.bare) (fun _ z => nomatch z)
      have e : s' = { s1 with heap := s'.heap, gens := s'.gens, drawn := s'.drawn, toks := s'.toks } := by
        obtain ⟨a1, a2, a3, a4, a5⟩ := s'
        have : a5 = s1.os := o2
        subst this
        rfl
      rw [e]
      exact ⟨.ref p, _, J, rfl, k _ _ _ (vp_lst sm hn (Reps.of_ints _))⟩
    · cases h2
  · cases e
theorem d_lset (hc : X.calm = true) (hg : Gl X "len") (hm : X.mg "len" = none) (hg2 : Gl X "set") (hm2 : X.mg "set" = none) (ha : PE X a (TOof X.K o))
    (na : starEach [a] X.env = (false, eval a X.env) :: starEach [] X.env := by rfl) : PE X (.Call (.Name "len" p) [.Call (.Name "set" p2) [a] [] q] [] pos) (TEof X.K (e1 opLS o)) := by
  refine ⟨fun pins s σ H Q I h => ?_⟩
  refine Call_ (ld_blt I hg hm (u := .builtin "len") (by first | rfl | decide +kernel) ?_ (by first | decide +kernel | decide) (by first | decide +kernel | decide))
  refine PyProof.Rows.callWith_builtin1 (PyProof.Rows.args_cons ?_ rfl) rfl rfl
  refine Call_ (ld_blt I hg2 hm2 PyProof.Rows.boot_set ?_)
  refine PyProof.Rows.callWith_type1 (PyProof.Rows.args_cons (thn (ha.run pins s σ H _ I (core1 h)) fun v s1 ⟨x, H1, I1, r1, q1⟩ => PyProof.Rows.args_nil ?_) na) na
  obtain ⟨F1, dx, d, t, sm, rb, e, k⟩ := q1
  unfold opLS at e
  split at e
  · simp only [Option.bind_eq_some_iff] at e
    obtain ⟨ns, h1, h2⟩ := e
    split at h2
    · rename_i hz
      cases h2
      obtain ⟨l, vs, rfl, hl, rr⟩ := rb.list sm
      cases r1
      rw [intsD_eq h1] at rr
      rw [rr.ints] at hl
      obtain ⟨_, its, n, rits, hlen, dd, slo, ho⟩ := rd_lst I1 hl
      refine set_of_ints (xs0 := its.toArray) ns (I1.ok.hd hc) ⟨_, ho, rfl, n, rfl⟩ (by simpa using vals_intsA rits) (Nat.lt_of_lt_of_le (Nat.succ_lt_succ hz) (Nat.le_of_lt scan2000)) fun h' tk c R hcn hk => PyProof.Rows.args_nil ?_
      obtain ⟨ks, nd, hkn, hks⟩ := keys_of R
      have hcc : c = (isortU ns).length := hkn.symm.trans (count_of nd hks)
      have I2 : Inv X pins σ H1 { s1 with heap := h', toks := tk } := I1.kept hk
      have RS : h'.SetOf (intKind X.prog X.w) _ _ c := R.setOf
      obtain ⟨o, es, ep, t, ho2, hex, hd, _, _, hb, hf, hn⟩ := RS
      refine call_len_set ho2 hex hd hf (by rw [hn] <;> omega) ⟨.int (isortU ns).length, H1, I2.tok _, ⟨_, by rw [hn, hcc]⟩, k F1 H1 _ (vp_sc sm (.int _))⟩
    · cases h2
  · cases e
end
end Dd
namespace Dd
open PySem PySem.Spec PyProof.Rows L2

abbrev WM := Ev → Option (List Res × Ev)
def wN : WM := fun e => some ([], e)
def wC (m : EM) (w : WM) : WM := fun e => (m e).bind fun x => (w x.2.2).map fun y => ((x.1, x.2.1) :: y.1, y.2)
inductive WR (K : PySem.W.Frag) (σ : Sg) (env env' : Ev) (H F' H' : Hp) : List V → List Res → Prop
  | nil : WR K σ env env' H F' H' [] []
  | cons {v : V} {vs : List V} {d : D} {t : Tg} {ts : List Res} : RepR K σ env env' H F' H' v d t → (t ≠ .sh → ∀ (j : Nat) d' t', ts[j]? = some (d', t') → t' ≠ .sh → vs[j]? ≠ some v) → WR K σ env env' H F' H' vs ts → WR K σ env env' H F' H' (v :: vs) ((d, t) :: ts)
structure WPost (K : PySem.W.Frag) (σ : Sg) (env : Ev) (F H : Hp) (ts : List Res) (env' : Ev) (F' H' : Hp) (vs : List V) : Prop where
  rl : Rl K F' H' σ env'
  ex : Ex σ env F H F' H'
  le : Le env env'
  wr : WR K σ env env' H F' H' vs ts
def TWof (K : PySem.W.Frag) (w : WM) : TA := fun σ H Q => ∃ F env, Rl K F H σ env ∧ ∃ ts env', w env = some (ts, env') ∧ ∀ F' H' vs, WPost K σ env F H ts env' F' H' vs → Q vs H'
theorem WR.get {K : PySem.W.Frag} {σ : Sg} {env env' : Ev} {H F' H' : Hp} : ∀ {vs : List V} {ts : List Res}, WR K σ env env' H F' H' vs ts → ∀ (j : Nat) d t, ts[j]? = some (d, t) → ∃ v, vs[j]? = some v ∧ RepR K σ env env' H F' H' v d t
  | _, _, .nil, j, d, t, h => by simp at h
  | _, _, .cons r _ _, 0, d, t, h => by simp at h; obtain ⟨rfl, rfl⟩ := h; exact ⟨_, rfl, r⟩
  | _, _, .cons _ _ w, j + 1, d, t, h => by
    obtain ⟨v, h1, h2⟩ := w.get j d t (by simpa using h)
    exact ⟨v, by simpa using h1, h2⟩
theorem RepR.back {K : PySem.W.Frag} {σ : Sg} {env env1 env2 : Ev} {F H F1 H1 F2 H2 : Hp} {v : V} {d : D} {t : Tg} (ex : Ex σ env F H F1 H1) (le : Le env env1) (q : RepR K σ env1 env2 H1 F2 H2 v d t) : RepR K σ env env2 H F2 H2 v d t := by
  cases t with
  | sh => exact q
  | ow =>
    obtain ⟨_, a, e, o, n, z⟩ := q
    exact ⟨rfl, a, e, o, n, z.imp (fun z => ex.dom a z) fun z => le.oaW z⟩
  | io =>
    obtain ⟨q, _⟩ := q
    cases q
theorem RepR.on {K : PySem.W.Frag} {σ : Sg} {env env1 env2 : Ev} {H F1 H1 F2 H2 : Hp} {v : V} {d : D} {t : Tg} (q : RepR K σ env env1 H F1 H1 v d t) (ex : Ex σ env1 F1 H1 F2 H2) (le : Le env1 env2) : RepR K σ env env2 H F2 H2 v d t := by
  cases t with
  | sh => exact Rep.mono ex.subF q
  | ow =>
    obtain ⟨_, a, e, ⟨f, o, ho, w⟩, n, z⟩ := q
    obtain ⟨k1, k2⟩ := ex.keep a o ho n
    exact ⟨rfl, a, e, ⟨k2 f w.nt, o, k1, w.mono ex.subF⟩, fun y => n (le.oa y), z⟩
  | io =>
    obtain ⟨q, _⟩ := q
    cases q
theorem WR.back {K : PySem.W.Frag} {σ : Sg} {env env1 env2 : Ev} {F H F1 H1 F2 H2 : Hp} (ex : Ex σ env F H F1 H1) (le : Le env env1) : ∀ {vs : List V} {ts : List Res}, WR K σ env1 env2 H1 F2 H2 vs ts → WR K σ env env2 H F2 H2 vs ts
  | _, _, .nil => .nil
  | _, _, .cons r n w => .cons (r.back ex le) n (WR.back ex le w)
section
variable {X : Cx} {e : Expr} {es : List Expr} {m : EM} {w : WM}
theorem qw_nil : PA X [] (TWof X.K wN) := pa_nil.mono fun σ H Q q => by
  obtain ⟨F, env, r, ts, env', h, k⟩ := q
  cases h
  exact k F H [] ⟨r, .refl, .refl, .nil⟩
theorem qw_cons (he : PE X e (TEof X.K m)) (hw : PA X es (TWof X.K w)) (hs : starEach (e :: es) X.env = (false, eval e X.env) :: starEach es X.env := by rfl) : PA X (e :: es) (TWof X.K (wC m w)) := (pa_cons he hw hs).mono fun σ H Q q => by
  obtain ⟨F, env, r, ts, env', h, k⟩ := q
  unfold wC at h
  simp only [Option.bind_eq_some_iff, Option.map_eq_some_iff] at h
  obtain ⟨⟨d, t, e1⟩, h1, ⟨ts', e2⟩, h2, h3⟩ := h
  cases h3
  refine ⟨F, env, r, d, t, e1, h1, fun F1 H1 v p => ⟨F1, e1, p.rl, ts', e2, h2, fun F2 H2 vs p2 => k F2 H2 (v :: vs) ⟨p2.rl, p.ex.then p.le p2.ex, p.le.trans p2.le, .cons (p.rep.on p2.ex p2.le) (fun nt j d' t' hj nt' hv => ?_) (p2.wr.back p.ex p.le)⟩⟩⟩
  obtain ⟨v', g1, g2⟩ := p2.wr.get j d' t' hj
  rw [hv] at g1
  cases g1
  have pr := p.rep
  cases t with
  | sh => exact nt rfl
  | io => cases pr.1
  | ow =>
    obtain ⟨_, a, ea, ⟨f, o, ho, wo⟩, n, _⟩ := pr
    cases t' with
    | sh => exact nt' rfl
    | io => cases g2.1
    | ow =>
      obtain ⟨_, b, eb, _, _, z⟩ := g2
      rw [ea] at eb
      cases eb
      rcases z with z | z
      · rw [ho] at z; cases z
      · exact n z.oa
end
def puts : List Nat → List Res → Ev → Option Ev
  | [], [], e => some e
  | i :: is, (d, t) :: ts, e => (put i d t e).bind (puts is ts)
  | _, _, _ => none
def sets : List Nat → List V → Sg → Sg
  | i :: is, v :: vs, σ => sets is vs (σ.set i (some v))
  | _, _, σ => σ
theorem SPost.put2 {K : PySem.W.Frag} {σ0 : Sg} {env0 : Ev} {F0 H0 : Hp} {σ : Sg} {env : Ev} {F H : Hp} {d : D} {t : Tg} {v : V} {i : Nat} (p : SPost K σ0 env0 F0 H0 env F H σ) (hi : i < env.length) (hio : ∀ d', env[i]? ≠ some (some (d', Tg.io)))
    (hv : match t with
      | .sh => Rep K F v d
      | _ => t = .ow ∧ ∃ a, v = .ref a ∧ Ow K F H a d ∧ ¬ Oa σ env a ∧ (H0 a = none ∨ OaW σ0 env0 a)) :
    SPost K σ0 env0 F0 H0 (env.set i (some (d, t))) F H (σ.set i (some v)) ∧ ∀ a, Oa (σ.set i (some v)) (env.set i (some (d, t))) a → Oa σ env a ∨ (t = .ow ∧ v = .ref a) := by
  obtain ⟨r2, o1, o2⟩ := p.rl.put (v := v) (d := d) (t := t) hi hio (by
    cases t with
    | sh => exact hv
    | ow => exact ⟨rfl, hv.2.choose, hv.2.choose_spec.1, hv.2.choose_spec.2.1, hv.2.choose_spec.2.2.1⟩
    | io => cases hv.1)
  refine ⟨⟨r2, p.ex, by rw [List.length_set]; exact p.len, fun a h => ?_, fun j d' h => ?_, fun j d' h => ?_⟩, o1⟩
  · rcases o2 a h with h | ⟨ht, hva⟩
    · exact p.own a h
    · subst ht
      obtain ⟨_, b, q, _, _, z⟩ := hv
      rw [hva] at q
      cases q
      exact z.symm
  · have hj : i ≠ j := fun z => by
      subst z
      rw [List.getElem?_set_self hi] at h
      cases h
      cases hv.1
    rw [List.getElem?_set_ne hj] at h ⊢
    exact p.io j d' h
  · obtain ⟨d2, h2⟩ := p.io2 j d' h
    have hj : i ≠ j := fun z => by
      subst z
      exact hio d2 h2
    exact ⟨d2, by rw [List.getElem?_set_ne hj]; exact h2⟩
theorem SPost.puts {K : PySem.W.Frag} {σ0 : Sg} {env0 : Ev} {F0 H0 : Hp} {env1 : Ev} {F H : Hp} : ∀ (vs : List V) (ts : List Res) (is : List Nat) (σ : Sg) (env env' : Ev), WR K σ0 env0 env1 H0 F H vs ts → SPost K σ0 env0 F0 H0 env F H σ →
    (∀ (j : Nat) d t a, ts[j]? = some (d, t) → t ≠ .sh → vs[j]? = some (V.ref a) → ¬ Oa σ env a) → puts is ts env = some env' → SPost K σ0 env0 F0 H0 env' F H (sets is vs σ)
  | _, _, [], _, _, _, .nil, p, _, h => by cases h; exact p
  | _, _, _ :: _, _, _, _, .nil, p, _, h => by cases h
  | _, _, [], _, _, _, .cons _ _ _, p, _, h => by cases h
  | v :: vs, (d, t) :: ts, i :: is, σ, env, env', .cons r n w, p, no, h => by
    simp only [Dd.puts, Option.bind_eq_some_iff] at h
    obtain ⟨e2, h1, h2⟩ := h
    obtain ⟨h3, h4, h5⟩ := put_inv h1
    subst h3
    obtain ⟨p2, o⟩ := p.put2 (v := v) (d := d) (t := t) h4 h5 (by
      cases t with
      | sh => exact r
      | ow =>
        obtain ⟨_, a, ea, ow, _, z⟩ := r
        exact ⟨rfl, a, ea, ow, no 0 d .ow a rfl (by decide) (by rw [ea]; rfl), z⟩
      | io => cases r.1)
    refine SPost.puts vs ts is _ _ _ w p2 (fun j d' t' a hj nt hv z => ?_) h2
    rcases o a z with z | ⟨e1, e2⟩
    · exact no (j + 1) d' t' a (by simpa using hj) nt (by simpa using hv) z
    · subst e1 e2
      exact n (by decide) j d' t' hj nt hv
def sPar (is : List Nat) (w : WM) : SM := fun e => (w e).bind fun x => (puts is x.1 x.2).map .nx
theorem par_core {K : PySem.W.Frag} {is : List Nat} {w : WM} {D' : Ends} {σ : Sg} {H : Hp} (h : TSof K (sPar is w) D' σ H) : TWof K w σ H fun vs H1 => vs.length = is.length ∧ D'.nx (sets is vs σ) H1 := by
  obtain ⟨F, env, r, out, e, wk⟩ := h
  unfold sPar at e
  simp only [Option.bind_eq_some_iff, Option.map_eq_some_iff] at e
  obtain ⟨⟨ts, e1⟩, h1, e2, h2, h3⟩ := e
  subst h3
  refine ⟨F, env, r, ts, e1, h1, fun F1 H1 vs p => ⟨?_, wk F1 H1 _ (SPost.puts _ _ _ _ _ _ p.wr (.of_expr p.rl p.ex p.le) (fun j d t a hj nt hv z => ?_) h2)⟩⟩
  · have l1 : vs.length = ts.length := by
      have q := p.wr
      clear h1 h2 p wk
      induction q with
      | nil => rfl
      | cons _ _ _ ih => simp [ih]
    have l2 : ∀ {is : List Nat} {ts : List Res} {e e' : Ev}, puts is ts e = some e' → is.length = ts.length := by
      intro is
      induction is with
      | nil => intro ts e e' h; cases ts with
        | nil => rfl
        | cons _ _ => cases h
      | cons i is ih => intro ts e e' h; cases ts with
        | nil => cases h
        | cons t ts =>
          obtain ⟨d, t⟩ := t
          simp only [Dd.puts, Option.bind_eq_some_iff] at h
          obtain ⟨_, _, h⟩ := h
          simp [ih h]
    rw [l1, l2 h2]
  · obtain ⟨v, g1, g2⟩ := p.wr.get j d t hj
    rw [hv] at g1
    cases g1
    cases t with
    | sh => exact nt rfl
    | io => cases g2.1
    | ow =>
      obtain ⟨_, b, eb, _, n, _⟩ := g2
      cases eb
      exact n z
section
variable {X : Cx} {i j l o : Nat} {x y z q : Str} {a b c d : Expr} {w : WM} {px py pz pq pt pos : Pos} {kt k2 pt2}
theorem z_par2 (hc : X.calm = true) (hN : X.N.Nodup) (hi : X.N[i]? = some x) (hj : X.N[j]? = some y) (hij : i ≠ j)
    (hx : X.env.scope.names.lookup x = some .local) (hy : X.env.scope.names.lookup y = some .local) (ha : PA X [a, b] (TWof X.K w))
    (hw : swappedStores [.Tuple [.Name x px, .Name y py] kt pt] (.Tuple [a, b] k2 pt2) X.env = pure (some [x, y]))
    (hs : swapsWithSole [.Tuple [.Name x px, .Name y py] kt pt] (.Tuple [a, b] k2 pt2) pos.line X.env = pure false := by rfl) :
    PS X (.Assign [.Tuple [.Name x px, .Name y py] kt pt] (.Tuple [a, b] k2 pt2) pos) (TSof X.K (sPar [i, j] w)) := (ps_par hc hN hi hj hij hx hy ha hw hs).mono fun D' σ H h => by
  obtain ⟨F, env, r, ts, e1, h1, k⟩ := par_core h
  refine ⟨F, env, r, ts, e1, h1, fun F1 H1 vs p => ?_⟩
  obtain ⟨h2, h3⟩ := k F1 H1 vs p
  match vs, h2, h3 with
  | [v1, v2], _, h3 => exact ⟨v1, v2, rfl, h3⟩
theorem z_par3 (hc : X.calm = true) (hN : X.N.Nodup) (hi : X.N[i]? = some x) (hj : X.N[j]? = some y) (hl : X.N[l]? = some z) (hij : i ≠ j) (hil : i ≠ l) (hjl : j ≠ l)
    (hx : X.env.scope.names.lookup x = some .local) (hy : X.env.scope.names.lookup y = some .local) (hz : X.env.scope.names.lookup z = some .local) (ha : PA X [a, b, c] (TWof X.K w))
    (hw : swappedStores [.Tuple [.Name x px, .Name y py, .Name z pz] kt pt] (.Tuple [a, b, c] k2 pt2) X.env = pure (some [x, y, z]))
    (hs : swapsWithSole [.Tuple [.Name x px, .Name y py, .Name z pz] kt pt] (.Tuple [a, b, c] k2 pt2) pos.line X.env = pure false := by rfl) :
    PS X (.Assign [.Tuple [.Name x px, .Name y py, .Name z pz] kt pt] (.Tuple [a, b, c] k2 pt2) pos) (TSof X.K (sPar [i, j, l] w)) := (ps_par3 hc hN hi hj hl hij hil hjl hx hy hz ha hw hs).mono fun D' σ H h => by
  obtain ⟨F, env, r, ts, e1, h1, k⟩ := par_core h
  refine ⟨F, env, r, ts, e1, h1, fun F1 H1 vs p => ?_⟩
  obtain ⟨h2, h3⟩ := k F1 H1 vs p
  match vs, h2, h3 with
  | [v1, v2, v3], _, h3 => exact ⟨v1, v2, v3, rfl, h3⟩
/-- four at once -/
theorem z_par4 (hc : X.calm = true) (hN : X.N.Nodup) (hi : X.N[i]? = some x) (hj : X.N[j]? = some y) (hl : X.N[l]? = some z) (ho : X.N[o]? = some q) (hij : i ≠ j) (hil : i ≠ l) (hjl : j ≠ l) (hio : i ≠ o) (hjo : j ≠ o) (hlo : l ≠ o)
    (hx : X.env.scope.names.lookup x = some .local) (hy : X.env.scope.names.lookup y = some .local) (hz : X.env.scope.names.lookup z = some .local) (hq : X.env.scope.names.lookup q = some .local) (ha : PA X [a, b, c, d] (TWof X.K w))
    (hw : swappedStores [.Tuple [.Name x px, .Name y py, .Name z pz, .Name q pq] kt pt] (.Tuple [a, b, c, d] k2 pt2) X.env = pure (some [x, y, z, q]))
    (hs : swapsWithSole [.Tuple [.Name x px, .Name y py, .Name z pz, .Name q pq] kt pt] (.Tuple [a, b, c, d] k2 pt2) pos.line X.env = pure false := by rfl) :
    PS X (.Assign [.Tuple [.Name x px, .Name y py, .Name z pz, .Name q pq] kt pt] (.Tuple [a, b, c, d] k2 pt2) pos) (TSof X.K (sPar [i, j, l, o] w)) := by
  refine ⟨fun pins s σ H D I h => ?_⟩
  rw [exec_Assign_arm]
  refine wpAny_bind (wpAny_standAt ?_)
  rw [hs]
  refine wpAny_bind (wpAny_pure ?_)
  rw [if_neg (by decide)]
  refine wpAny_bind (Tuple_ (thn (ha.run _ pins s σ H _ I (par_core h)) fun us s1 ⟨vs, H1, I1, r1, el, q1⟩ => ?_))
  obtain ⟨v1, v2, v3, v4, rfl⟩ : ∃ v1 v2 v3 v4, vs = [v1, v2, v3, v4] := by
    match vs, el with
    | [v1, v2, v3, v4], _ => exact ⟨v1, v2, v3, v4, rfl⟩
  obtain ⟨u1, u2, u3, u4, rfl, t1, t2, t3, t4⟩ : ∃ u1 u2 u3 u4, us = [u1, u2, u3, u4] ∧ RelV v1 u1 ∧ RelV v2 u2 ∧ RelV v3 u3 ∧ RelV v4 u4 := by
    cases r1 with
    | cons p1 q1 =>
      cases q1 with
      | cons p2 q2 =>
        cases q2 with
        | cons p3 q3 =>
          cases q3 with
          | cons p4 q4 =>
            cases q4
            exact ⟨_, _, _, _, rfl, p1, p2, p3, p4⟩
  refine wpAny_newObj_type ?_ (by show 4 ≤ sizeLine; decide)
  have I2 : Inv X pins σ H1 { s1 with heap := s1.heap.push { cls := .type "tuple", data := .seq [u1, u2, u3, u4].toArray } } := I1.kept (t' := s1.toks) fun g u e => Heap.get?_push_of_some _ e
  rw [hw]
  refine wpAny_bind (wpAny_pure ?_)
  show wpAny (model X.prog X.w) X.A (do rule "assign.swapped-stores"; let items ← unpackItems (.ref s1.heap.objs.size) 4 none; assignInOrder [fun v => bindName X.env q v, fun v => bindName X.env z v, fun v => bindName X.env y v, fun v => bindName X.env x v] items.reverse; pure Flow.next) _ _ _
  refine wpAny_bind (wpAny_rule (wpAny_bind (unpackItems_tuple (items := #[u1, u2, u3, u4]) (I.ok.hd hc) (IsTup.new s1.heap _) fun h' hx' => ?_)))
  have I3 := I2.kept (h' := h') (t' := s1.toks) fun g u e => hx' g u (Nat.ne_of_lt (Heap.lt_size e)) e
  show wpAny _ _ (assignInOrder [fun v => bindName X.env q v, fun v => bindName X.env z v, fun v => bindName X.env y v, fun v => bindName X.env x v] [u4, u3, u2, u1] >>= fun _ => pure Flow.next) _ _ _
  refine wpAny_bind (assignInOrder_cons (wpAny_bindName (store_ok I3 hN ho (.inl hq) t4 (fun s2 I4 => ?_) (.inr hq))))
  refine assignInOrder_cons (wpAny_bindName (store_ok I4 hN hl (.inl hz) t3 (fun s3 I5 => ?_) (.inr hz)))
  refine assignInOrder_cons (wpAny_bindName (store_ok I5 hN hj (.inl hy) t2 (fun s4 I6 => ?_) (.inr hy)))
  refine assignInOrder_cons (wpAny_bindName (store_ok I6 hN hi (.inl hx) t1 (fun s5 I7 => assignInOrder_nil (wpAny_pure ?_)) (.inr hx)))
  have eq4 : ((((σ.set o (some v4)).set l (some v3)).set j (some v2)).set i (some v1)) = sets [i, j, l, o] [v1, v2, v3, v4] σ := by
    show _ = (((σ.set i (some v1)).set j (some v2)).set l (some v3)).set o (some v4)
    rw [List.set_comm _ _ (Ne.symm hij), List.set_comm _ _ (Ne.symm hil), List.set_comm _ _ (Ne.symm hio), List.set_comm _ _ (Ne.symm hjl), List.set_comm _ _ (Ne.symm hjo), List.set_comm _ _ (Ne.symm hlo)]
  rw [eq4] at I7
  exact ⟨_, H1, I7, q1⟩
end
/-- x op= e of shared values -/
def sAug (i : Nat) (f : D → D → Option Res) (o : OM) : SM := fun e => match sl e i with
  | some (a, .sh) => (o e).bind fun y => (rd y.1 y.2).bind fun b => (f a b).bind fun z => if z.2 = .sh then (put i z.1 .sh y.2).map .nx else none
  | _ => none
section
variable {X : Cx} {i : Nat} {x : Str} {e : Expr} {op : Operator} {f : D → D → Option Res} {o : OM} {pos pos' : Pos}
theorem z_aug (hN : X.N.Nodup) (hi : X.N[i]? = some x) (hx : Loc X.env.scope x) (he : PE X e (TOof X.K o)) (ho : OpR X (inplaceOp op) (rD2 X.K f)) (hf : X.fn x = true ∨ X.env.scope.names.lookup x = some .local := by first | exact .inl rfl | exact .inr rfl | assumption) :
    PS X (.AugAssign (.Name x pos') op e pos) (TSof X.K (sAug i f o)) :=
  (ps_aug hN hi hx he (ti := fun x y H R => rD2 X.K f x y H R) (fun pins s σ H x y v u R I rx ry q => ho pins s σ H x y v u R I rx ry q) hf).mono fun D' σ H h => by
  obtain ⟨F, env, r, out, e, w⟩ := h
  unfold sAug at e
  split at e
  · rename_i a hs
    have hs := sl_iff.mp hs
    simp only [Option.bind_eq_some_iff] at e
    obtain ⟨⟨r1, e1⟩, h1, b, h2, ⟨z, t⟩, h3, h4⟩ := e
    split at h4
    · rename_i ht
      have ht : t = .sh := ht
      subst ht
      simp only [Option.map_eq_some_iff] at h4
      obtain ⟨e2, h5, h6⟩ := h4
      subst h6
      obtain ⟨h7, h8, h9⟩ := put_inv h5
      subst h7
      obtain ⟨v, hv, rv⟩ := r.sh i a hs
      refine ⟨v, hv, F, env, r, r1, e1, h1, fun F1 H1 y p => ⟨F1, a, b, z, .sh, p.rl.sub, .inl (rv.mono p.ex.subF), (p.late F1 H1 e1 b p.rl .refl .refl h2).b, h3, fun F2 H2 u q => ?_⟩⟩
      exact w F2 H2 _ (.put h8 h9 ((q.epost p.rl).after p.ex p.le))
    · cases h4
  · cases e
end
end Dd
namespace Dd
open PySem PySem.Spec PyProof.Rows L2
section
variable {X : Cx}
def dAddI : D → D → Option Res
  | .int a, .int b => some (.int (a + b), .sh)
  | _, _ => none
theorem oi_add : OpR X (inplaceOp .Add) (rD2 X.K dAddI) := or_of2 iop_add fun x y H Q h => by
  obtain ⟨F, dx, dy, d, t, sm, rx, ry, e, k⟩ := h
  unfold dAddI at e
  split at e
  · cases e
    exact ⟨_, _, rx.int, ry.int, k F H _ (vp_sc sm (.int _))⟩
  · cases e
theorem oi_sub : OpR X (inplaceOp .Sub) (rD2 X.K dSub) := or_of2 iop_sub fun x y H Q h => by
  obtain ⟨F, dx, dy, d, t, sm, rx, ry, e, k⟩ := h
  unfold dSub at e
  split at e
  · cases e
    exact ⟨_, _, rx.int, ry.int, k F H _ (vp_sc sm (.int _))⟩
  · cases e
theorem iop_mulW : OpR X (inplaceOp .Mult) (rI CMulW fun i j => .int (i * j)) := opI fun _ _ _ _ _ _ _ hc q => imul_int q hc.ok
theorem oi_mul : OpR X (inplaceOp .Mult) (rD2 X.K dMul) := or_of2 iop_mulW fun x y H Q h => by
  obtain ⟨F, dx, dy, d, t, sm, rx, ry, e, k⟩ := h
  unfold dMul at e
  split at e
  · split at e
    · rename_i hz
      cases e
      exact ⟨_, _, rx.int, ry.int, hz, k F H _ (vp_sc sm (.int _))⟩
    · cases e
  · cases e
theorem ext_list (l : Addr) (us : Array Value) (n : Nat) (b : Addr) (ws : Array Value) (m : Nat) (dd : Option Addr) (so : Array (Option Value)) (h0 : ¬(!us.isEmpty && Builtin.List.listTooLong (us.size + ws.size)) = true) (h1 : us.size ≤ sizeLine) (h2 : us.size + ws.size ≤ sizeLine + 1) :
    Meets (Builtin.«list.extend» ⟨[.ref l, .ref b], []⟩) (fun _ R s => s.heap.get? l = some { cls := .type "list", dict := none, data := .seq us n, slots := #[] } ∧ s.heap.get? b = some { cls := .type "list", dict := dd, data := .seq ws m, slots := so } ∧ R (.ok (.ret Value.none)) { s with heap := s.heap.update l (Obj.mapSeq fun x => x ++ ws), toks := s.toks }) :=
  .of_wp fun P w A R s h => by
    obtain ⟨hp, g, d, tk, os⟩ := s
    obtain ⟨q1, q2, h⟩ := h
    have k1 := AutoSeq1.idx_int
    have k2 := AutoSeq1.sub_tuple_tuple
    have k3 := AutoSeq1.sub_list_list
    have k4 := AutoSeq1.sub_tuple_list
    have k5 := AutoSeq1.sub_list_tuple
    have k6 : (us ++ ws).size ≤ sizeLine + 1 := by rw [Array.size_append]; exact h2
    wp_walk using (wpAny_updateSeq q1 rfl (hz := h1) (_hz' := k6)), AutoSeq1.wpAny_loadPart' q1, AutoSeq1.wpAny_loadPart' q2
    exact ⟨_, rfl, h⟩
theorem mt_ext : MtM X "list.extend" (fun x xs H Q => ∃ l b vs ws, x = .ref l ∧ xs = [.ref b] ∧ H l = some (.lst vs) ∧ SqL X.K H b ws ∧ vs.length + ws.length ≤ sizeLine ∧ Q .non (upd H l (.lst (vs ++ ws)))) := by
  intro pins s σ H x xs v us Q I rx rv h
  obtain ⟨l, b, vs, ws, rfl, rfl, hH, hB, hz, q⟩ := h
  cases rx
  obtain ⟨u, rfl, ru⟩ := rv.one
  cases ru
  obtain ⟨z, its, n, r, hl, e⟩ := I.lstM hH
  obtain ⟨z2, its2, n2, r2, hl2, dd2, sl2, e2⟩ := rd_lst I hB
  have hsz : its.toArray.size + its2.toArray.size ≤ sizeLine := by rw [List.size_toArray, List.size_toArray]; omega
  have hlong : ¬ (!its.toArray.isEmpty && Builtin.List.listTooLong (its.toArray.size + its2.toArray.size)) = true := by
    rw [notLongL hsz, Bool.and_false]
    exact Bool.false_ne_true
  refine call_meets PySem.F.slot_list_extend ⟨_, e, rfl⟩ PySem.F.entry_list_extend (PySem.F.args_list_extend_2 _ _)
    (ext_list l its.toArray n b its2.toArray n2 dd2 sl2 hlong (by rw [List.size_toArray]; omega) (by omega)) ⟨e, e2, ?_⟩
  refine ⟨.non, _, I.lset (its' := its ++ its2) (t' := s.toks) hH e (by simp) (r.append r2) ?_, rfl, q⟩
  rw [List.length_append]
  omega
def eExt (i : Nat) (o : OM) : EM := fun e => match own i e with
  | some (.list _, _) => (o e).bind fun x => (rd x.1 x.2).bind fun y => match y, own i x.2 with
    | .list ws, some (.list ds, t) => if ds.length + ws.length ≤ lim then some (.none, .sh, x.2.set i (some (.list (ds ++ ws), t))) else none
    | _, _ => none
  | _ => none
variable {a b e : Expr} {pos apos cpos : Pos} {o : OM} {i : Nat}
theorem d_ext (ho : PE X a (tVar i)) (he : PE X e (TOof X.K o)) (hbase : attributeBase a "extend" X.env (eval a X.env) = eval a X.env := by rfl)
    (hfew : ((backTo cpos (starEach [e] X.env)).all (fun x => !x.1) && (backToKw cpos (keywordEach [] X.env)).all (fun x => x.1.isSome) && decide (([e] : List Expr).length + ([] : List Keyword).length + (if ([] : List Keyword).isEmpty then 0 else 1) < 30)) = true := by rfl)
    (hline : (apos.endLine == cpos.line) = true := by rfl) (hs : starEach [e] X.env = (false, eval e X.env) :: starEach [] X.env := by rfl) :
    PE X (.Call (.Attribute a "extend" apos) [e] [] cpos) (TEof X.K (eExt i o)) := (pe_bm PySem.F.plainAttrs_list PySem.F.slot_list_extend PySem.F.type_list_extend mt_ext ho (pa_cons he pa_nil hs) hbase hfew hline hs (by rfl)).mono fun σ H Q q => by
  obtain ⟨F, env, r, d, t, env', e, k⟩ := q
  unfold eExt at e
  split at e
  · rename_i ds0 t0 h0
    simp only [Option.bind_eq_some_iff] at e
    obtain ⟨⟨r1, e1⟩, h1, y, h2, h3⟩ := e
    split at h3
    · rename_i ws ds t2 h4
      split at h3
      · rename_i hz
        cases h3
        obtain ⟨p, vs0, hp, hH, _⟩ := r.lst h0
        refine ⟨.ref p, hp, .inl ⟨rfl, vs0, .of hH⟩, F, env, r, r1, e1, h1, fun F1 H1 v q => ?_⟩
        obtain ⟨p', vs, hp', hH1, rv⟩ := q.rl.lst h4
        rw [hp] at hp'
        cases hp'
        obtain ⟨h5, h6⟩ := own_inv h4
        obtain ⟨b, us, rfl, hb, rw'⟩ := ((q.late F1 H1 e1 _ q.rl .refl .refl h2).b).list q.rl.sub
        exact ⟨p, b, vs, us, rfl, rfl, hH1, hb, (by rw [rv.len, rw'.len]; exact lim_line hz), k F1 _ .non ((write_post q.rl h6 h5 hp (.lst (rv.append rw')) .non).after q.ex q.le)⟩
      · cases h3
    · cases h3
  · cases e
def fLr1 : D → Option Res
  | .int n => if -(lim : Int) ≤ n ∧ n ≤ lim then some (.list (rngD 0 n.toNat), .ow) else none
  | _ => none
def fLr2 : D → D → Option Res
  | .int a, .int b => if (-(lim : Int) ≤ a ∧ a ≤ lim) ∧ -(lim : Int) ≤ b ∧ b ≤ lim then some (.list (rngD a (b - a).toNat), .ow) else none
  | _, _ => none
theorem rg_reps {K : PySem.W.Frag} {F : Hp} (a b : Int) : Reps K F (rgV a b) (rngD a (b - a).toNat) := by
  unfold rgV rngD
  generalize List.range (b - a).toNat = l
  induction l with
  | nil => exact .nil
  | cons i l ih => exact .cons (.int _) ih
theorem rg_ok {a b : Int} (h1 : -(lim : Int) ≤ a) (h2 : a ≤ lim) (h3 : -(lim : Int) ≤ b) (h4 : b ≤ lim) : RgOk a b := by
  unfold lim at *
  exact ⟨by omega, by omega, by omega, by omega, by omega⟩
variable {p p2 q : Pos} {o1 o2 : OM}
theorem d_lr1 (hc : X.calm = true) (hg : Gl X "list") (hm : X.mg "list" = none) (hg2 : Gl X "range") (hm2 : X.mg "range" = none) (ha : PE X a (TOof X.K o))
    (na : starEach [Expr.Call (.Name "range" p2) [a] [] q] X.env = (false, eval (Expr.Call (.Name "range" p2) [a] [] q) X.env) :: starEach [] X.env := by rfl) (nb : starEach [a] X.env = (false, eval a X.env) :: starEach [] X.env := by rfl) :
    PE X (.Call (.Name "list" p) [.Call (.Name "range" p2) [a] [] q] [] pos) (TEof X.K (e1 fLr1 o)) := (pe_listRg hc hg hm (prg_1 hg2 hm2 ha nb) na).mono fun σ H Q h => by
  refine TOof.mono' (core1 h) fun v H1 ⟨F, dx, d, t, sm, rb, e, k⟩ => ?_
  unfold fLr1 at e
  split at e
  · rename_i n
    split at e
    · rename_i hz
      cases e
      refine ⟨n, rb.int, rg_ok (by unfold lim; omega) (by unfold lim; omega) hz.1 hz.2, fun q hq => k _ _ _ (vp_lst sm hq ?_)⟩
      have := rg_reps (K := X.K) (F := F) 0 n
      rw [Int.sub_zero] at this
      exact this
    · cases e
  · cases e
theorem d_lr2 (hc : X.calm = true) (hg : Gl X "list") (hm : X.mg "list" = none) (hg2 : Gl X "range") (hm2 : X.mg "range" = none) (ha : PE X a (TOof X.K o1)) (hb : PE X b (TOof X.K o2))
    (na : starEach [Expr.Call (.Name "range" p2) [a, b] [] q] X.env = (false, eval (Expr.Call (.Name "range" p2) [a, b] [] q) X.env) :: starEach [] X.env := by rfl) (nb : starEach [a, b] X.env = (false, eval a X.env) :: starEach [b] X.env := by rfl) (nc : starEach [b] X.env = (false, eval b X.env) :: starEach [] X.env := by rfl) (hpl : (backTo q (starEach [b] X.env)).any (·.1) = false := by rfl) :
    PE X (.Call (.Name "list" p) [.Call (.Name "range" p2) [a, b] [] q] [] pos) (TEof X.K (e2 fLr2 o1 o2)) := (pe_listRg hc hg hm (prg_2 hg2 hm2 ha hb nb nc hpl) na).mono fun σ H Q h => by
  have z := core2 h
  refine TOof.mono' z fun v H1 z1 => TOof.mono' z1 fun w H2 ⟨F, dx, dy, d, t, sm, rx, ry, e, k⟩ => ?_
  unfold fLr2 at e
  split at e
  · split at e
    · rename_i hz
      cases e
      exact ⟨_, _, rx.int, ry.int, rg_ok hz.1.1 hz.1.2 hz.2.1 hz.2.2, fun q hq => k _ _ _ (vp_lst sm hq (rg_reps _ _))⟩
    · cases e
  · cases e
end
end Dd
namespace Dd
open PySem PySem.Spec PyProof.Rows L2

structure IoPost (K : PySem.W.Frag) (F H F' H' : Hp) (a : Addr) (v : V) (r : D) (t : Tg) (d' : D) : Prop where
  sub : Same F' H'
  subF : Same F F'
  keep : ∀ b o, b ≠ a → H b = some o → H' b = some o ∧ Nf o (F b) (F' b)
  own : Ow K F' H' a d'
  rep : match t with
    | .sh => Rep K F' v r
    | _ => t = .ow ∧ ∃ b, v = .ref b ∧ H b = none ∧ Ow K F' H' b r
/-- the promise of a def whose first argument is the caller's own object -/
def spI (K : PySem.W.Frag) (m : D → List D → Option (Res × D)) : Sp := fun vs H Q _ => ∃ F a ws d ds r t d', vs = V.ref a :: ws ∧ Same F H ∧ Ow K F H a d ∧ Reps K F ws ds ∧ m d ds = some ((r, t), d') ∧ ∀ F' H' v, IoPost K F H F' H' a v r t d' → Q v H'
def ev0I (n p : Nat) (d : D) (ds : List D) : Ev := some (d, Tg.io) :: (ds.map (fun d => some (d, Tg.sh)) ++ List.replicate (n - p) none)
def mFnI (n p : Nat) (b : SM) (d : D) (ds : List D) : Option (Res × D) := if ds.length + 1 = p then (b (ev0I n p d ds)).bind fun o => match o with
    | .rt r t e => (own 0 e).map fun q => ((r, t), q.1)
    | .nx e => (own 0 e).map fun q => ((.none, .sh), q.1)
    | _ => none
  else none
def eCallI (i : Nat) (m : D → List D → Option (Res × D)) (a : AM) : EM := fun e => (own i e).bind fun _ => (a e).bind fun x => (rds x.1 x.2).bind fun ds => (fzs x.1 x.2).bind fun e3 => (own i e3).bind fun p => (m p.1 ds).map fun z => (z.1.1, z.1.2, e3.set i (some (z.2, p.2)))

theorem call_coreI {K : PySem.W.Frag} {m : D → List D → Option (Res × D)} {i : Nat} {dd : List D} {dvs : List V} {E : XK} {am : AM} {σ : Sg} {H : Hp} {Q : VK} (hdd : ∀ F, Reps K F dvs dd) (h : TEof K (eCallI i (fun d ds => m d (ds ++ dd)) am) σ H Q) :
    tCall (spI K m) dvs E (L2.tCons (tVar i) (TAof K am)) σ H Q := by
  obtain ⟨F, env, r, res, t, env', e, k⟩ := h
  unfold eCallI at e
  simp only [Option.bind_eq_some_iff, Option.map_eq_some_iff] at e
  obtain ⟨⟨d0, t0⟩, h0, ⟨rs, e2⟩, h1, ds, h2, e3, h5, ⟨d, tg⟩, h6, ⟨⟨r1, t1⟩, d'⟩, h3, h4⟩ := e
  cases h4
  obtain ⟨g1, g2⟩ := own_inv h0
  obtain ⟨a, ha, _⟩ := r.ow i d0 t0 g2 g1
  refine ⟨.ref a, ha, F, env, r, rs, e2, h1, fun F2 H2 vs p => ?_⟩
  have ra := p.late F2 H2 e2 ds p.rl .refl .refl h2
  obtain ⟨g3, g4⟩ := own_inv h6
  obtain ⟨le3, fz, fz2⟩ := fzs_spec h5
  generalize hL : Lent K σ env H e2 F2 H2 rs = L
  have hF2 : ∀ b o, F2 b = some o → ¬ L b := fun b o q hb => by
    subst hL
    obtain ⟨⟨_, f, _⟩, _⟩ := hb
    rw [q] at f
    cases f
  have s1 : Same F2 (lend F2 H2 L) := fun b o q => by rw [lend_no (hF2 b o q)]; exact q
  have s2 : Same (lend F2 H2 L) H2 := fun b o q => by
    by_cases hb : L b
    · rw [lend_yes hb] at q; exact q
    · rw [lend_no hb] at q; exact p.rl.sub b o q
  have rr : Reps K (lend F2 H2 L) (vs ++ dvs) (ds ++ dd) := (lend_reps s1 ra fun b hb => lend_yes (by rw [← hL]; exact hb)).append (hdd _)
  have noL : ∀ (j : Nat) (d : D) (t : Tg) (b : Addr), t ≠ Tg.sh → e3[j]? = some (some (d, t)) → σ[j]? = some (some (V.ref b)) → e2[j]? = some (some (d, t)) ∧ ¬ L b := fun j d t b nt ej sj => by
    have e2j : e2[j]? = some (some (d, t)) := by
      rcases fz j _ ej with z | ⟨z, _⟩
      · exact z
      · exact absurd z nt
    refine ⟨e2j, fun hb => ?_⟩
    subst hL
    obtain ⟨_, ⟨i, d1, t1, mi, n1, ei, si⟩ | ⟨no, _⟩⟩ := hb
    · have : i = j := p.rl.sep i j d1 d t1 t b n1 nt ei e2j si sj
      subst this
      exact nt (fz2 i mi d t ej)
    · exact no ⟨j, d, t, nt, e2j, sj⟩
  obtain ⟨i2, nLa⟩ := noL i d tg a g4 g3 ha
  obtain ⟨a', ha', fa, o, ho, wo⟩ := p.rl.ow i d tg g4 i2
  rw [ha] at ha'
  cases ha'
  refine ⟨lend F2 H2 L, a, vs ++ dvs, d, ds ++ dd, r1, t1, d', rfl, s2, ⟨by rw [lend_no nLa]; exact fa, o, ho, wo.mono s1⟩, rr, h3, fun F' H' v q => ?_⟩
  have hlt : i < e3.length := get_lt g3
  have g5 : (e3.set i (some (d', tg)))[i]? = some (some (d', tg)) := List.getElem?_set_self hlt
  have oth : ∀ {j : Nat}, i ≠ j → (e3.set i (some (d', tg)))[j]? = e3[j]? := fun h => List.getElem?_set_ne h
  have le4 : Le e2 (e3.set i (some (d', tg))) := le3.trans (le_write g3)
  have neA : ∀ (j : Nat) (d1 : D) (t1 : Tg) (b : Addr), i ≠ j → t1 ≠ Tg.sh → e3[j]? = some (some (d1, t1)) → σ[j]? = some (some (V.ref b)) → b ≠ a := fun j d1 t1 b hij n1 ej sj hb => by
    subst hb
    obtain ⟨z, _⟩ := noL j d1 t1 b n1 ej sj
    exact hij (p.rl.sep i j d d1 tg t1 b g4 n1 i2 z ha sj)
  have rl3 : Rl K F' H' σ (e3.set i (some (d', tg))) := by
    refine ⟨q.sub, by rw [List.length_set, le3.len]; exact p.rl.len, fun j d1 ej => ?_, fun j d1 t1 n1 ej => ?_, fun j l d1 d2 t1 t2 b n1 n2 e1 e2' s1' s2' => ?_⟩
    · by_cases hij : i = j
      · subst hij
        rw [g5] at ej
        cases ej
        exact absurd rfl g4
      · rw [oth hij] at ej
        rcases fz j _ ej with z | ⟨_, mj, z⟩
        · obtain ⟨w, w1, w2⟩ := p.rl.sh j d1 z
          exact ⟨w, w1, (w2.mono s1).mono q.subF⟩
        · obtain ⟨b, w1, f, o, ho, w⟩ := p.rl.ow j d1 .ow (by decide) z
          refine ⟨_, w1, w.rep (s1.trans q.subF) (q.subF b o ?_)⟩
          rw [lend_yes]
          · exact ho
          · rw [← hL]
            exact ⟨⟨d1, f, o, ho, w⟩, .inl ⟨j, d1, .ow, mj, by decide, z, w1⟩⟩
    · by_cases hij : i = j
      · subst hij
        rw [g5] at ej
        cases ej
        exact ⟨a, ha, q.own⟩
      · rw [oth hij] at ej
        have e2j : e2[j]? = some (some (d1, t1)) := by
          rcases fz j _ ej with z | ⟨z, _⟩
          · exact z
          · exact absurd z n1
        obtain ⟨b, w1, f, o, ho, w⟩ := p.rl.ow j d1 t1 n1 e2j
        obtain ⟨_, nl⟩ := noL j d1 t1 b n1 ej w1
        obtain ⟨k1, k2⟩ := q.keep b o (neA j d1 t1 b hij n1 ej w1) ho
        exact ⟨b, w1, k2 (by rw [lend_no nl]; exact f) w.nt, o, k1, w.mono (s1.trans q.subF)⟩
    · have base : ∀ (j : Nat) (d1 : D) (t1 : Tg), t1 ≠ Tg.sh → (e3.set i (some (d', tg)))[j]? = some (some (d1, t1)) → σ[j]? = some (some (V.ref b)) → ∃ d2 t2, t2 ≠ Tg.sh ∧ e2[j]? = some (some (d2, t2)) := fun j d1 t1 n1 ej sj => by
        by_cases hij : i = j
        · subst hij
          exact ⟨d, tg, g4, i2⟩
        · rw [oth hij] at ej
          exact ⟨d1, t1, n1, (noL j d1 t1 b n1 ej sj).1⟩
      obtain ⟨x1, y1, z1, w1⟩ := base j d1 t1 n1 e1 s1'
      obtain ⟨x2, y2, z2, w2⟩ := base l d2 t2 n2 e2' s2'
      exact p.rl.sep j l x1 x2 y1 y2 b z1 z2 w1 w2 s1' s2'
  have oaA : Oa σ env a := ⟨i, d0, t0, g2, g1, ha⟩
  refine k F' H' v ⟨rl3, ⟨p.ex.subF.trans (s1.trans q.subF), fun b o hb nb => ?_, fun b z => p.ex.dom b ?_⟩, p.le.trans le4, ?_⟩
  · obtain ⟨k1, k2⟩ := p.ex.keep b o hb nb
    obtain ⟨k3, k4⟩ := q.keep b o (fun z => nb (by rw [z]; exact oaA)) k1
    refine ⟨k3, fun z nt => k4 ?_ nt⟩
    rw [lend_no]
    · exact k2 z nt
    · intro hb2
      subst hL
      obtain ⟨_, ⟨i, d1, t1, mi, n1, ei, si⟩ | ⟨no, z2 | z2⟩⟩ := hb2
      · exact nb (p.le.oa ⟨i, d1, t1, n1, ei, si⟩)
      · rw [hb] at z2; cases z2
      · exact nb z2
  · cases hb : H2 b with
    | none => rfl
    | some o =>
      by_cases hba : b = a
      · subst hba
        obtain ⟨_, o', ho', _⟩ := q.own
        rw [ho'] at z
        cases z
      · rw [(q.keep b o hba hb).1] at z
        cases z
  · have rv := q.rep
    show RepR K σ env (e3.set i (some (d', tg))) H F' H' v r1 t1
    cases t1 with
    | sh => exact rv
    | ow =>
      obtain ⟨_, b, e1, n, o⟩ := rv
      refine ⟨rfl, b, e1, o, fun z => ?_, .inl (p.ex.dom b n)⟩
      obtain ⟨_, u, hu⟩ := p.rl.oaH (le4.oa z)
      rw [n] at hu
      cases hu
    | io =>
      obtain ⟨z, _⟩ := rv
      cases z
section
variable {X : Cx} {CX : CXT} {k : Nat} {f : Addr} {fd : FuncData} {ps : List Str} {dvs : List V} {ds : List Value} {E : XK} {x : Str} {p pos : Pos} {e : Expr} {es : List Expr} {a : AM} {m : D → List D → Option (Res × D)} {dd : List D} {i : Nat}
theorem d_callI (F : FnOk X.prog X.w X.K X.mg X.base CX k f fd ps (spI X.K m)) (hr : Room k X.A) (hg : Gl X x) (hm : X.mg x = some (.ref f)) (hk : PySem.W.keepIn X.K (.ref f) = true) (hb : Binds X.K fd ps ds) (hd : Vals dvs ds) (hdd : ∀ F, Reps X.K F dvs dd) (hx : Passes CX X E)
    (hs : PE X e (tVar i)) (ha : PA X es (TAof X.K a)) (hdb : (x == ("__debug__" : Str)) = false := by decide) (he : starEach (e :: es) X.env = (false, eval e X.env) :: starEach es X.env := by rfl) (hpl : (backTo pos (starEach es X.env)).any (·.1) = false := by rfl) :
    PE X (.Call (.Name x p) (e :: es) [] pos) (TEof X.K (eCallI i (fun d ds => m d (ds ++ dd)) a)) := (pe_call F hr hg hm hk hb hd hx (pa_cons hs ha he) hdb he hpl).mono fun _ _ _ q => call_coreI hdd q
theorem d_callIF (F : FnOk X.prog X.w X.K X.mg X.base CX k f fd ps (spI X.K m)) (hr : Room k X.A) (hg : Gl X x) (hm : X.mg x = some (.ref f)) (hk : PySem.W.keepIn X.K (.ref f) = true) (hb : Binds X.K fd ps []) (hx : Passes CX X E)
    (hs : PE X e (tVar i)) (ha : PA X es (TAof X.K a)) (hdb : (x == ("__debug__" : Str)) = false := by decide) (he : starEach (e :: es) X.env = (false, eval e X.env) :: starEach es X.env := by rfl) (hpl : (backTo pos (starEach es X.env)).any (·.1) = false := by rfl) :
    PE X (.Call (.Name x p) (e :: es) [] pos) (TEof X.K (eCallI i m a)) := by
  have h := d_callI (dd := []) (p := p) F hr hg hm hk hb .nil (fun _ => .nil) hx hs ha hdb he hpl
  simpa only [List.append_nil] using h
end

theorem ev0I_get {n p : Nat} {d : D} {ds : List D} : ∀ {i : Nat} {q : D × Tg}, (ev0I n p d ds)[i]? = some (some q) → (i = 0 ∧ q = (d, Tg.io)) ∨ ∃ j d', i = j + 1 ∧ ds[j]? = some d' ∧ q = (d', Tg.sh)
  | 0, q, h => by
    simp only [ev0I, List.getElem?_cons_zero, Option.some.injEq] at h
    exact .inl ⟨rfl, h.symm⟩
  | j + 1, q, h => by
    simp only [ev0I, List.getElem?_cons_succ] at h
    by_cases hi : j < ds.length
    · rw [List.getElem?_append_left (by simpa using hi), List.getElem?_map] at h
      cases e : ds[j]? with
      | none => rw [e] at h; cases h
      | some d' => rw [e] at h; cases h; exact .inr ⟨j, d', rfl, e, rfl⟩
    · rw [List.getElem?_append_right (by simpa using hi), List.getElem?_replicate] at h
      split at h <;> cases h
theorem rl_startI {K : PySem.W.Frag} {F H : Hp} {a : Addr} {d : D} {vs : List V} {ds : List D} {N : List Str} {p : Nat} (s : Same F H) (o : Ow K F H a d) (r : Reps K F vs ds) (hp : ds.length + 1 = p) (hN : p ≤ N.length) : Rl K F H (L2.start N (V.ref a :: vs)) (ev0I N.length p d ds) := by
  have hl := r.len
  have st0 : (L2.start N (V.ref a :: vs))[0]? = some (some (V.ref a)) := by simp [L2.start]
  refine ⟨s, ?_, fun i d1 h => ?_, fun i d1 t n h => ?_, fun i j d1 e1 t u b n1 n2 h1 h2 _ _ => ?_⟩
  · simp [L2.start, ev0I]
    omega
  · rcases ev0I_get h with ⟨_, z⟩ | ⟨j, d', rfl, h1, z⟩
    · cases z
    · cases z
      obtain ⟨v, h3, h4⟩ := r.get h1
      refine ⟨v, ?_, h4⟩
      have hi : j < vs.length := get_lt h3
      unfold L2.start
      rw [List.getElem?_append_left (by simpa using hi), List.getElem?_map, List.getElem?_cons_succ, h3]
      rfl
  · rcases ev0I_get h with ⟨rfl, z⟩ | ⟨j, d', rfl, h1, z⟩
    · cases z
      exact ⟨a, st0, o⟩
    · cases z
      exact absurd rfl n
  · rcases ev0I_get h1 with ⟨rfl, z⟩ | ⟨j', d', rfl, q1, z⟩
    · rcases ev0I_get h2 with ⟨rfl, z⟩ | ⟨j', d', rfl, q1, z⟩
      · rfl
      · cases z
        exact absurd rfl n2
    · cases z
      exact absurd rfl n1
theorem mFnI_len {n p : Nat} {b : SM} {d : D} {ds : List D} {r : Res × D} (h : mFnI n p b d ds = some r) : ds.length + 1 = p := by
  unfold mFnI at h
  split at h
  · assumption
  · cases h
section
variable {P : Program} {w : World} {K : PySem.W.Frag} {mg : Str → Option Value} {base : Heap}
theorem fnI_ok {x qual : Str} {st : Stmt} {f : Addr} {fd : FuncData} {N ps : List Str} {k : Nat} {b : SM} (F : Fun K x qual st f fd) (S : FnScope N ps (defScope st)) (n p : Nat) (hn : N.length = n) (hp : ps.length = p)
    (hbody : ∀ (cdv : Value) (A : Around) (outer : List PySem.Env) (s : Shared) (H : Hp), Room k (A.deeper (envOfC qual (defScope st) s.heap.objs.size f cdv)) →
      PSs (cxOf CX0 P w K mg base N qual (defScope st) f cdv A outer s H E0).nox (defBody st) (TSof K b)) : FnOk P w K mg base CX0 (k + 1) f fd ps (spI K (mFnI n p b)) := by
  have hpN : p ≤ n := by
    have := congrArg List.length S.pre
    rw [List.length_take] at this
    omega
  refine F.ok S (fun vs H Q E h => ?_) (fun cdv A outer s H vs Q E hr h => ?_)
  · obtain ⟨F1, a, ws, d, ds, r, t, d', rfl, _, _, rr, e, _⟩ := h
    rw [List.length_cons, rr.len, mFnI_len e, hp]
  · obtain ⟨F1, a, ws, d, ds, r, t, d', rfl, sm, ow, rr, e, q⟩ := h
    refine ⟨_, hbody cdv A outer s H hr, ?_⟩
    have hl := mFnI_len e
    unfold mFnI at e
    rw [if_pos hl] at e
    simp only [Option.bind_eq_some_iff] at e
    obtain ⟨o, h1, h2⟩ := e
    have r0 : Rl K F1 H (L2.start N (V.ref a :: ws)) (ev0I n p d ds) := by
      have := rl_startI (N := N) sm ow rr hl (by omega)
      rw [hn] at this
      exact this
    have st0 : (L2.start N (V.ref a :: ws))[0]? = some (some (V.ref a)) := by simp [L2.start]
    have ev00 : (ev0I n p d ds)[0]? = some (some (d, Tg.io)) := rfl
    have onlyA : ∀ b, Oa (L2.start N (V.ref a :: ws)) (ev0I n p d ds) b → b = a := fun b ⟨i, d, t, n', h, hs⟩ => by
      rcases ev0I_get h with ⟨rfl, z⟩ | ⟨j', d', rfl, q1, z⟩
      · rw [st0] at hs
        cases hs
        rfl
      · cases z
        exact absurd rfl n'
    have noW : ∀ b, ¬ OaW (L2.start N (V.ref a :: ws)) (ev0I n p d ds) b := fun b ⟨i, d, h, hs⟩ => by
      rcases ev0I_get h with ⟨rfl, z⟩ | ⟨j', d', rfl, q1, z⟩
      · cases z
      · cases z
    refine ⟨F1, _, r0, o, h1, ?_⟩
    have fin : ∀ {F' H' : Hp} {σ' : Sg} {env' : Ev} {v : V} {r : D} {t : Tg} {d2 : D} {t2 : Tg}, own 0 env' = some (d2, t2) → SPost K (L2.start N (V.ref a :: ws)) (ev0I n p d ds) F1 H env' F' H' σ' → RepS K (L2.start N (V.ref a :: ws)) (ev0I n p d ds) H σ' env' F' H' v r t → IoPost K F1 H F' H' a v r t d2 := fun {F' H' σ' env' v r t d2 t2} ho sp rv => by
      obtain ⟨g1, g2⟩ := own_inv ho
      obtain ⟨d3, g3⟩ := sp.io2 0 d ev00
      rw [g1] at g3
      cases g3
      obtain ⟨g4, _⟩ := sp.io 0 d2 g1
      obtain ⟨a', g5, g6⟩ := sp.rl.ow 0 d2 .io (by decide) g1
      rw [g4, st0] at g5
      cases g5
      refine ⟨sp.rl.sub, sp.ex.subF, fun b o hb ho => sp.ex.keep b o ho fun z => hb (onlyA b z), g6, ?_⟩
      cases t with
      | sh => exact rv
      | ow =>
        obtain ⟨_, b, k1, k2, k3, k4⟩ := rv
        exact ⟨rfl, b, k1, k4.elim id fun z => absurd z (noW b), k2⟩
      | io => cases rv.1
    cases o with
    | nx e' =>
      simp only [Option.map_eq_some_iff] at h2
      obtain ⟨⟨d2, t2⟩, h3, h4⟩ := h2
      cases h4
      exact fun F' H' σ' sp => q F' H' .non (fin h3 sp (t := .sh) .non)
    | rt r' t' e' =>
      simp only [Option.map_eq_some_iff] at h2
      obtain ⟨⟨d2, t2⟩, h3, h4⟩ := h2
      cases h4
      exact fun F' H' σ' v sp rv => q F' H' v (fin h3 sp rv)
    | bk e' => cases h2
    | ct e' => cases h2
end
end Dd
namespace Dd
open PySem PySem.Spec PyProof.Rows L2

theorem turn_long {P : Program} {w : World} {K : PySem.W.Frag} {tg : Expr} (it : Addr) (lo : Int) (n : Nat) : Turn P w K tg (Itr lo n) [it] it (fun i h => IsLongIter h it (lo + (i : Nat) * 1) ((n : Int) - (i : Nat)) 1) where
  mem := by simp
  obj := fun i h q b hb => by
    obtain rfl : b = it := by simpa using hb
    exact ⟨_, q, fun v z => by
      have z2 : Data.fields _ = Data.cell v := z
      cases z2⟩
  keep := fun i h h' q k => k it (by simp) _ q
  item := by
    intro X e1 e2 e3 hc i pins s σ H E I hf q hg
    subst e1 e2 e3
    obtain ⟨y0, y1, y2, y3, y4, y5⟩ := hf it (by simp)
    have W := Walks.longrange (prog := X.prog) (w := X.w) (I.ok.hd hc) it lo 1 n
    refine W.item i s _ _ hg q fun v h' tk hv q2 kk => ?_
    obtain ⟨t, rfl⟩ := hv
    have J : Inv X pins σ H { s with heap := h', toks := tk } := I.turned (fun b o hb e => kk b o (by simpa using hb) e) y0 y1 y3 y4 y5
    refine ⟨_, rfl, go_of (s := { s with heap := h', toks := tk }) (n := "longrange_iterator") q2 rfl rfl (by decide) ⟨.int (lo + i), H, J, ⟨t, ?_⟩, ⟨rfl, rfl⟩, q2, fun b hb => (hf b hb).1⟩⟩
    rw [Int.mul_one]
  done := by
    intro X e1 e2 e3 hc i pins s σ H E I hf q hg
    subst e1 e2 e3
    obtain ⟨y0, y1, y2, y3, y4, y5⟩ := hf it (by simp)
    exact wpAny_pyNext_long_end (I.ok.hd hc) q (by have : n ≤ i := hg; omega) fun h' eb => ⟨rfl, I.turned (t' := s.toks) (fun b o hb e => eb b o hb e) y0 y1 y3 y4 y5⟩
  self := fun _ _ _ _ _ q h => wpAny_pyIter_longiter q h
section
variable {X : Cx} {tg : Expr}
theorem range_itW {pins : List (Addr × Obj)} {σ : Sg} {H : Hp} {s : Shared} {R : It → Hp → Prop} {E : Value → Shared → Prop} {lo hi : Int} {t u v : Tok} {tk : Nat} (I : Inv X pins σ H s)
    (q : R (Itr lo (hi - lo).toNat) H) : wpAny (model X.prog X.w) X.A (pyIter (.ref s.heap.objs.size)) (PIE X pins σ tg R) E { s with heap := s.heap.push { cls := .type "range", data := .fields #[.int lo t, .int hi u, .int 1 v] }, toks := tk } := by
  have J : Inv X pins σ H { s with heap := s.heap.push { cls := .type "range", data := .fields #[.int lo t, .int hi u, .int 1 v] }, toks := tk } := I.kept fun b o e => Heap.get?_push_of_some _ e
  have z1 : lo + ((0 : Nat) : Int) * 1 = lo := by simp
  have z2 : (((hi - lo).toNat : Nat) : Int) - ((0 : Nat) : Int) = Builtin.Range.rangeSize lo hi 1 := by rw [rangeSize_one]; split <;> omega
  have fp : ∀ b ∈ [(s.heap.push { cls := .type "range", data := .fields #[.int lo t, .int hi u, .int 1 v] }).objs.size], FpOk X pins H b := fun b hb => by
    obtain rfl : b = (s.heap.push { cls := .type "range", data := .fields #[.int lo t, .int hi u, .int 1 v] }).objs.size := by simpa using hb
    exact J.fpOk (Nat.le_refl _) (J.hok.fresh (Nat.le_refl _))
  cases hs : Builtin.Range.small lo hi 1 with
  | true =>
    refine wpAny_pyIter_range (IsRange.new ..) hs ?_
    refine ⟨(s.heap.push { cls := .type "range", data := .fields #[.int lo t, .int hi u, .int 1 v] }).objs.size, _, _, _, H, rfl, J.kept (t' := tk) fun b o e => Heap.get?_push_of_some _ e, turn_range _ lo (hi - lo).toNat, ?_, fp, q⟩
    show IsRangeIter _ _ (lo + ((0 : Nat) : Int) * 1) ((((hi - lo).toNat : Nat) : Int) - ((0 : Nat) : Int)) 1
    rw [z1, z2]
    exact Heap.get?_push_size _ rfl
  | false =>
    refine wpAny_pyIter_longrange (IsRange.new ..) hs ?_
    refine ⟨(s.heap.push { cls := .type "range", data := .fields #[.int lo t, .int hi u, .int 1 v] }).objs.size, _, _, _, H, rfl, J.kept (t' := tk) fun b o e => Heap.get?_push_of_some _ e, turn_long _ lo (hi - lo).toNat, ?_, fp, q⟩
    show IsLongIter _ _ (lo + ((0 : Nat) : Int) * 1) ((((hi - lo).toNat : Nat) : Int) - ((0 : Nat) : Int)) 1
    rw [z1, z2]
    exact Heap.get?_push_size _ rfl
def iRg1 (ta : TA) : TI := fun σ H R => ta σ H fun vs H1 => ∃ j : Int, vs = [.int j] ∧ R (Itr 0 j.toNat) H1
def iRg2 (ta : TA) : TI := fun σ H R => ta σ H fun vs H1 => ∃ i j : Int, vs = [.int i, .int j] ∧ R (Itr i (j - i).toNat) H1
theorem pi_rg1 {a : Expr} {ta : TA} {p pos : Pos} (hg : Gl X "range") (hm : X.mg "range" = none) (ha : PA X [a] ta) (hs : starEach [a] X.env = [(false, eval a X.env)] := by rfl) : PI X tg (.Call (.Name "range" p) [a] [] pos) (iRg1 ta) := by
  refine ⟨fun pins s σ H R I h => ?_⟩
  refine Call_ (ld_blt I hg hm boot_range (PyProof.Rows.callWith_type1 (thn (ha.run pos pins s σ H _ I h) fun us s1 ⟨vs, H1, J, r1, g1⟩ => ?_) hs rfl))
  obtain ⟨j, rfl, q⟩ := g1
  obtain ⟨u, rfl, ru⟩ := r1.one
  obtain ⟨t, rfl⟩ := ru
  exact call_range_1 (range_itW J (by simpa using q))
theorem pi_rg2 {a b : Expr} {ta : TA} {p pos : Pos} (hg : Gl X "range") (hm : X.mg "range" = none) (ha : PA X [a, b] ta) (hs : starEach [a, b] X.env = [(false, eval a X.env), (false, eval b X.env)] := by rfl) (hs2 : starEach [b] X.env = [(false, eval b X.env)] := by rfl) :
    PI X tg (.Call (.Name "range" p) [a, b] [] pos) (iRg2 ta) := by
  refine ⟨fun pins s σ H R I h => ?_⟩
  refine Call_ (ld_blt I hg hm boot_range (PyProof.Rows.callWith_type1 (thn (ha.run pos pins s σ H _ I h) fun us s1 ⟨vs, H1, J, r1, g1⟩ => ?_) (by rw [hs, hs2]) (by rw [hs2]; rfl)))
  obtain ⟨i, j, rfl, q⟩ := g1
  cases r1 with
  | cons r rr =>
    obtain ⟨t, rfl⟩ := r
    cases rr with
    | cons r' rr =>
      obtain ⟨t', rfl⟩ := r'
      cases rr
      exact call_range_2 (range_itW J q)
variable {e e' : Expr} {p pos : Pos} {l : LM}
def jR1 (l : LM) : IM := fun e => (l e).bind fun x => match x.1 with
  | [.int j] => some (rngD 0 j.toNat, x.2)
  | _ => none
def jR2 (l : LM) : IM := fun e => (l e).bind fun x => match x.1 with
  | [.int i, .int j] => some (rngD i (j - i).toNat, x.2)
  | _ => none
theorem w_rg1 (hg : Gl X "range") (hm : X.mg "range" = none) (ha : PA X [e] (TLof X.K l)) (hs : starEach [e] X.env = [(false, eval e X.env)] := by rfl) : PI X tg (.Call (.Name "range" p) [e] [] pos) (TIof X.K (jR1 l)) := (pi_rg1 hg hm ha hs).mono fun σ H R q => by
  obtain ⟨F, env, r, ds, env', e, k⟩ := q
  unfold jR1 at e
  simp only [Option.bind_eq_some_iff] at e
  obtain ⟨⟨ds1, e1⟩, h1, h2⟩ := e
  split at h2
  · rename_i j hd
    have hd : ds1 = [.int j] := hd
    subst hd
    cases h2
    refine ⟨F, env, r, _, _, h1, fun F1 H1 vs p => ?_⟩
    have := Reps.ints (ns := [j]) p.rep
    subst this
    exact ⟨j, rfl, k F1 H1 _ ⟨p.rl, p.ex, p.le, it_rng 0 j.toNat⟩⟩
  · cases h2
theorem w_rg2 (hg : Gl X "range") (hm : X.mg "range" = none) (ha : PA X [e, e'] (TLof X.K l)) (hs : starEach [e, e'] X.env = [(false, eval e X.env), (false, eval e' X.env)] := by rfl) (hs2 : starEach [e'] X.env = [(false, eval e' X.env)] := by rfl) : PI X tg (.Call (.Name "range" p) [e, e'] [] pos) (TIof X.K (jR2 l)) := (pi_rg2 hg hm ha hs hs2).mono fun σ H R q => by
  obtain ⟨F, env, r, ds, env', e, k⟩ := q
  unfold jR2 at e
  simp only [Option.bind_eq_some_iff] at e
  obtain ⟨⟨ds1, e1⟩, h1, h2⟩ := e
  split at h2
  · rename_i i j hd
    have hd : ds1 = [.int i, .int j] := hd
    subst hd
    cases h2
    refine ⟨F, env, r, _, _, h1, fun F1 H1 vs p => ?_⟩
    have := Reps.ints (ns := [i, j]) p.rep
    subst this
    exact ⟨i, j, rfl, k F1 H1 _ ⟨p.rl, p.ex, p.le, it_rng i (j - i).toNat⟩⟩
  · cases h2
structure ItF (K : PySem.W.Frag) (F : Hp) (J : It) (ds : List D) : Prop where
  go : ∀ F2 H2, Same F F2 → Same F2 H2 → ∀ i, i < ds.length → J.go i H2
  yld : ∀ F2 H2, Same F F2 → Same F2 H2 → ∀ i d, ds[i]? = some d → ∀ x H3, J.yld i H2 x H3 → ∃ F3, VPost K F2 H2 F3 H3 x d .sh
  stop : ∀ F2 H2, Same F F2 → Same F2 H2 → J.stop ds.length H2
structure FPost (K : PySem.W.Frag) (σ : Sg) (env : Ev) (F H : Hp) (ds : List D) (env' : Ev) (F' H' : Hp) (J : It) : Prop where
  rl : Rl K F' H' σ env'
  ex : Ex σ env F H F' H'
  le : Le env env'
  it : ItF K F' J ds
def TFof (K : PySem.W.Frag) (im : IM) : TI := fun σ H R => ∃ F env, Rl K F H σ env ∧ ∃ ds env', im env = some (ds, env') ∧ ∀ F' H' J, FPost K σ env F H ds env' F' H' J → R J H'
theorem f_list {K : PySem.W.Frag} {F : Hp} {a : Addr} {vs : List V} {ds : List D} (h : SqL K F a vs) (r : Reps K F vs ds) : ItF K F (Itl K a) ds where
  go := fun F2 H2 ex s i hi => by
    have hv : i < vs.length := by rw [r.len]; exact hi
    exact ⟨vs, vs[i], sqL_mono s (sqL_mono ex h), List.getElem?_eq_getElem hv⟩
  yld := fun F2 H2 ex s i d hd x H3 hy => by
    obtain ⟨rfl, q⟩ := hy
    obtain ⟨v, hv, rv⟩ := r.get hd
    have := (q vs (sqL_mono s (sqL_mono ex h))).symm.trans hv
    cases this
    exact ⟨F2, vp_sc s (rv.mono ex)⟩
  stop := fun F2 H2 ex s => ⟨vs, sqL_mono s (sqL_mono ex h), by rw [r.len]; exact Nat.le_refl _⟩
theorem f_tup {K : PySem.W.Frag} {F : Hp} {a : Addr} {vs : List V} {ds : List D} (h : F a = some (.tup vs)) (r : Reps K F vs ds) : ItF K F (Itt K a) ds where
  go := fun F2 H2 ex s i hi => by
    have hv : i < vs.length := by rw [r.len]; exact hi
    exact ⟨vs, vs[i], .of (s _ _ (ex _ _ h)), List.getElem?_eq_getElem hv⟩
  yld := fun F2 H2 ex s i d hd x H3 hy => by
    obtain ⟨rfl, q⟩ := hy
    obtain ⟨v, hv, rv⟩ := r.get hd
    have := (q vs (.of (s _ _ (ex _ _ h)))).symm.trans hv
    cases this
    exact ⟨F2, vp_sc s (rv.mono ex)⟩
  stop := fun F2 H2 ex s => ⟨vs, .of (s _ _ (ex _ _ h)), by rw [r.len]; exact Nat.le_refl _⟩
theorem f_rng {K : PySem.W.Frag} {F : Hp} (lo : Int) (n : Nat) : ItF K F (Itr lo n) (rngD lo n) where
  go := fun F2 H2 ex s i hi => by
    have h : i < n := by simpa [rngD] using hi
    exact h
  yld := fun F2 H2 ex s i d hd x H3 hy => by
    obtain ⟨rfl, rfl⟩ := hy
    unfold rngD at hd
    rw [List.getElem?_map] at hd
    simp only [Option.map_eq_some_iff] at hd
    obtain ⟨k, h1, h2⟩ := hd
    obtain ⟨_, h3⟩ := List.getElem?_eq_some_iff.mp h1
    rw [List.getElem_range] at h3
    subst h3 h2
    exact ⟨F2, vp_sc s (.int _)⟩
  stop := fun F2 H2 ex s => by simp [Itr, rngD]
def jF (m : EM) : IM := fun e => (eSh m e).bind fun x => match x.1 with
  | .list ds => some (ds, x.2.2)
  | .tuple ds => some (ds, x.2.2)
  | _ => none
variable {m : EM}
theorem f_e (h : PE X e (TEof X.K m)) : PI X tg e (TFof X.K (jF m)) := (PI.or (pi_list h) (pi_tup h)).mono fun σ H R q => by
  obtain ⟨F, env, r, ds, env', e, k⟩ := q
  unfold jF at e
  simp only [Option.bind_eq_some_iff] at e
  obtain ⟨⟨d, t, e1⟩, h1, h2⟩ := e
  have := eSh_tag h1
  subst this
  split at h2
  · rename_i xs hd
    have hd : d = .list xs := hd
    subst hd
    cases h2
    refine .inl (sh_core ⟨F, env, r, _, _, _, h1, fun F1 H1 v p => ?_⟩)
    have q := p.rep
    cases q with
    | lst h rv => exact ⟨_, rfl, ⟨_, sqL_mono p.rl.sub h⟩, k F1 H1 _ ⟨p.rl, p.ex, p.le, f_list h rv⟩⟩
  · rename_i xs hd
    have hd : d = .tuple xs := hd
    subst hd
    cases h2
    refine .inr (sh_core ⟨F, env, r, _, _, _, h1, fun F1 H1 v p => ?_⟩)
    have q := p.rep
    cases q with
    | tup h rv => exact ⟨_, rfl, ⟨_, .of (p.rl.sub _ _ h)⟩, k F1 H1 _ ⟨p.rl, p.ex, p.le, f_tup h rv⟩⟩
  · cases h2
theorem f_rg1 (hg : Gl X "range") (hm : X.mg "range" = none) (ha : PA X [e] (TLof X.K l)) (hs : starEach [e] X.env = [(false, eval e X.env)] := by rfl) : PI X tg (.Call (.Name "range" p) [e] [] pos) (TFof X.K (jR1 l)) := (pi_rg1 hg hm ha hs).mono fun σ H R q => by
  obtain ⟨F, env, r, ds, env', e, k⟩ := q
  unfold jR1 at e
  simp only [Option.bind_eq_some_iff] at e
  obtain ⟨⟨ds1, e1⟩, h1, h2⟩ := e
  split at h2
  · rename_i j hd
    have hd : ds1 = [.int j] := hd
    subst hd
    cases h2
    refine ⟨F, env, r, _, _, h1, fun F1 H1 vs p => ?_⟩
    have := Reps.ints (ns := [j]) p.rep
    subst this
    exact ⟨j, rfl, k F1 H1 _ ⟨p.rl, p.ex, p.le, f_rng 0 j.toNat⟩⟩
  · cases h2
theorem f_rg2 (hg : Gl X "range") (hm : X.mg "range" = none) (ha : PA X [e, e'] (TLof X.K l)) (hs : starEach [e, e'] X.env = [(false, eval e X.env), (false, eval e' X.env)] := by rfl) (hs2 : starEach [e'] X.env = [(false, eval e' X.env)] := by rfl) : PI X tg (.Call (.Name "range" p) [e, e'] [] pos) (TFof X.K (jR2 l)) := (pi_rg2 hg hm ha hs hs2).mono fun σ H R q => by
  obtain ⟨F, env, r, ds, env', e, k⟩ := q
  unfold jR2 at e
  simp only [Option.bind_eq_some_iff] at e
  obtain ⟨⟨ds1, e1⟩, h1, h2⟩ := e
  split at h2
  · rename_i i j hd
    have hd : ds1 = [.int i, .int j] := hd
    subst hd
    cases h2
    refine ⟨F, env, r, _, _, h1, fun F1 H1 vs p => ?_⟩
    have := Reps.ints (ns := [i, j]) p.rep
    subst this
    exact ⟨i, j, rfl, k F1 H1 _ ⟨p.rl, p.ex, p.le, f_rng i (j - i).toNat⟩⟩
  · cases h2
end
end Dd
namespace Dd
open PySem PySem.Spec PyProof.Rows L2

theorem lc_fin {K : PySem.W.Frag} {vs : List Nat} {σ : Sg} {env : Ev} {F H : Hp} {ds : List D} {hh : Option Nat} {e1 : Ev} {F1 H1 : Hp} {J : It} {D0 : Addr} {F2 H2 : Hp} {efin : Ev} {accV : List V} {accD : List D} (r : Rl K F H σ env) (p : CPost K σ env F H ds hh e1 F1 H1 J) (hn : H1 D0 = none)
    (I : LcI K (wipe σ vs) vs (wipeE e1 vs) F1 H1 D0 F2 H2 efin accV accD) : EPost K σ env F H (.list accD) .ow (bkH hh env (backE e1 vs efin)) F2 H2 (.ref D0) := by
  have r1 : Rl K F1 H1 (wipe σ vs) (wipeE e1 vs) := p.rl.wiped (wipe_length σ vs) fun j hj => wipe_get hj
  have toJ : ∀ {F2 H2 : Hp}, Ex (wipe σ vs) (wipeE e1 vs) F1 H1 F2 H2 → Ex σ e1 F1 H1 F2 H2 := fun {F2 H2} ex => ⟨ex.subF, fun a o ha na => ex.keep a o ha fun z => na z.unwipe, ex.dom⟩
  -- the slots come back
  have hlen : e1.length = efin.length := by
    have a1 := I.le.len
    rw [wipeE_len] at a1
    exact a1.symm
  have hlen0 : env.length = efin.length := p.le.len.symm.trans hlen
  have exJ := toJ I.ex
  -- what a slot of the end's environment is
  have what : ∀ (j : Nat) (q : D × Tg), (bkH hh env (backE e1 vs efin))[j]? = some (some q) → (hh = some j ∧ env[j]? = some (some q)) ∨ (hh ≠ some j ∧ j ∈ vs ∧ e1[j]? = some (some q)) ∨ (hh ≠ some j ∧ j ∉ vs ∧ efin[j]? = some (some q)) := fun j q hq => by
    have base : ∀ q, (backE e1 vs efin)[j]? = some (some q) → (j ∈ vs ∧ e1[j]? = some (some q)) ∨ (j ∉ vs ∧ efin[j]? = some (some q)) := fun q z => by
      by_cases hj : j ∈ vs
      · exact .inl ⟨hj, (backE_in hlen hj q).mp z⟩
      · rw [backE_out hj] at z
        exact .inr ⟨hj, z⟩
    cases hh with
    | none => exact .inr ((base q hq).imp (fun z => ⟨fun w => (nomatch w), z⟩) fun z => ⟨fun w => (nomatch w), z⟩)
    | some i =>
      unfold bkH at hq
      by_cases hij : i = j
      · subst hij
        by_cases hlt : i < (backE e1 vs efin).length
        · rw [List.getElem?_set_self hlt] at hq
          have hq : (env[i]?).join = some q := Option.some.inj hq
          exact .inl ⟨rfl, sl_iff.mp hq⟩
        · rw [List.getElem?_eq_none (by simpa using hlt)] at hq
          cases hq
      · rw [List.getElem?_set_ne hij] at hq
        exact .inr ((base q hq).imp (fun z => ⟨fun w => hij (Option.some.inj w), z⟩) fun z => ⟨fun w => hij (Option.some.inj w), z⟩)
  -- an owned slot's object, whichever it is
  have obj : ∀ (j : Nat) (d : D) (t' : Tg), t' ≠ Tg.sh → (bkH hh env (backE e1 vs efin))[j]? = some (some (d, t')) → ∃ a, σ[j]? = some (some (V.ref a)) ∧ Ow K F2 H2 a d ∧ a ≠ D0 := fun j d t' n hq => by
    rcases what j _ hq with ⟨hj, z⟩ | ⟨_, hj, z⟩ | ⟨_, hj, z⟩
    · obtain ⟨d', a, z1, z2, z3, ⟨f, o, ho, w⟩, z5⟩ := p.hd j hj
      rw [z] at z1
      cases z1
      obtain ⟨y1, y2⟩ := exJ.keep a o ho z5
      exact ⟨a, z3, ⟨y2 f w.nt, o, y1, w.mono I.ex.subF⟩, fun e => by rw [e, hn] at ho; cases ho⟩
    · obtain ⟨a, z3, f, o, ho, w⟩ := p.rl.ow j d t' n z
      have no : ¬ Oa (wipe σ vs) (wipeE e1 vs) a := by
        rintro ⟨i, d2, t2, n2, q1, q2⟩
        obtain ⟨h8, h9⟩ := wipeE_in q1
        rw [wipe_get h8] at q2
        have := p.rl.sep i j d2 d t2 t' a n2 n h9 z q2 z3
        subst this
        exact h8 hj
      obtain ⟨y1, y2⟩ := I.ex.keep a o ho no
      exact ⟨a, z3, ⟨y2 f w.nt, o, y1, w.mono I.ex.subF⟩, fun e => by rw [e, hn] at ho; cases ho⟩
    · obtain ⟨a, z3, oo⟩ := I.rl.ow j d t' n z
      rw [wipe_get hj] at z3
      refine ⟨a, z3, oo, fun e => ?_⟩
      subst e
      refine I.noD r1 hn ⟨j, d, t', n, z, ?_⟩
      rw [wipe_get hj]
      exact z3
  -- where an owned slot was owned before
  have was : ∀ (j : Nat) (d : D) (t' : Tg), t' ≠ Tg.sh → (bkH hh env (backE e1 vs efin))[j]? = some (some (d, t')) → ∃ d', env[j]? = some (some (d', t')) := fun j d t' n hq => by
    rcases what j _ hq with ⟨hj, z⟩ | ⟨_, hj, z⟩ | ⟨_, hj, z⟩
    · exact ⟨d, z⟩
    · exact p.le.ow j d t' n z
    · obtain ⟨d1, z1⟩ := I.le.ow j d t' n z
      exact p.le.ow j d1 t' n (wipeE_in z1).2
  refine ⟨⟨I.rl.sub, ?_, fun j d hq => ?_, fun j d t' n hq => ?_, fun i j d1 d2 t1 t2 a n1 n2 q1 q2 s1 s2 => ?_⟩, p.ex.trans exJ fun a ha => .inl (p.le.oa ha), ⟨?_, was, fun j d hq => ?_⟩, rfl, D0, rfl, ⟨I.fr, _, I.at_, .lst I.rep⟩, ?_, .inl (p.ex.dom D0 hn)⟩
  · have l0 := r.len
    cases hh <;> simp [bkH, backE_len] <;> omega
  · rcases what j _ hq with ⟨hj, z⟩ | ⟨_, hj, z⟩ | ⟨_, hj, z⟩
    · obtain ⟨d', a, z1, _⟩ := p.hd j hj
      rw [z] at z1
      cases z1
    · obtain ⟨v, z1, z2⟩ := p.rl.sh j d z
      exact ⟨v, z1, z2.mono I.ex.subF⟩
    · obtain ⟨v, z1, z2⟩ := I.rl.sh j d z
      rw [wipe_get hj] at z1
      exact ⟨v, z1, z2⟩
  · obtain ⟨a, z1, z2, _⟩ := obj j d t' n hq
    exact ⟨a, z1, z2⟩
  · obtain ⟨d1', w1⟩ := was i d1 t1 n1 q1
    obtain ⟨d2', w2⟩ := was j d2 t2 n2 q2
    exact r.sep i j d1' d2' t1 t2 a n1 n2 w1 w2 s1 s2
  · cases hh <;> simp [bkH, backE_len] <;> omega
  · -- io slots stay
    have hj2 : hh ≠ some j := fun z => by
      obtain ⟨d', a, z1, _⟩ := p.hd j z
      rw [hq] at z1
      cases z1
    obtain ⟨d1, z1⟩ := p.le.io j d hq
    have same : (bkH hh env (backE e1 vs efin))[j]? = (backE e1 vs efin)[j]? := by
      cases hh with
      | none => rfl
      | some i => exact List.getElem?_set_ne fun z => hj2 (by rw [z])
    rw [same]
    by_cases hj : j ∈ vs
    · exact ⟨d1, (backE_in hlen hj _).mpr z1⟩
    · rw [backE_out hj]
      obtain ⟨d2, z2⟩ := I.le.io j d1 (by rw [wipeE_get hj]; exact z1)
      exact ⟨d2, z2⟩
  · rintro ⟨j, d, t', n, q1, q2⟩
    obtain ⟨a, z1, _, z3⟩ := obj j d t' n q1
    rw [q2] at z1
    cases z1
    exact z3 rfl

/-- the state within a block: D0 the list that is made -/
structure Bk (K : PySem.W.Frag) (σw : Sg) (vs : List Nat) (e1w : Ev) (F1 H1 : Hp) (D0 : Addr) (σ : Sg) (env : Ev) (F H : Hp) (accV : List V) (accD : List D) : Prop where
  rl : Rl K F H σ env
  ex : Ex σw e1w F1 H1 F H
  out : ∀ j : Nat, j ∉ vs → σ[j]? = σw[j]?
  len : σ.length = σw.length
  own : ∀ (j : Nat) d t, j ∉ vs → t ≠ Tg.sh → env[j]? = some (some (d, t)) → ∃ d', e1w[j]? = some (some (d', t))
  ows : ∀ a, Oa σ env a → Oa σw e1w a ∨ H1 a = none
  nod : ¬ Oa σ env D0
  io : ∀ (j : Nat) d, e1w[j]? = some (some (d, Tg.io)) → ∃ d', env[j]? = some (some (d', Tg.io))
  at_ : H D0 = some (.lst accV)
  fr : F D0 = none
  rep : Reps K F accV accD
section
variable {K : PySem.W.Frag} {σw : Sg} {vs : List Nat} {e1w : Ev} {F1 H1 : Hp} {D0 : Addr} {σ : Sg} {env : Ev} {F H : Hp} {accV : List V} {accD : List D}
theorem LcI.bk (r1 : Rl K F1 H1 σw e1w) (hn : H1 D0 = none) (I : LcI K σw vs e1w F1 H1 D0 F H env accV accD) : Bk K σw vs e1w F1 H1 D0 σw env F H accV accD :=
  ⟨I.rl, I.ex, fun _ _ => rfl, rfl, fun j d t _ n h => I.le.ow j d t n h, fun a h => .inl (I.le.oa h), I.noD r1 hn, I.le.io, I.at_, I.fr, I.rep⟩
theorem Bk.sp {σ' : Sg} {env' : Ev} {F' H' : Hp} (I : Bk K σw vs e1w F1 H1 D0 σ env F H accV accD) (sp : SPost K σ env F H env' F' H' σ') (hs : ∀ j : Nat, j ∉ vs → σ'[j]? = σ[j]?)
    (he : ∀ (j : Nat) d t, j ∉ vs → t ≠ Tg.sh → env'[j]? = some (some (d, t)) → ∃ d', env[j]? = some (some (d', t))) : Bk K σw vs e1w F1 H1 D0 σ' env' F' H' accV accD := by
  obtain ⟨k1, k2⟩ := sp.ex.keep D0 _ I.at_ I.nod
  refine ⟨sp.rl, I.ex.trans sp.ex I.ows, fun j hj => (hs j hj).trans (I.out j hj), sp.len.trans I.len, fun j d t hj n h => ?_, fun a h => ?_, fun h => ?_, fun j d h => ?_, k1, k2 I.fr (fun _ z => (nomatch z)), I.rep.mono sp.ex.subF⟩
  · obtain ⟨d', h'⟩ := he j d t hj n h
    exact I.own j d' t hj n h'
  · rcases sp.oa a h with z | z
    · exact I.ows a z
    · exact .inr (I.ex.dom a z)
  · rcases sp.oa D0 h with z | z
    · exact I.nod z
    · rw [I.at_] at z; cases z
  · obtain ⟨d1, h1⟩ := I.io j d h
    exact sp.io2 j d1 h1
theorem Bk.ep {env' : Ev} {F' H' : Hp} (I : Bk K σw vs e1w F1 H1 D0 σ env F H accV accD) (rl : Rl K F' H' σ env') (ex : Ex σ env F H F' H') (le : Le env env') : Bk K σw vs e1w F1 H1 D0 σ env' F' H' accV accD :=
  I.sp (.of_expr rl ex le) (fun _ _ => rfl) fun j d t _ n h => le.ow j d t n h
theorem Bk.app {v : V} {d : D} (I : Bk K σw vs e1w F1 H1 D0 σ env F H accV accD) (hn : H1 D0 = none) (hv : Rep K F v d) : Bk K σw vs e1w F1 H1 D0 σ env F (upd H D0 (.lst (accV ++ [v]))) (accV ++ [v]) (accD ++ [d]) := by
  refine ⟨?_, ⟨I.ex.subF, fun a o ha na => ?_, fun a ha => ?_⟩, I.out, I.len, I.own, I.ows, I.nod, I.io, upd_same, I.fr, I.rep.append (.one hv)⟩
  · refine I.rl.grow (fun a o ha => ?_) (.refl _) fun a ha o ho => ⟨?_, fun z _ => z⟩
    · rw [upd_ne]
      · exact I.rl.sub a o ha
      · rintro rfl
        rw [I.fr] at ha
        cases ha
    · rw [upd_ne]
      · exact ho
      · rintro rfl
        exact I.nod ha
  · have ne : a ≠ D0 := fun z => by
      subst z
      rw [hn] at ha
      cases ha
    rw [upd_ne ne]
    exact I.ex.keep a o ha na
  · by_cases z : a = D0
    · rw [z]; exact hn
    · rw [upd_ne z] at ha
      exact I.ex.dom a ha
theorem Bk.wipe {us : List Nat} (I : Bk K σw vs e1w F1 H1 D0 σ env F H accV accD) (hu : ∀ j ∈ us, j ∈ vs) (hio : ∀ j ∈ vs, ∀ p, e1w[j]? ≠ some (some p)) : Bk K σw vs e1w F1 H1 D0 (L2.wipe σ us) (wipeE env us) F H accV accD := by
  have oo : ∀ a, Oa (L2.wipe σ us) (wipeE env us) a → Oa σ env a := fun a h => h.unwipe
  refine ⟨I.rl.wiped (wipe_length σ us) fun j hj => wipe_get hj, I.ex, fun j hj => ?_, (wipe_length σ us).trans I.len, fun j d t hj n h => ?_, fun a h => I.ows a (oo a h), fun h => I.nod (oo _ h), fun j d h => ?_, I.at_, I.fr, I.rep⟩
  · rw [wipe_get fun z => hj (hu j z)]
    exact I.out j hj
  · exact I.own j d t hj n (wipeE_in h).2
  · obtain ⟨d', h'⟩ := I.io j d h
    have : j ∉ us := fun z => hio j (hu j z) _ h
    exact ⟨d', by rw [wipeE_get this]; exact h'⟩
theorem Bk.lci (I : Bk K σw vs e1w F1 H1 D0 σ env F H accV accD) (r1 : Rl K F1 H1 σw e1w) (hw : L2.wipe σw vs = σw) (hio : ∀ j ∈ vs, ∀ p, e1w[j]? ≠ some (some p)) : LcI K σw vs e1w F1 H1 D0 F H (wipeE env vs) accV accD := by
  have I2 := I.wipe (us := vs) (fun _ h => h) hio
  have e : L2.wipe σ vs = σw := by rw [← hw]; exact wipe_eq I.len I.out
  rw [e] at I2
  refine ⟨I2.rl, I2.ex, ⟨by rw [← I2.rl.len]; exact r1.len, fun j d t n h => ?_, I2.io⟩, I2.at_, I2.fr, I2.rep⟩
  exact I2.own j d t (wipeE_in h).1 n h
end
def lcl2 (vs vs1 : List Nat) (g : GM) (t : TM) (im1 : IM) (g1 : GM) (t1 : TM) (m : EM) : List D → Ev → Option (List D × Ev)
  | [], e => some ([], e)
  | d :: ds, e => (g d e).bind fun e1 => (t e1).bind fun b => if b.1 = true then (im1 b.2).bind fun x => (lcl vs1 g1 t1 m x.1 (wipeE x.2 vs1)).bind fun y => (lcl2 vs vs1 g t im1 g1 t1 m ds (wipeE y.2 vs)).map fun z => (y.1 ++ z.1, z.2)
    else lcl2 vs vs1 g t im1 g1 t1 m ds (wipeE b.2 vs)
def eLc2 (vs vs1 : List Nat) (im : CM) (g : GM) (t : TM) (im1 : IM) (g1 : GM) (t1 : TM) (m : EM) : EM := fun e => (im e).bind fun x => if (x.2.1.all fun i => decide (i ∉ vs)) = true then (lcl2 vs vs1 g t im1 g1 t1 m x.1 (wipeE x.2.2 vs)).bind fun y =>
  if y.1.length ≤ lim then some (.list y.1, .ow, bkH x.2.1 e (backE x.2.2 vs y.2)) else none else none
theorem lc2_core' {K : PySem.W.Frag} {vs vs1 : List Nat} (hvs : ∀ j ∈ vs1, j ∈ vs) {im : CM} {g g1 : GM} {t t1 : TM} {im1 : IM} {m : EM} {σ : Sg} {H : Hp} {Q : VK} (h : TEof K (eLc2 vs vs1 im g t im1 g1 t1 m) σ H Q) :
    tLc2 (TCof K im) (TGof K vs g) (TTof K t) (TFof K im1) (TGof K vs1 g1) (TTof K t1) (TEof K m) vs vs1 σ H Q := by
  obtain ⟨F, env, r, d, tg, env', e, k⟩ := h
  unfold eLc2 at e
  simp only [Option.bind_eq_some_iff] at e
  obtain ⟨⟨ds, hh, e1⟩, h1, h2⟩ := e
  split at h2
  rotate_left
  · cases h2
  rename_i hall
  simp only [Option.bind_eq_some_iff] at h2
  obtain ⟨⟨out, efin⟩, h3, h4⟩ := h2
  split at h4
  rotate_left
  · cases h4
  rename_i hz
  cases h4
  refine ⟨F, env, r, ds, hh, e1, h1, fun F1 H1 J p D0 hn => ?_⟩
  have r1 : Rl K F1 H1 (wipe σ vs) (wipeE e1 vs) := p.rl.wiped (wipe_length σ vs) fun j hj => wipe_get hj
  have hw : ∀ j ∈ vs, ∀ q, (wipeE e1 vs)[j]? ≠ some (some q) := fun j hj q z => (wipeE_in z).1 hj
  have ww : wipe (wipe σ vs) vs = wipe σ vs := wipe_eq (wipe_length σ vs) fun j hj => wipe_get hj
  have toJ : ∀ {F2 H2 : Hp}, Ex (wipe σ vs) (wipeE e1 vs) F1 H1 F2 H2 → Ex σ e1 F1 H1 F2 H2 := fun {F2 H2} ex => ⟨ex.subF, fun a o ha na => ex.keep a o ha fun z => na z.unwipe, ex.dom⟩
  refine ⟨fun i mm H2 => i + mm = ds.length ∧ ∃ F2 env2 accV accD rest, LcI K (wipe σ vs) vs (wipeE e1 vs) F1 H1 D0 F2 H2 env2 accV accD ∧ lcl2 vs vs1 g t im1 g1 t1 m (ds.drop i) env2 = some (rest, efin) ∧ accD ++ rest = out,
    ⟨ds.length, by simp, F1, wipeE e1 vs, [], [], out, ⟨?_, ⟨.refl _, fun a o ha _ => ⟨?_, fun z _ => z⟩, fun a ha => ?_⟩, .refl, upd_same, p.rl.sub.free hn, .nil⟩, by simpa using h3, rfl⟩, fun i mm H2 hW => ?_⟩
  · refine r1.grow (fun a o ha => ?_) (.refl _) fun a ha o ho => ⟨?_, fun z _ => z⟩
    · rw [upd_ne (ne_of_none (r1.sub a o ha) hn)]
      exact r1.sub a o ha
    · rw [upd_ne (ne_of_none ho hn)]
      exact ho
  · rw [upd_ne (ne_of_none ha hn)]
    exact ha
  · by_cases z : a = D0
    · rw [z]; exact hn
    · rw [upd_ne z] at ha
      exact ha
  obtain ⟨hm, F2, env2, accV, accD, rest, I, hl, hout⟩ := hW
  by_cases hi : i < ds.length
  · have hd : ds.drop i = ds[i] :: ds.drop (i + 1) := List.drop_eq_getElem_cons hi
    rw [hd] at hl
    simp only [lcl2, Option.bind_eq_some_iff] at hl
    obtain ⟨e3, h5, ⟨b, e4⟩, h6, h7⟩ := hl
    refine .inr ⟨p.it.go F2 H2 (toJ I.ex) I.rl.sub i hi, fun H6 => ∃ F2 env2 accV accD rest, LcI K (wipe σ vs) vs (wipeE e1 vs) F1 H1 D0 F2 H6 env2 accV accD ∧ lcl2 vs vs1 g t im1 g1 t1 m (ds.drop (i + 1)) env2 = some (rest, efin) ∧ accD ++ rest = out, fun H6 q => ⟨mm - 1, by omega, by omega, q⟩, fun x H3 hy => ?_⟩
    obtain ⟨F3, vp⟩ := p.it.yld F2 H2 (toJ I.ex) I.rl.sub i ds[i] (List.getElem?_eq_getElem hi) x H3 hy
    have s3 := vp.spost I.rl
    have B3 := (I.bk r1 hn).sp s3 (fun _ _ => rfl) (fun j d t _ n h => ⟨d, h⟩)
    refine ⟨F3, env2, ds[i], s3.rl, vp.rep, e3, h5, fun σ2 q4 hs => ⟨?_, F3, e3, q4.rl, b, e4, h6, fun F4 H4 p4 => ?_⟩⟩
    · exact wipe_eq ((q4.len).trans (wipe_length σ vs)) fun j hj => ((hs j hj).1).trans (wipe_get hj)
    · have B4 := (B3.sp q4 (fun j hj => (hs j hj).1) (fun j d t hj n h => ⟨d, by rw [← (hs j hj).2]; exact h⟩)).ep p4.rl p4.ex p4.le
      cases b with
      | true =>
        rw [if_pos rfl] at h7
        refine iteT ?_
        simp only [Option.bind_eq_some_iff, Option.map_eq_some_iff] at h7
        obtain ⟨⟨ds1, e5⟩, h8, ⟨l1, e6⟩, h9, ⟨rest2, ef⟩, h10, h11⟩ := h7
        cases h11
        refine ⟨F4, e4, p4.rl, ds1, e5, h8, fun F5 H5 J1 p5 => ?_⟩
        have B5 := B4.ep p5.rl p5.ex p5.le
        have B6 := B5.wipe (us := vs1) hvs hw
        refine ⟨fun j mm1 H7 => j + mm1 = ds1.length ∧ ∃ F7 e7 aV aD r7, Bk K (wipe σ vs) vs (wipeE e1 vs) F1 H1 D0 (wipe σ2 vs1) e7 F7 H7 aV aD ∧ Same F5 F7 ∧ lcl vs1 g1 t1 m (ds1.drop j) e7 = some (r7, e6) ∧ aD ++ r7 = accD ++ l1,
          ⟨ds1.length, by simp, F5, wipeE e5 vs1, accV, accD, l1, B6, .refl _, by simpa using h9, rfl⟩, fun j mm1 H7 hW1 => ?_⟩
        obtain ⟨hm1, F7, e7, aV, aD, r7, B7, sF7, hl7, ho7⟩ := hW1
        by_cases hj : j < ds1.length
        · have hd1 : ds1.drop j = ds1[j] :: ds1.drop (j + 1) := List.drop_eq_getElem_cons hj
          rw [hd1] at hl7
          simp only [lcl, Option.bind_eq_some_iff] at hl7
          obtain ⟨e8, h12, ⟨b1, e9⟩, h13, h14⟩ := hl7
          refine .inr ⟨p5.it.go F7 H7 sF7 B7.rl.sub j hj, fun H8 => ∃ F7 e7 aV aD r7, Bk K (wipe σ vs) vs (wipeE e1 vs) F1 H1 D0 (wipe σ2 vs1) e7 F7 H8 aV aD ∧ Same F5 F7 ∧ lcl vs1 g1 t1 m (ds1.drop (j + 1)) e7 = some (r7, e6) ∧ aD ++ r7 = accD ++ l1, fun H8 q => ⟨mm1 - 1, by omega, by omega, q⟩, fun x1 H8 hy1 => ?_⟩
          obtain ⟨F8, vp1⟩ := p5.it.yld F7 H7 sF7 B7.rl.sub j ds1[j] (List.getElem?_eq_getElem hj) x1 H8 hy1
          have s8 := vp1.spost B7.rl
          have B8 := B7.sp s8 (fun _ _ => rfl) (fun j d t _ n h => ⟨d, h⟩)
          refine ⟨F8, e7, ds1[j], s8.rl, vp1.rep, e8, h12, fun σ3 q9 hs9 => ⟨?_, F8, e8, q9.rl, b1, e9, h13, fun F9 H9 p9 => ?_⟩⟩
          · exact wipe_eq ((q9.len).trans (wipe_length σ2 vs1)) fun j hj => ((hs9 j hj).1).trans (wipe_get hj)
          · have B9 := (B8.sp q9 (fun j hj => (hs9 j (fun z => hj (hvs j z))).1) (fun j d t hj n h => ⟨d, by rw [← (hs9 j (fun z => hj (hvs j z))).2]; exact h⟩)).ep p9.rl p9.ex p9.le
            have sF9 : Same F5 F9 := sF7.trans (s8.ex.subF.trans (q9.ex.subF.trans p9.ex.subF))
            have back : L2.wipe σ3 vs1 = L2.wipe σ2 vs1 := wipe_eq ((q9.len).trans (wipe_length σ2 vs1)) fun j hj => ((hs9 j hj).1).trans (wipe_get hj)
            cases b1 with
            | true =>
              rw [if_pos rfl] at h14
              refine iteT ?_
              simp only [Option.bind_eq_some_iff, Option.map_eq_some_iff] at h14
              obtain ⟨⟨dx, tx, e10⟩, h15, ⟨r8, ef8⟩, h16, h17⟩ := h14
              cases h17
              have := eSh_tag h15
              subst this
              refine sh_core ⟨F9, e9, p9.rl, dx, .sh, e10, h15, fun F10 H10 v p10 => ?_⟩
              have B10 := B9.ep p10.rl p10.ex p10.le
              refine ⟨aV, B10.at_, ?_, F10, wipeE e10 vs1, aV ++ [v], aD ++ [dx], r8, ?_, sF9.trans p10.ex.subF, h16, by rw [List.append_assoc]; exact ho7⟩
              · rw [B7.rep.len]
                have hz' : out.length ≤ lim := hz
                have e1 := congrArg List.length ho7
                rw [← hout] at hz'
                simp only [List.length_append, List.length_cons] at hz' e1
                exact lim_lt (by omega)
              · have := (B10.app hn p10.rep).wipe (us := vs1) hvs hw
                rw [back] at this
                exact this
            | false =>
              rw [if_neg Bool.false_ne_true] at h14
              refine iteF ?_
              have := B9.wipe (us := vs1) hvs hw
              rw [back] at this
              exact ⟨F9, wipeE e9 vs1, aV, aD, r7, this, sF9, h14, ho7⟩
        · have hj' : j = ds1.length := by omega
          subst hj'
          simp only [List.drop_length, lcl] at hl7
          cases hl7
          rw [List.append_nil] at ho7
          refine .inl ⟨p5.it.stop F7 H7 sF7 B7.rl.sub, F7, _, aV, aD, rest2, B7.lci r1 ww hw, h10, ?_⟩
          rw [ho7, List.append_assoc]
          exact hout
      | false =>
        rw [if_neg Bool.false_ne_true] at h7
        refine iteF ?_
        exact ⟨F4, wipeE e4 vs, accV, accD, rest, B4.lci r1 ww hw, h7, hout⟩
  · have hi' : i = ds.length := by omega
    subst hi'
    simp only [List.drop_length, lcl2] at hl
    cases hl
    rw [List.append_nil] at hout
    subst hout
    exact .inl ⟨p.it.stop F2 H2 (toJ I.ex) I.rl.sub, k F2 H2 (.ref D0) (lc_fin r p hn I)⟩
section
variable {X : Cx} {elt tg iter tg1 iter1 : Expr} {ifs ifs1 : List Expr} {scope : Scope} {own : List (Str × Nat)} {pos spos : Pos} {vs vs1 : List Nat} {im : CM} {g g1 : GM} {t t1 : TM} {im1 : IM} {m : EM}
theorem d_lc2 (hc : X.calm = true) (hN : X.N.Nodup) (hi : PI X tg iter (TCof X.K im)) (ok : BlkOk X.N X.env.scope scope own) (hv : own.map (·.2) = vs) (hvs : ∀ j ∈ vs1, j ∈ vs)
    (hg : ∀ (s : Shared) (H : Hp) (C : Addr) (cl : List (Str × Addr)) (fp : List Addr), PG (X.blk s H scope (compEnvC scope cl C X.env) fp) tg (TGof X.K vs g)) (ht : ∀ (s : Shared) (H : Hp) (C : Addr) (cl : List (Str × Addr)) (fp : List Addr), PTs (X.blk s H scope (compEnvC scope cl C X.env) fp) ifs (TTof X.K t))
    (hi1 : ∀ (s : Shared) (H : Hp) (C : Addr) (cl : List (Str × Addr)) (fp : List Addr), PI (X.blk s H scope (compEnvC scope cl C X.env) fp) tg1 iter1 (TFof X.K im1))
    (hg1 : ∀ (s : Shared) (H : Hp) (C : Addr) (cl : List (Str × Addr)) (fp : List Addr), PG (X.blk s H scope (compEnvC scope cl C X.env) fp) tg1 (TGof X.K vs1 g1)) (ht1 : ∀ (s : Shared) (H : Hp) (C : Addr) (cl : List (Str × Addr)) (fp : List Addr), PTs (X.blk s H scope (compEnvC scope cl C X.env) fp) ifs1 (TTof X.K t1))
    (he : ∀ (s : Shared) (H : Hp) (C : Addr) (cl : List (Str × Addr)) (fp : List Addr), PE (X.blk s H scope (compEnvC scope cl C X.env) fp) elt (TEof X.K m)) (hs : ∀ x, foldedSetIterable iter X.env x = pure x := by intro _; rfl) (hs1 : ∀ env x, foldedSetIterable iter1 env x = pure x := by intro _ _; rfl) :
    PE X (.ListComp elt [⟨tg, iter, ifs, 0⟩, ⟨tg1, iter1, ifs1, 0⟩] scope pos) (TEof X.K (eLc2 vs vs1 im g t im1 g1 t1 m)) := by
  subst hv
  exact (pe_lc2 hc hN hi ok hvs hg ht hi1 hg1 ht1 he hs hs1).mono fun _ _ _ q => lc2_core' hvs q
end
end Dd
namespace Dd
open PySem PySem.Spec PyProof.Rows L2

def ItZ3 (K : PySem.W.Frag) (a b c : Addr) : It :=
  ⟨fun i H => ∃ xs ys zs : List V, SqL K H a xs ∧ SqL K H b ys ∧ SqL K H c zs ∧ i < xs.length ∧ i < ys.length ∧ i < zs.length,
    fun i H v H' => ∃ T x y z, v = .ref T ∧ H T = none ∧ H' = upd H T (.tup [x, y, z]) ∧ (∀ xs, SqL K H a xs → xs[i]? = some x) ∧ (∀ ys, SqL K H b ys → ys[i]? = some y) ∧ ∀ zs, SqL K H c zs → zs[i]? = some z,
    fun i H => ∃ xs ys zs : List V, SqL K H a xs ∧ SqL K H b ys ∧ SqL K H c zs ∧ i = min (min xs.length ys.length) zs.length⟩
theorem turn_zip3 {P : Program} {w : World} {K : PySem.W.Frag} {elts : List Expr} {kk : Nat} {tpos : Pos} {a b c z TI TO i1 i2 i3 : Addr} (S : ZipSep3 z TI TO i1 i2 i3 [i1, a] [i2, b] [i3, c]) :
    Turn P w K (.Tuple elts kk tpos) (ItZ3 K a b c) [z, TI, TO, i1, i2, i3] z (fun i h => IsZip h z TI TO .none ∧ IsTupOf3 h TI (.ref i1) (.ref i2) (.ref i3) ∧ (∃ x y u, IsTupOf3 h TO x y u) ∧ h.IsListIter i1 a i ∧ h.IsListIter i2 b i ∧ h.IsListIter i3 c i) where
  mem := by simp
  obj := fun i h q d hd => by
    obtain ⟨q1, q2, ⟨x, y, u, q3⟩, ⟨o1, e1, _, d1⟩, ⟨o2, e2, _, d2⟩, ⟨o3, e3, _, d3⟩⟩ := q
    have e' : d = z ∨ d = TI ∨ d = TO ∨ d = i1 ∨ d = i2 ∨ d = i3 := by simpa using hd
    rcases e' with g | g | g | g | g | g
    · rw [g]; exact ⟨_, q1, fun v q => nomatch q⟩
    · rw [g]; exact ⟨_, q2, fun v q => nomatch q⟩
    · rw [g]; exact ⟨_, q3, fun v q => nomatch q⟩
    · rw [g]; exact ⟨o1, e1, fun v q => by rw [d1] at q; cases q⟩
    · rw [g]; exact ⟨o2, e2, fun v q => by rw [d2] at q; cases q⟩
    · rw [g]; exact ⟨o3, e3, fun v q => by rw [d3] at q; cases q⟩
  keep := fun i h h' q k => by
    obtain ⟨q1, q2, ⟨x, y, u, q3⟩, h1, h2, h3⟩ := q
    exact ⟨k z (by simp) _ q1, k TI (by simp) _ q2, ⟨x, y, u, k TO (by simp) _ q3⟩, h1.at fun o q => k i1 (by simp) o q, h2.at fun o q => k i2 (by simp) o q, h3.at fun o q => k i3 (by simp) o q⟩
  item := by
    intro X hP hw hK hc i pins s σ H E I hf q hg
    subst hP hw hK
    obtain ⟨q1, q2, q3, h1, h2, h3⟩ := q
    obtain ⟨xs, ys, zs, sx, sy, sz, lx, ly, lz⟩ := hg
    obtain ⟨t1, r1, p1, _⟩ := I.list sx
    obtain ⟨t2, r2, p2, _⟩ := I.list sy
    obtain ⟨t3, r3, p3, _⟩ := I.list sz
    have hd := I.ok.hd hc
    have na : a ≠ i1 := fun e => by
      obtain ⟨o, e1, c1, _⟩ := h1
      obtain ⟨o', e2, c2, _⟩ := p1.isList
      rw [e, e1] at e2
      cases e2
      rw [c1] at c2
      exact absurd c2 (by decide)
    have nb : b ≠ i2 := fun e => by
      obtain ⟨o, e1, c1, _⟩ := h2
      obtain ⟨o', e2, c2, _⟩ := p2.isList
      rw [e, e1] at e2
      cases e2
      rw [c1] at c2
      exact absurd c2 (by decide)
    have nc : c ≠ i3 := fun e => by
      obtain ⟨o, e1, c1, _⟩ := h3
      obtain ⟨o', e2, c2, _⟩ := p3.isList
      rw [e, e1] at e2
      cases e2
      rw [c1] at c2
      exact absurd c2 (by decide)
    have W := WalksT.zipD3 (prog := X.prog) (w := X.w) (A := X.A) S (Draws.list (A := X.A.in1) hd i1 a na t1.toArray) (Draws.list (A := X.A.in1) hd i2 b nb t2.toArray) (Draws.list (A := X.A.in1) hd i3 c nc t3.toArray)
    have l1 := r1.length
    have l2 := r2.length
    have l3 := r3.length
    refine W.item i s _ _ (by simp only [List.size_toArray]; omega) ⟨q1, q2, q3, ⟨h1, p1.isList⟩, ⟨h2, p2.isList⟩, ⟨h3, p3.isList⟩⟩ fun T vals h' tk hv hT hI hM hk => ?_
    have hap := W.apart i T h' hM
    refine ⟨_, rfl, W.go elts kk tpos i T { s with heap := h', toks := tk } _ _ hM fun h'' st2 hk2 => ?_⟩
    obtain ⟨u1, u2, u3, v1, v2, v3, rfl⟩ := hv
    obtain ⟨g1, g2, g3, ⟨g4, _⟩, ⟨g5, _⟩, ⟨g6, _⟩⟩ := st2
    obtain ⟨x, hx, rx⟩ : ∃ x, xs[i]? = some x ∧ RelV x u1 := by
      obtain ⟨u, hu, ru⟩ := r1.get (List.getElem?_eq_getElem lx)
      have e : t1[i]? = some u1 := by simpa using v1
      rw [hu] at e
      cases e
      exact ⟨_, List.getElem?_eq_getElem lx, ru⟩
    obtain ⟨y, hy, ry⟩ : ∃ x, ys[i]? = some x ∧ RelV x u2 := by
      obtain ⟨u, hu, ru⟩ := r2.get (List.getElem?_eq_getElem ly)
      have e : t2[i]? = some u2 := by simpa using v2
      rw [hu] at e
      cases e
      exact ⟨_, List.getElem?_eq_getElem ly, ru⟩
    obtain ⟨zz, hz, rz⟩ : ∃ x, zs[i]? = some x ∧ RelV x u3 := by
      obtain ⟨u, hu, ru⟩ := r3.get (List.getElem?_eq_getElem lz)
      have e : t3[i]? = some u3 := by simpa using v3
      rw [hu] at e
      cases e
      exact ⟨_, List.getElem?_eq_getElem lz, ru⟩
    obtain ⟨oT, eT, cT, nT, dT⟩ := hI
    have eT2 : h''.get? T = some oT := hk2 T oT hap eT
    have sub : ∀ d, d ∉ [z, TI, TO, i1, i2, i3] → d ∉ [z, TO, i1, i2, i3] := fun d hd hd2 => hd (by
      have e' : d = z ∨ d = TO ∨ d = i1 ∨ d = i2 ∨ d = i3 := by simpa using hd2
      rcases e' with g | g | g | g | g <;> simp [g])
    have new : ObjOk X.prog X.w (upd H T (.tup [x, y, zz])) h'' T (.tup [x, y, zz]) :=
      ⟨by show 3 ≤ sizeLine; decide, [u1, u2, u3], .cons rx (.cons ry (.cons rz .nil)), ⟨oT, eT2, cT, nT, dT⟩⟩
    have J : Inv X pins σ (upd H T (.tup [x, y, zz])) { s with heap := h'', toks := tk } :=
      I.turnedNew (t' := tk) (ch := [z, TI, TO, i1, i2, i3]) (fun d o hb q => hk2 d o (sub d hb) (hk d o (sub d hb) q)) hf hT new
    refine ⟨.ref T, _, J, rfl, ⟨T, x, y, zz, rfl, I.hok.fresh hT, rfl, fun l hl => by rw [I.list_inj hl sx]; exact hx, fun l hl => by rw [I.list_inj hl sy]; exact hy, fun l hl => by rw [I.list_inj hl sz]; exact hz⟩, ⟨g1, g2, g3, g4, g5, g6⟩, fun d hd => ?_⟩
    have hlt : d ≠ T := fun e => by
      subst e
      have e' : d = z ∨ d = TI ∨ d = TO ∨ d = i1 ∨ d = i2 ∨ d = i3 := by simpa using hd
      rcases e' with g | g | g | g | g | g
      · exact hap (by simp [g])
      · rw [g] at hT; exact absurd (Heap.lt_size q2) (Nat.not_lt.mpr hT)
      · exact hap (by simp [g])
      · exact hap (by simp [g])
      · exact hap (by simp [g])
      · exact hap (by simp [g])
    rw [upd_ne hlt]
    exact (hf d hd).1
  done := by
    intro X hP hw hK hc i pins s σ H E I hf q hg
    subst hP hw hK
    obtain ⟨q1, q2, q3, h1, h2, h3⟩ := q
    obtain ⟨xs, ys, zs, sx, sy, sz, hi⟩ := hg
    obtain ⟨t1, r1, p1, _⟩ := I.list sx
    obtain ⟨t2, r2, p2, _⟩ := I.list sy
    obtain ⟨t3, r3, p3, _⟩ := I.list sz
    have hd := I.ok.hd hc
    have na : a ≠ i1 := fun e => by
      obtain ⟨o, e1, c1, _⟩ := h1
      obtain ⟨o', e2, c2, _⟩ := p1.isList
      rw [e, e1] at e2
      cases e2
      rw [c1] at c2
      exact absurd c2 (by decide)
    have nb : b ≠ i2 := fun e => by
      obtain ⟨o, e1, c1, _⟩ := h2
      obtain ⟨o', e2, c2, _⟩ := p2.isList
      rw [e, e1] at e2
      cases e2
      rw [c1] at c2
      exact absurd c2 (by decide)
    have nc : c ≠ i3 := fun e => by
      obtain ⟨o, e1, c1, _⟩ := h3
      obtain ⟨o', e2, c2, _⟩ := p3.isList
      rw [e, e1] at e2
      cases e2
      rw [c1] at c2
      exact absurd c2 (by decide)
    have W := WalksT.zipD3 (prog := X.prog) (w := X.w) (A := X.A) S (Draws.list (A := X.A.in1) hd i1 a na t1.toArray) (Draws.list (A := X.A.in1) hd i2 b nb t2.toArray) (Draws.list (A := X.A.in1) hd i3 c nc t3.toArray)
    have l1 := r1.length
    have l2 := r2.length
    have l3 := r3.length
    have en : min (min t1.toArray.size t2.toArray.size) t3.toArray.size = i := by simp only [List.size_toArray]; omega
    refine W.done s _ _ (by rw [en]; exact ⟨q1, q2, q3, ⟨h1, p1.isList⟩, ⟨h2, p2.isList⟩, ⟨h3, p3.isList⟩⟩) fun h' tk hk => ⟨rfl, I.turnedL (t' := tk) (ch := [z, TI, TO, i1, i2, i3]) (fun d o hb q => hk d o (fun hd2 => hb (by
      have e' : d = z ∨ d = TO ∨ d = i1 ∨ d = i2 ∨ d = i3 := by simpa using hd2
      rcases e' with g | g | g | g | g <;> simp [g])) q) hf⟩
  self := fun A i s Q E q h => wpAny_pyIter_zip q.1 h
def iZip3 (K : PySem.W.Frag) (ta : TA) : TI := fun σ H R => ta σ H fun vs H1 => ∃ a b c xs ys zs, vs = [.ref a, .ref b, .ref c] ∧ SqL K H1 a xs ∧ SqL K H1 b ys ∧ SqL K H1 c zs ∧ R (ItZ3 K a b c) H1
section
variable {X : Cx} {e e2 e3 : Expr} {p pos tpos : Pos} {elts : List Expr} {kk : Nat}
theorem pi_zip3 {ta : TA} (hg : Gl X "zip") (hm : X.mg "zip" = none) (ha : PA X [e, e2, e3] ta)
    (hs : starEach [e, e2, e3] X.env = (false, eval e X.env) :: starEach [e2, e3] X.env := by rfl) (hpl : (backTo pos (starEach [e2, e3] X.env)).any (·.1) = false := by rfl) :
    PI X (.Tuple elts kk tpos) (.Call (.Name "zip" p) [e, e2, e3] [] pos) (iZip3 X.K ta) := by
  refine ⟨fun pins s σ H R I h => ?_⟩
  refine Call_ (ld_blt I hg hm PyProof.Rows.boot_zip (PyProof.Rows.callWith_type1 (thn (ha.run pos pins s σ H _ I h) fun us s1 ⟨vs, H1, I1, r1, q1⟩ => ?_) hs hpl))
  obtain ⟨a, b, c, xs, ys, zs, ex, sx, sy, sz, q⟩ := q1
  subst ex
  cases r1 with
  | cons r rr =>
    cases rr with
    | cons r' rr =>
      cases rr with
      | cons r'' rr =>
        cases rr
        cases r
        cases r'
        cases r''
        obtain ⟨t1, v1, p1, _⟩ := I1.list sx
        obtain ⟨t2, v2, p2, _⟩ := I1.list sy
        obtain ⟨t3, v3, p3, _⟩ := I1.list sz
        refine zip_begins3 (begins_list a t1.toArray) (begins_list b t2.toArray) (begins_list c t3.toArray) p1.isList p2.isList p3.isList fun h' hz hTI hTO h1 h2 h3 hsz hk => wpAny_pyIter_zip hz ?_
        have I2 : Inv X pins σ H1 { s1 with heap := h' } := I1.kept (t' := s1.toks) hk
        have lt : ∀ {d : Addr}, d < s1.heap.objs.size → ∀ x ∈ [d], x < s1.heap.objs.size := fun h x hx => by rw [List.mem_singleton.mp hx]; exact h
        refine ⟨s1.heap.objs.size + 5, [s1.heap.objs.size + 5, s1.heap.objs.size + 3, s1.heap.objs.size + 4, s1.heap.objs.size, s1.heap.objs.size + 1, s1.heap.objs.size + 2], _, _, H1, rfl, I2, turn_zip3 (zip_sep3 (lt p1.lt) (lt p2.lt) (lt p3.lt)), ⟨hz, hTI, ⟨_, _, _, hTO⟩, ⟨_, h1, rfl, rfl⟩, ⟨_, h2, rfl, rfl⟩, ⟨_, h3, rfl, rfl⟩⟩, fun d hd => ?_, q⟩
        have e' : d = s1.heap.objs.size + 5 ∨ d = s1.heap.objs.size + 3 ∨ d = s1.heap.objs.size + 4 ∨ d = s1.heap.objs.size ∨ d = s1.heap.objs.size + 1 ∨ d = s1.heap.objs.size + 2 := by simpa using hd
        have hle : s1.heap.objs.size ≤ d := by
          rcases e' with g | g | g | g | g | g
          · rw [g]; exact Nat.le_add_right _ _
          · rw [g]; exact Nat.le_add_right _ _
          · rw [g]; exact Nat.le_add_right _ _
          · rw [g]; exact Nat.le_refl _
          · rw [g]; exact Nat.le_add_right _ _
          · rw [g]; exact Nat.le_add_right _ _
        exact I1.fpOk hle (I1.hok.fresh hle)
def zip3D : List D → List D → List D → List D
  | x :: xs, y :: ys, z :: zs => .tuple [x, y, z] :: zip3D xs ys zs
  | _, _, _ => []
theorem zip3D_len : ∀ xs ys zs : List D, (zip3D xs ys zs).length = min (min xs.length ys.length) zs.length
  | x :: xs, y :: ys, z :: zs => by simp only [zip3D, List.length_cons, zip3D_len xs ys zs]; omega
  | [], _, _ => by simp [zip3D]
  | _ :: _, [], _ => by simp [zip3D]
  | _ :: _, _ :: _, [] => by simp [zip3D]
theorem zip3D_get : ∀ {xs ys zs : List D} {i : Nat} {d : D}, (zip3D xs ys zs)[i]? = some d → ∃ x y z, xs[i]? = some x ∧ ys[i]? = some y ∧ zs[i]? = some z ∧ d = .tuple [x, y, z]
  | x :: xs, y :: ys, z :: zs, 0, d, h => by simp only [zip3D, List.getElem?_cons_zero, Option.some.injEq] at h; exact ⟨x, y, z, rfl, rfl, rfl, h.symm⟩
  | x :: xs, y :: ys, z :: zs, i + 1, d, h => by
    obtain ⟨a, b, c, h1, h2, h3, h4⟩ := zip3D_get (i := i) (by simpa [zip3D] using h)
    exact ⟨a, b, c, by simpa using h1, by simpa using h2, by simpa using h3, h4⟩
  | [], _, _, i, d, h => by simp [zip3D] at h
  | _ :: _, [], _, i, d, h => by simp [zip3D] at h
  | _ :: _, _ :: _, [], i, d, h => by simp [zip3D] at h
variable {l : LM}
def iZ3 (l : LM) : IM := fun e => (l e).bind fun x => match x.1 with
  | [.list xs, .list ys, .list zs] => some (zip3D xs ys zs, x.2)
  | _ => none
theorem w_z3 (hg : Gl X "zip") (hm : X.mg "zip" = none) (ha : PA X [e, e2, e3] (TLof X.K l)) (hs : starEach [e, e2, e3] X.env = (false, eval e X.env) :: starEach [e2, e3] X.env := by rfl) (hpl : (backTo pos (starEach [e2, e3] X.env)).any (·.1) = false := by rfl) :
    PI X (.Tuple elts kk tpos) (.Call (.Name "zip" p) [e, e2, e3] [] pos) (TIof X.K (iZ3 l)) := (pi_zip3 hg hm ha hs hpl).mono fun σ H R q => by
  obtain ⟨F, env, r, ds, env', e, k⟩ := q
  unfold iZ3 at e
  simp only [Option.bind_eq_some_iff] at e
  obtain ⟨⟨ds1, e1⟩, h1, h2⟩ := e
  split at h2
  · rename_i xs ys zs hd
    have hd : ds1 = [.list xs, .list ys, .list zs] := hd
    subst hd
    cases h2
    refine ⟨F, env, r, _, _, h1, fun F1 H1 us p => ?_⟩
    obtain ⟨v, w, t, rfl, rv, rw', rt⟩ : ∃ v w t, us = [v, w, t] ∧ Rep X.K F1 v (.list xs) ∧ Rep X.K F1 w (.list ys) ∧ Rep X.K F1 t (.list zs) := by
      cases p.rep with
      | cons a b =>
        cases b with
        | cons c d =>
          cases d with
          | cons f g =>
            cases g
            exact ⟨_, _, _, rfl, a, c, f⟩
    cases rv with
    | @lst a vs _ q1 r1 =>
      cases rw' with
      | @lst b ws _ q2 r2 =>
        cases rt with
        | @lst c ts _ q3 r3 =>
          have st1 : ∀ F2 H2, Ex σ e1 F1 H1 F2 H2 → Same F2 H2 → SqL X.K H2 a vs := fun F2 H2 ex s => sqL_mono s (sqL_mono ex.subF q1)
          have st2 : ∀ F2 H2, Ex σ e1 F1 H1 F2 H2 → Same F2 H2 → SqL X.K H2 b ws := fun F2 H2 ex s => sqL_mono s (sqL_mono ex.subF q2)
          have st3 : ∀ F2 H2, Ex σ e1 F1 H1 F2 H2 → Same F2 H2 → SqL X.K H2 c ts := fun F2 H2 ex s => sqL_mono s (sqL_mono ex.subF q3)
          have l1 := r1.len
          have l2 := r2.len
          have l3 := r3.len
          refine ⟨a, b, c, vs, ws, ts, rfl, sqL_mono p.rl.sub q1, sqL_mono p.rl.sub q2, sqL_mono p.rl.sub q3, k F1 H1 _ ⟨p.rl, p.ex, p.le, ⟨fun F2 H2 ex s i hi => ?_, fun F2 H2 ex s i d hd x H3 hy => ?_, fun F2 H2 ex s => ⟨vs, ws, ts, st1 F2 H2 ex s, st2 F2 H2 ex s, st3 F2 H2 ex s, ?_⟩⟩⟩⟩
          · rw [zip3D_len] at hi
            exact ⟨vs, ws, ts, st1 F2 H2 ex s, st2 F2 H2 ex s, st3 F2 H2 ex s, by omega, by omega, by omega⟩
          · obtain ⟨T, y, z, u, rfl, hT, rfl, hq, hq2, hq3⟩ := hy
            obtain ⟨d1, d2, d3, g1, g2, g3, rfl⟩ := zip3D_get hd
            obtain ⟨u1, hu1, ru1⟩ := r1.get g1
            obtain ⟨u2, hu2, ru2⟩ := r2.get g2
            obtain ⟨u3, hu3, ru3⟩ := r3.get g3
            have z1 := (hq vs (st1 F2 H2 ex s)).symm.trans hu1
            have z2 := (hq2 ws (st2 F2 H2 ex s)).symm.trans hu2
            have z3 := (hq3 ts (st3 F2 H2 ex s)).symm.trans hu3
            cases z1
            cases z2
            cases z3
            exact ⟨_, vp_tup s hT (.cons (ru1.mono ex.subF) (.cons (ru2.mono ex.subF) (.one (ru3.mono ex.subF))))⟩
          · rw [zip3D_len]
            omega
  · cases h2
end
end Dd
namespace Dd
open PySem PySem.Spec PyProof.Rows L2

def tLk (td : TE) : TE := fun σ H Q => td σ H fun x H1 => ∃ d u, x = .ref d ∧ H1 d = some u ∧ L2.Mut (some u) ∧ ∀ od, Q x (upd H1 d (.frz od u))
theorem pe_lk {X : Cx} {e : Expr} {td : TE} (h : PE X e td) : PE X e (tLk td) := ⟨fun pins s σ H Q I hw => thn (h.run pins s σ H _ I hw) fun v s1 ⟨x, H1, I1, r, d, u, ex, hd, mu, q⟩ => by
  subst ex
  obtain ⟨od, I2⟩ := I1.lock hd mu
  exact ⟨.ref d, _, I2, r, q od⟩⟩
/-- the rows as pairs -/
def rowsD (ds : List (D × D)) : List D := ds.map fun p => .tuple [p.1, p.2]
def iIt (m : EM) : IM := fun e => (m e).bind fun x => match x.1, x.2.1 with
  | .dict ((.none, .none) :: ds), .ow => some (rowsD ds, x.2.2)
  | .dict ds, .ow => some (rowsD ds, x.2.2)
  | _, _ => none
/-- our own thing, locked -/
theorem lock_post {K : PySem.W.Frag} {σ : Sg} {env env' : Ev} {F H F' H' : Hp} {a : Addr} {d : D} {u : HO} {od : Obj} (p : EPost K σ env F H d .ow env' F' H' (.ref a)) (hu : H' a = some u) :
    Rl K (upd F' a (.frz od u)) (upd H' a (.frz od u)) σ env' ∧ Ex σ env F H (upd F' a (.frz od u)) (upd H' a (.frz od u)) ∧ Same F' (upd F' a (.frz od u)) := by
  obtain ⟨_, a', ea, ⟨f, o, ho, w⟩, n, z⟩ := p.rep
  cases ea
  have sf : Same F' (upd F' a (.frz od u)) := fun b o q => by rw [upd_ne (ne_of_none q f)]; exact q
  have ne : ∀ b, Oa σ env' b → b ≠ a := fun b hb e => n (by rw [← e]; exact hb)
  refine ⟨p.rl.grow (fun b o q => ?_) sf fun b hb o q => ⟨by rw [upd_ne (ne b hb)]; exact q, fun z _ => by rw [upd_ne (ne b hb)]; exact z⟩, ⟨p.ex.subF.trans sf, fun b o hb nb => ?_, fun b hb => ?_⟩, sf⟩
  · by_cases e : b = a
    · subst e
      rw [upd_same] at q ⊢
      exact q
    · rw [upd_ne e] at q ⊢
      exact p.rl.sub b o q
  · have hne : b ≠ a := fun e => by
      subst e
      rcases z with z | z
      · rw [hb] at z; cases z
      · exact nb z.oa
    obtain ⟨k1, k2⟩ := p.ex.keep b o hb nb
    exact ⟨by rw [upd_ne hne]; exact k1, fun y nt => by rw [upd_ne hne]; exact k2 y nt⟩
  · by_cases e : b = a
    · subst e
      rw [upd_same] at hb
      cases hb
    · rw [upd_ne e] at hb
      exact p.ex.dom b hb
theorem RepK.get {K : PySem.W.Frag} {F : Hp} : ∀ {kvs : List (Key × V)} {ds : List (D × D)} {i : Nat} {p : D × D}, RepK K F kvs ds → ds[i]? = some p → ∃ k v, kvs[i]? = some (k, v) ∧ p.1 = kD k ∧ Rep K F v p.2
  | _, _, _, _, .nil, h => by simp at h
  | _, _, 0, _, .cons r _, h => by simp at h; subst h; exact ⟨_, _, rfl, rfl, r⟩
  | _, _, i + 1, _, .cons _ r, h => by
    obtain ⟨k, v, e, q⟩ := RepK.get (i := i) r (by simpa using h)
    exact ⟨k, v, by simpa using e, q⟩
theorem rep_key {K : PySem.W.Frag} {F : Hp} : ∀ k : Key, Rep K F (L2.kV k) (kD k)
  | .inl i => .int i
  | .inr s => .str s
theorem locked_tbl {X : Cx} {pins : List (Addr × Obj)} {σ : Sg} {H : Hp} {s : Shared} {d : Addr} {o : Obj} {kvs : List (List Key × V)} (J : Inv X pins σ H s) (hl : H d = some (.frz o (.dT kvs))) :
    (d == sysModules) = false ∧ ∃ es ep, DT.Raw s.heap d es ep ∧ o.data = .dict es ep ∧ es.size = kvs.length ∧ ∀ (i : Nat) k v, kvs[i]? = some (k, v) → ∃ en q, es[i]? = some en ∧ en.key = .ref q ∧ H q = some (.tup (k.map L2.kV)) ∧ RelV v en.val := by
  obtain ⟨g1, _, g2, xs, g3, _, es, ep, g4, g5, g6, g7, _⟩ := J.hok d _ hl
  rw [g1] at g4
  cases g4
  have n1 : es.size = xs.length := size_of_entries g7
  have n2 : kvs.length = xs.length := Paired.length g3
  refine ⟨g2, es, ep, ⟨o, g1, g5, g6⟩, g6, n1.trans n2.symm, fun i k v hi => ?_⟩
  obtain ⟨b, hb, m1, m2, m3⟩ := paired_get g3 hi
  have m4 := entry_at g7 i
  rw [hb] at m4
  exact ⟨_, b.2.1, m4, rfl, m2, m3⟩
def Itx (d : Addr) (o : Obj) (kvs : List (List Key × V)) (qs : List Addr) : It :=
  ⟨fun i H => H d = some (.frz o (.dT kvs)) ∧ i < kvs.length, fun i H x H' => ∃ T q k v, qs[i]? = some q ∧ kvs[i]? = some (k, v) ∧ x = .ref T ∧ H T = none ∧ H' = upd H T (.tup [.ref q, v]), fun i H => H d = some (.frz o (.dT kvs)) ∧ kvs.length ≤ i⟩
def KeysAt (H : Hp) (kvs : List (List Key × V)) (qs : List Addr) : Prop := qs.length = kvs.length ∧ ∀ (i : Nat) k v, kvs[i]? = some (k, v) → ∃ q, qs[i]? = some q ∧ H q = some (.tup (k.map L2.kV))
def iTbl (td : TE) : TI := fun σ H R => td σ H fun x H1 => ∃ d o kvs, x = .ref d ∧ H1 d = some (.frz o (.dT kvs)) ∧ ∀ qs, KeysAt H1 kvs qs → R (Itx d o kvs qs) H1
def keyAddr (en : DictEntry) : Addr := match en.key with
  | .ref q => q
  | _ => 0
theorem turn_tbl {P : Program} {w : World} {K : PySem.W.Frag} {d : Addr} {o : Obj} {es : Array DictEntry} {ep : Nat} {kvs : List (List Key × V)} {elts : List Expr} {kk : Nat} {tpos : Pos} (it : Addr) (hod : o.data = .dict es ep) :
    Turn P w K (.Tuple elts kk tpos) (Itx d o kvs (es.toList.map keyAddr)) [it] it (fun i h => ∃ ok ov, IsItemIter h it d i kvs.length ep ok ov) where
  mem := List.mem_singleton.mpr rfl
  obj := fun i h st b hb => by
    obtain rfl : b = it := List.mem_singleton.mp hb
    obtain ⟨ok, ov, e⟩ := st
    exact ⟨_, e, fun v z => nomatch z⟩
  keep := fun i h h' st k => let ⟨ok, ov, e⟩ := st; ⟨ok, ov, k it (List.mem_singleton.mpr rfl) _ e⟩
  item := by
    intro X hP hw hK hc i pins s σ H E J hf st hg
    subst hP hw hK
    obtain ⟨hd, hi⟩ := hg
    obtain ⟨_, es', ep', raw, hdt, hsz, ent⟩ := locked_tbl J hd
    obtain ⟨rfl, rfl⟩ := dict_ep hod hdt
    obtain ⟨⟨k, v⟩, hkv⟩ : ∃ p, kvs[i]? = some p := ⟨kvs[i], List.getElem?_eq_getElem hi⟩
    obtain ⟨en, q, hen, hkey, hq, hval⟩ := ent i k v hkv
    obtain ⟨ok, ov, he⟩ := st
    rw [← hsz] at he
    have hlt : it < s.heap.objs.size := Heap.lt_size he
    have his : i < es'.size := by omega
    have hie : es'[i] = en := by
      rw [Array.getElem?_eq_getElem his] at hen
      exact Option.some.inj hen
    refine DT.nextI he raw his fun h' ho hT hz hk => ?_
    rw [hie] at ho hT
    refine ⟨_, rfl, wpAny_letOwnedTupleGo_items (s := { s with heap := h' }) ho fun h2 he2 sb => ?_⟩
    have hT2 : h2.get? s.heap.objs.size = some { cls := .type "tuple", data := .seq #[en.key, en.val] } := (sb.2 _ (Nat.ne_of_gt hlt)).trans hT
    have rk : RelV (V.ref q) en.key := by rw [hkey]; exact rfl
    have fresh : ObjOk X.prog X.w (upd H s.heap.objs.size (.tup [.ref q, v])) h2 s.heap.objs.size (.tup [.ref q, v]) :=
      ⟨by show 2 ≤ sizeLine; decide, [en.key, en.val], .cons rk (.cons hval .nil), ⟨_, hT2, rfl, _, rfl⟩⟩
    have J1 : Inv X pins σ (upd H s.heap.objs.size (.tup [.ref q, v])) { s with heap := h2 } :=
      J.turnedNew (t' := s.toks) (ch := [it]) (fun b ob hb e => (sb.2 b (by simpa using hb)).trans (hk b ob (by simpa using hb) e)) hf (Nat.le_refl _) fresh
    have hqs : (es'.toList.map keyAddr)[i]? = some q := by
      rw [List.getElem?_map, Array.getElem?_toList, hen]
      show some (keyAddr en) = _
      unfold keyAddr
      rw [hkey]
    refine ⟨.ref s.heap.objs.size, _, J1, rfl, ⟨_, q, k, v, hqs, hkv, rfl, J.hok.fresh (Nat.le_refl _), rfl⟩, ⟨en.key, en.val, ?_⟩, fun b hb => ?_⟩
    · rw [← hsz, ← hie]
      rw [← hie] at he2
      exact he2
    · obtain rfl : b = it := List.mem_singleton.mp hb
      rw [upd_ne (Nat.ne_of_lt hlt)]
      exact (hf b (List.mem_singleton.mpr rfl)).1
  done := by
    intro X hP hw hK hc i pins s σ H E J hf st hg
    subst hP hw hK
    obtain ⟨hd, hi⟩ := hg
    obtain ⟨f0, f1, f2, f3, f4, f5⟩ := hf it (List.mem_singleton.mpr rfl)
    obtain ⟨_, es', ep', raw, hdt, hsz, ent⟩ := locked_tbl J hd
    obtain ⟨rfl, rfl⟩ := dict_ep hod hdt
    obtain ⟨ok, ov, he⟩ := st
    rw [← hsz] at he
    exact DT.endI (J.ok.hd hc) he raw (by omega) fun h' eb => ⟨rfl, J.turned (t' := s.toks) (fun b ob hb e => eb b ob hb e) f0 f1 f3 f4 f5⟩
  self := fun A i s Q E st h => let ⟨_, _, e⟩ := st; PySem.W.kcp_self e h
theorem pi_tbl {X : Cx} {e : Expr} {td : TE} {apos cpos : Pos} {elts : List Expr} {kk : Nat} {tpos : Pos} (he : PE X e td) (hbase : attributeBase e "items" X.env (eval e X.env) = eval e X.env := by rfl) (hline : (apos.endLine == cpos.line) = true := by rfl) :
    PI X (.Tuple elts kk tpos) (.Call (.Attribute e "items" apos) [] [] cpos) (iTbl td) := by
  refine ⟨fun pins s σ H R J h => ?_⟩
  refine wpAny_Call_method (T := "dict") (id := "dict.items") hbase rfl hline F.plainAttrs_dict F.slot_dict_items F.type_dict_items (thn (he.run pins s σ H _ J h) fun u s1 ⟨x, H1, J1, rx, d, o, kvs, ex, hd, q⟩ => ?_)
  subst ex
  obtain rfl : u = Value.ref d := rx
  obtain ⟨hs, es, ep, raw, hdt, hsz, ent⟩ := locked_tbl J1 hd
  obtain ⟨o', g1, g2, _⟩ := id raw
  refine ⟨raw.typeIs, fun b z => by cases z; exact ⟨o', g1, g2.2.1⟩, ?_⟩
  have J2 : Inv X pins σ H1 { s1 with heap := s1.heap.push { cls := .type "dict_items", data := .fields #[.ref d] } } := J1.kept (t' := s1.toks) fun b ob q => Heap.get?_push_of_some _ q
  have qk : KeysAt H1 kvs (es.toList.map keyAddr) := by
    refine ⟨by rw [List.length_map, Array.length_toList, hsz], fun i k v hi => ?_⟩
    obtain ⟨en, q, m1, m2, m3, _⟩ := ent i k v hi
    refine ⟨q, ?_, m3⟩
    rw [List.getElem?_map, Array.getElem?_toList, m1]
    show some (keyAddr en) = _
    unfold keyAddr
    rw [m2]
  have fin : wpAny (model X.prog X.w) X.A (pyIter (.ref s1.heap.objs.size)) (PIE X pins σ (.Tuple elts kk tpos) R) X.xe { s1 with heap := s1.heap.push { cls := .type "dict_items", data := .fields #[.ref d] } } := by
    refine DT.iterI (d := d) ⟨_, Heap.get?_push_size _ rfl, rfl, rfl⟩ (raw.push _) (pi_one (tk := s1.toks) J2 _ (turn_tbl _ hdt) ⟨.none, .none, ?_⟩ (q _ qk))
    rw [← hsz]
    exact Heap.get?_push_size _ rfl
  show wpAny _ _ (callWith cpos (.builtin "dict.items") [.ref d] [] []) _ X.xe s1
  exact method_meetsIn F.slot_dict_items F.entry_dict_items rfl (PySem.evalArgs_none ⟨rfl, raw.typeIs, F.args_dict_items_1 _, _, DT.meetsItems (es := es) (ep := ep) hs, ⟨raw, fin⟩⟩)
open Classical in
/-- with some tuples frozen -/
noncomputable def withT (F H : Hp) (qs : List Addr) : Hp := fun b => if b ∈ qs then H b else F b
theorem freeze_tups {K : PySem.W.Frag} {σ : Sg} {env : Ev} {F H : Hp} (r : Rl K F H σ env) {qs : List Addr} (hq : ∀ q ∈ qs, ∃ xs, H q = some (.tup xs)) : Rl K (withT F H qs) H σ env ∧ Ex σ env F H (withT F H qs) H ∧ Same F (withT F H qs) := by
  have sf : Same F (withT F H qs) := fun b o h => by
    unfold withT
    by_cases hb : b ∈ qs
    · rw [if_pos hb]; exact r.sub b o h
    · rw [if_neg hb]; exact h
  have sh : Same (withT F H qs) H := fun b o h => by
    unfold withT at h
    by_cases hb : b ∈ qs
    · rw [if_pos hb] at h; exact h
    · rw [if_neg hb] at h; exact r.sub b o h
  have nf : ∀ b o, H b = some o → Nf o (F b) (withT F H qs b) := fun b o h z nt => by
    unfold withT
    by_cases hb : b ∈ qs
    · obtain ⟨xs, hx⟩ := hq b hb
      rw [h] at hx
      exact (nt xs (Option.some.inj hx)).elim
    · rw [if_neg hb]; exact z
  exact ⟨r.grow sh sf fun b _ o h => ⟨h, nf b o h⟩, ⟨sf, fun b o h _ => ⟨h, nf b o h⟩, fun _ z => z⟩, sf⟩
theorem RepT.get {K : PySem.W.Frag} {F : Hp} : ∀ {kvs : List (List Key × V)} {ds : List (D × D)} {i : Nat} {p : D × D}, RepT K F kvs ds → ds[i]? = some p → ∃ k v, kvs[i]? = some (k, v) ∧ p.1 = tD k ∧ Rep K F v p.2
  | _, _, _, _, .nil, h => by simp at h
  | _, _, 0, _, .cons r _, h => by simp at h; subst h; exact ⟨_, _, rfl, rfl, r⟩
  | _, _, i + 1, _, .cons _ r, h => by
    obtain ⟨k, v, e, q⟩ := RepT.get (i := i) r (by simpa using h)
    exact ⟨k, v, by simpa using e, q⟩
theorem reps_key {K : PySem.W.Frag} {F : Hp} : ∀ ks : List Key, Reps K F (ks.map L2.kV) (ks.map kD)
  | [] => .nil
  | k :: ks => .cons (rep_key k) (reps_key ks)
section
variable {X : Cx} {e : Expr} {elts : List Expr} {kk : Nat} {tpos apos cpos : Pos} {m : EM}
theorem w_it (h : PE X e (TEof X.K m)) (hbase : attributeBase e "items" X.env (eval e X.env) = eval e X.env := by rfl) (hline : (apos.endLine == cpos.line) = true := by rfl) :
    PI X (.Tuple elts kk tpos) (.Call (.Attribute e "items" apos) [] [] cpos) (TIof X.K (iIt m)) := (PI.or (pi_items (pe_lk h) hbase hline) (pi_tbl (pe_lk h) hbase hline)).mono fun σ H R q => by
  obtain ⟨F, env, r, ds, env', e, k⟩ := q
  unfold iIt at e
  simp only [Option.bind_eq_some_iff] at e
  obtain ⟨⟨d, t, e1⟩, h1, h2⟩ := e
  split at h2
  · rename_i dsT hd ht
    have hd : d = .dict ((.none, .none) :: dsT) := hd
    have ht : t = .ow := ht
    subst hd ht
    obtain ⟨rfl, rfl⟩ : rowsD dsT = ds ∧ e1 = env' := by cases h2; exact ⟨rfl, rfl⟩
    refine .inr ⟨F, env, r, _, _, _, h1, fun F1 H1 v p => ?_⟩
    obtain ⟨_, a, rfl, ⟨f, o, ho, w⟩, n, z⟩ := p.rep
    cases w with
    | dK rk => exact (repK_noT rk).elim
    | @dT kvs ds1 rk =>
      refine ⟨a, _, rfl, ho, trivial, fun od => ⟨a, od, kvs, rfl, upd_same, fun qs hqs => ?_⟩⟩
      obtain ⟨l1, l2, l3⟩ := lock_post (od := od) p ho
      have hl : kvs.length = dsT.length := rk.len
      obtain ⟨m1, m2, m3⟩ := freeze_tups l1 (qs := qs) fun q hq => by
        obtain ⟨i, hi⟩ := List.mem_iff_getElem?.mp hq
        have hil : i < kvs.length := by rw [← hqs.1]; exact (List.getElem?_eq_some_iff.mp hi).1
        obtain ⟨q', g1, g2⟩ := hqs.2 i kvs[i].1 kvs[i].2 (List.getElem?_eq_getElem hil)
        rw [hi] at g1
        cases g1
        exact ⟨_, g2⟩
      have key_at : ∀ (i : Nat) k v q, kvs[i]? = some (k, v) → qs[i]? = some q → withT (upd F1 a (.frz od (.dT kvs))) (upd H1 a (.frz od (.dT kvs))) qs q = some (.tup (k.map L2.kV)) := fun i k v q g1 g2 => by
        obtain ⟨q', g3, g4⟩ := hqs.2 i k v g1
        rw [g2] at g3
        cases g3
        unfold withT
        rw [if_pos (List.mem_of_getElem? g2)]
        exact g4
      have at_ : ∀ {F2 H2 : Hp}, Ex σ e1 (withT (upd F1 a (.frz od (.dT kvs))) (upd H1 a (.frz od (.dT kvs))) qs) (upd H1 a (.frz od (.dT kvs))) F2 H2 → Same F2 H2 → H2 a = some (.frz od (.dT kvs)) := fun ex s => s _ _ (ex.subF _ _ (m3 _ _ upd_same))
      refine k _ _ _ ⟨m1, l2.trans m2 fun x hx => .inl (p.le.oa hx), p.le, ⟨fun F2 H2 ex s i hi => ⟨at_ ex s, ?_⟩, fun F2 H2 ex s i d hd x H3 hy => ?_, fun F2 H2 ex s => ⟨at_ ex s, ?_⟩⟩⟩
      · rw [hl]
        simpa [rowsD] using hi
      · obtain ⟨T, q, kk, v, hqi, hk, rfl, hT, rfl⟩ := hy
        unfold rowsD at hd
        rw [List.getElem?_map] at hd
        simp only [Option.map_eq_some_iff] at hd
        obtain ⟨p2, h3, h4⟩ := hd
        subst h4
        obtain ⟨k', v', g1, g2, g3⟩ := rk.get h3
        rw [hk] at g1
        cases g1
        rw [g2]
        have kq := ex.subF _ _ (key_at i kk v q hk hqi)
        exact ⟨_, vp_tup s hT (.cons (.tup kq (reps_key kk)) (.one (g3.mono ((l3.trans m3).trans ex.subF))))⟩
      · rw [hl]
        simp [rowsD]
  · rename_i ds0 hno hd ht
    have hd : d = .dict ds0 := hd
    have ht : t = .ow := ht
    subst hd ht
    obtain ⟨rfl, rfl⟩ : rowsD ds0 = ds ∧ e1 = env' := by cases h2; exact ⟨rfl, rfl⟩
    refine .inl ⟨F, env, r, _, _, _, h1, fun F1 H1 v p => ?_⟩
    obtain ⟨_, a, rfl, ⟨f, o, ho, w⟩, n, z⟩ := p.rep
    cases w with
    | dT _ => exact (hno _ rfl).elim
    | @dK kvs ds1 rk =>
      refine ⟨a, _, rfl, ho, trivial, fun od => ⟨a, od, kvs, rfl, upd_same, ?_⟩⟩
      obtain ⟨l1, l2, l3⟩ := lock_post (od := od) p ho
      have at_ : ∀ {F2 H2 : Hp}, Ex σ e1 (upd F1 a (.frz od (.dK kvs))) (upd H1 a (.frz od (.dK kvs))) F2 H2 → Same F2 H2 → H2 a = some (.frz od (.dK kvs)) := fun ex s => s _ _ (ex.subF _ _ upd_same)
      have hl : kvs.length = ds0.length := rk.len
      refine k _ _ _ ⟨l1, l2, p.le, ⟨fun F2 H2 ex s i hi => ⟨at_ ex s, ?_⟩, fun F2 H2 ex s i d hd x H3 hy => ?_, fun F2 H2 ex s => ⟨at_ ex s, ?_⟩⟩⟩
      · rw [hl]
        simpa [rowsD] using hi
      · obtain ⟨T, kk, v, hk, rfl, hT, rfl⟩ := hy
        unfold rowsD at hd
        rw [List.getElem?_map] at hd
        simp only [Option.map_eq_some_iff] at hd
        obtain ⟨q, h3, h4⟩ := hd
        subst h4
        obtain ⟨k', v', g1, g2, g3⟩ := rk.get h3
        rw [hk] at g1
        cases g1
        rw [g2]
        exact ⟨_, vp_tup s hT (.cons (rep_key _) (.one (g3.mono (l3.trans ex.subF))))⟩
      · rw [hl]
        simp [rowsD]
  · cases h2
end
end Dd
namespace L2
open PySem PySem.Spec PyProof.Rows
theorem PE.or {X : Cx} {e : Expr} {t1 t2 : TE} (h1 : PE X e t1) (h2 : PE X e t2) : PE X e (fun σ H Q => t1 σ H Q ∨ t2 σ H Q) := ⟨fun pins s σ H Q I h => h.elim (h1.run pins s σ H Q I) (h2.run pins s σ H Q I)⟩
theorem PT.or {X : Cx} {e : Expr} {t1 t2 : TT} (h1 : PT X e t1) (h2 : PT X e t2) : PT X e (fun σ H Q => t1 σ H Q ∨ t2 σ H Q) := ⟨fun pins s σ H Q I h => h.elim (h1.run pins s σ H Q I) (h2.run pins s σ H Q I)⟩
theorem PS.or {X : Cx} {e : Stmt} {t1 t2 : TS} (h1 : PS X e t1) (h2 : PS X e t2) : PS X e (fun D σ H => t1 D σ H ∨ t2 D σ H) := ⟨fun pins s σ H D I h => h.elim (h1.run pins s σ H D I) (h2.run pins s σ H D I)⟩
end L2
namespace Dd
open PySem PySem.Spec PyProof.Rows L2
def alt2 (f g : D → D → Option Res) : D → D → Option Res := fun x y => match f x y with
  | some r => some r
  | none => g x y
theorem alt2_or {f g : D → D → Option Res} {x y : D} {r : Res} (h : alt2 f g x y = some r) : f x y = some r ∨ g x y = some r := by
  unfold alt2 at h
  split at h
  · rename_i q; exact .inl (by rw [q]; exact h)
  · exact .inr h
theorem alt2_core {K : PySem.W.Frag} {f g : D → D → Option Res} {o1 o2 : OM} {σ : Sg} {H : Hp} {Q : VK} (h : TEof K (e2 (alt2 f g) o1 o2) σ H Q) : TEof K (e2 f o1 o2) σ H Q ∨ TEof K (e2 g o1 o2) σ H Q := by
  obtain ⟨F, env, r, d, t, env', e, k⟩ := h
  obtain ⟨r1, em, r2, a, b, h1, h2, h3, h4, h5⟩ := e2_inv e
  rcases alt2_or h5 with h5 | h5
  · exact .inl ⟨F, env, r, d, t, env', by unfold e2; simp [h1, h2, h3, h4, h5], k⟩
  · exact .inr ⟨F, env, r, d, t, env', by unfold e2; simp [h1, h2, h3, h4, h5], k⟩
theorem alt2_coreT {K : PySem.W.Frag} {f g : D → D → Option Res} {o1 o2 : OM} {σ : Sg} {H : Hp} {Q : Bool → Hp → Prop} (h : TTof K (tB (e2 (alt2 f g) o1 o2)) σ H Q) : TTof K (tB (e2 f o1 o2)) σ H Q ∨ TTof K (tB (e2 g o1 o2)) σ H Q := by
  obtain ⟨F, env, r, b, env', e, k⟩ := h
  have e' := tB_inv e
  obtain ⟨r1, em, r2, a, c, h1, h2, h3, h4, h5⟩ := e2_inv e'
  rcases alt2_or h5 with h5 | h5
  · exact .inl ⟨F, env, r, b, env', by unfold tB e2; simp [h1, h2, h3, h4, h5], k⟩
  · exact .inr ⟨F, env, r, b, env', by unfold tB e2; simp [h1, h2, h3, h4, h5], k⟩
def dIxA : D → D → Option Res := alt2 dIx dDix
def dInA : D → D → Option Res := alt2 dIn dDin
def dNinA : D → D → Option Res := alt2 dNin dDnin
section
variable {X : Cx} {a b : Expr} {o1 o2 : OM} {pos : Pos}
theorem d_sh {e : Expr} {m : EM} (h : PE X e (TEof X.K m)) : PE X e (TEof X.K (eSh m)) := h.mono fun _ _ _ q => sh_core q
theorem g_sub {t : Expr} {vs ws : List Nat} {g : GM} (hs : ∀ j ∈ vs, j ∈ ws) (h : PG X t (TGof X.K vs g)) : PG X t (TGof X.K ws g) := ⟨fun pins s σ H v u Q I r q => h.run pins s σ H v u Q I r (by
  obtain ⟨F, env, d, q1, q2, env', q3, q4⟩ := q
  exact ⟨F, env, d, q1, q2, env', q3, fun σ' sp k => q4 σ' sp fun j hj => k j fun z => hj (hs j z)⟩)⟩
theorem d_ixA (hu : X.A.units + 1 < cLine) (ha : PE X a (TOof X.K o1)) (hb : PE X b (TOof X.K o2)) (hs : PlainIx b := by intro _ _; rfl) (hs2 : NoSl b := by intro _ _; rfl) : PE X (.Subscript a b pos) (TEof X.K (e2 dIxA o1 o2)) :=
  ((d_ix ha hb hs).or (d_dix hu ha hb hs2)).mono fun _ _ _ q => alt2_core q
theorem d_inA (hu : X.A.units + 64 < cLine) (ha : PE X a (TOof X.K o1)) (hb : PE X b (TOof X.K o2)) (hm : behindInMarks .In b = false := by rfl) : PE X (.Compare a [.In] [b] pos) (TEof X.K (e2 dInA o1 o2)) :=
  ((d_cmp (ov_in hu) ha hb hm).or (d_din (by omega) ha hb hm)).mono fun _ _ _ q => alt2_core q
theorem y_inA (hu : X.A.units + 64 < cLine) (ha : PE X a (TOof X.K o1)) (hb : PE X b (TOof X.K o2)) (hm : behindInMarks .In b = false := by rfl) : PT X (.Compare a [.In] [b] pos) (TTof X.K (tB (e2 dInA o1 o2))) :=
  ((y_cmp (ov_in hu) ha hb hm).or (y_din (by omega) ha hb hm)).mono fun _ _ _ q => alt2_coreT q
theorem y_ninA (hu : X.A.units + 64 < cLine) (ha : PE X a (TOof X.K o1)) (hb : PE X b (TOof X.K o2)) (hm : behindInMarks .NotIn b = false := by rfl) : PT X (.Compare a [.NotIn] [b] pos) (TTof X.K (tB (e2 dNinA o1 o2))) :=
  ((y_cmp (ov_nin hu) ha hb hm).or (y_dnin (by omega) ha hb hm)).mono fun _ _ _ q => alt2_coreT q
def altS (f g : SM) : SM := fun e => match f e with
  | some r => some r
  | none => g e
theorem altS_core {K : PySem.W.Frag} {f g : SM} {D' : Ends} {σ : Sg} {H : Hp} (h : TSof K (altS f g) D' σ H) : TSof K f D' σ H ∨ TSof K g D' σ H := by
  obtain ⟨F, env, r, out, e, w⟩ := h
  unfold altS at e
  split at e
  · rename_i q
    exact .inl ⟨F, env, r, out, by rw [q]; exact e, w⟩
  · exact .inr ⟨F, env, r, out, e, w⟩
theorem z_alt {st : Stmt} {f g : SM} (h1 : PS X st (TSof X.K f)) (h2 : PS X st (TSof X.K g)) : PS X st (TSof X.K (altS f g)) := (h1.or h2).mono fun _ _ _ q => altS_core q
def altI (f g : IM) : IM := fun e => match f e with
  | some r => some r
  | none => g e
theorem w_alt {tg e : Expr} {f g : IM} (h1 : PI X tg e (TIof X.K f)) (h2 : PI X tg e (TIof X.K g)) : PI X tg e (TIof X.K (altI f g)) := (PI.or h1 h2).mono fun σ H R h => by
  obtain ⟨F, env, r, ds, env', e, w⟩ := h
  unfold altI at e
  split at e
  · rename_i q
    exact .inl ⟨F, env, r, ds, env', by rw [q]; exact e, w⟩
  · exact .inr ⟨F, env, r, ds, env', e, w⟩
end
/-- the i-th store -/
def tPuts : List Nat → TGs := fun is xs σ H R => xs.length = is.length ∧ R (sets is xs σ) H
section
variable {X : Cx} {es ts : List Expr} {is : List Nat} {w : WM} {pos pt pt2 : Pos} {kt k2 : Nat}
theorem p_nil : PGs X [] (tPuts []) := ⟨fun pins s σ H xs us R I r h => by
  obtain ⟨h1, h2⟩ := h
  have : xs = [] := List.eq_nil_of_length_eq_zero h1
  subst this
  exact pgs_nil.run pins s σ H [] us R I r ⟨rfl, h2⟩⟩
theorem p_cons {e : Expr} {i : Nat} (h1 : PG X e (gName i)) (h2 : PGs X es (tPuts is)) (hs : (assignEach (e :: es) X.env).map (·.2) = assign e X.env :: (assignEach es X.env).map (·.2) := by rfl) : PGs X (e :: es) (tPuts (i :: is)) := ⟨fun pins s σ H xs us R I r h => by
  obtain ⟨h1', h2'⟩ := h
  cases xs with
  | nil => cases h1'
  | cons v vs =>
    exact (pgs_cons h1 h2 hs).run pins s σ H (v :: vs) us R I r ⟨v, vs, rfl, Nat.succ.inj h1', h2'⟩⟩
theorem SPost.junk {K : PySem.W.Frag} {σ : Sg} {env : Ev} {F H : Hp} {env' : Ev} {F' H' : Hp} {σ' : Sg} {p : Addr} {o : HO} (q : SPost K σ env F H env' F' H' σ') (hn : H' p = none) : SPost K σ env F H env' F' (upd H' p o) σ' := by
  refine ⟨q.rl.grow (fun a x h => ?_) (.refl _) fun a _ x h => ⟨?_, fun z _ => z⟩, ⟨q.ex.subF, fun a x h n => ?_, fun a h => ?_⟩, q.len, q.own, q.io, q.io2⟩
  · have := q.rl.sub a x h
    rw [upd_ne (ne_of_none this hn)]
    exact this
  · rw [upd_ne (ne_of_none h hn)]
    exact h
  · obtain ⟨k1, k2⟩ := q.ex.keep a x h n
    exact ⟨by rw [upd_ne (ne_of_none k1 hn)]; exact k1, k2⟩
  · by_cases e : a = p
    · rw [e, upd_same] at h
      cases h
    · rw [upd_ne e] at h
      exact q.ex.dom a h
theorem par_coreT {K : PySem.W.Frag} {D' : Ends} {σ : Sg} {H : Hp} (h : TSof K (sPar is w) D' σ H) : TWof K w σ H fun vs H1 => vs.length = is.length ∧ ∀ p o, H1 p = none → D'.nx (sets is vs σ) (upd H1 p o) := by
  obtain ⟨F, env, r, out, e, wk⟩ := h
  have par2 := par_core (K := K) (D' := { D' with nx := fun σ2 H2 => ∀ p o, H2 p = none → D'.nx σ2 (upd H2 p o) }) (σ := σ) (H := H) (is := is) (w := w) ⟨F, env, r, out, e, by
    unfold sPar at e
    simp only [Option.bind_eq_some_iff, Option.map_eq_some_iff] at e
    obtain ⟨⟨ts, e1⟩, h1, e2, h2, h3⟩ := e
    subst h3
    exact fun F' H' σ' p a o hn => wk F' _ σ' (p.junk hn)⟩
  exact par2
theorem z_parT {n : Nat} (hc : X.calm = true) (ha : PA X es (TWof X.K w)) (hp : PGs X ts (tPuts is)) (hl : is.length = n) (h8 : n ≤ 8)
    (hn : (assignEach ts X.env).length = n := by rfl) (hst : (assignEach ts X.env).findIdx? (·.1) = none := by rfl)
    (hs : swapsWithSole [.Tuple ts kt pt] (.Tuple es k2 pt2) pos.line X.env = pure false := by rfl) (hw : swappedStores [.Tuple ts kt pt] (.Tuple es k2 pt2) X.env = pure none := by rfl)
    (h1 : (assignEach [.Tuple ts kt pt] X.env).map (·.2) = [assign (.Tuple ts kt pt) X.env] := by rfl) :
    PS X (.Assign [.Tuple ts kt pt] (.Tuple es k2 pt2) pos) (TSof X.K (sPar is w)) := (ps_asg (pe_tup ha) (pg_tup hc hp hn hst) hs hw h1).mono fun D' σ H h => by
  obtain ⟨F, env, r, ts, e1, h1, k⟩ := par_coreT h
  refine ⟨F, env, r, ts, e1, h1, fun F1 H1 vs p => ?_⟩
  obtain ⟨h2, h3⟩ := k F1 H1 vs p
  refine ⟨by rw [h2, hl]; exact lim_line (Nat.le_trans h8 (by decide)), fun q hq => ⟨q, vs, rfl, .of upd_same, h2.trans hl, h2, h3 q _ hq⟩⟩
end
section
variable {P : Program} {w : World} {K : PySem.W.Frag} {mg : Str → Option Value} {base : Heap}
/-- a def that raises nothing where its function has a value -/
theorem fnD_ok {x qual : Str} {params : Arguments} {body : List Stmt} {scope : Scope} {dvs : List V} {kws : List (Str × V)} {f : Addr} {fd : FuncData} {N ps : List Str} {k : Nat} {b : SM} (F : FunD K x qual params body scope dvs kws f fd) (S : FnScope N ps scope) (n p : Nat) (hn : N.length = n) (hp : ps.length = p)
    (hbody : ∀ (cdv : Value) (A : Around) (outer : List PySem.Env) (s : Shared) (H : Hp), Room k (A.deeper (envOfC qual scope s.heap.objs.size f cdv)) →
      PSs (cxOf CX0 P w K mg base N qual scope f cdv A outer s H E0).nox body (TSof K b)) : FnOk P w K mg base CX0 (k + 1) f fd ps (spP K (mFn n p b)) := by
  have hpN : p ≤ n := by
    have := congrArg List.length S.pre
    rw [List.length_take] at this
    omega
  refine F.ok S (fun vs H Q E h => ?_) (fun cdv A outer s H vs Q E hr h => ?_)
  · obtain ⟨F1, ds, d, t, _, r, e, _⟩ := h
    rw [r.len, mFn_len e, hp]
  · obtain ⟨F1, ds, d, t, sm, r, e, q⟩ := h
    refine ⟨_, PSs.nox (hbody cdv A outer s H hr), ?_⟩
    have hl := mFn_len e
    unfold mFn at e
    rw [if_pos hl] at e
    simp only [Option.bind_eq_some_iff] at e
    obtain ⟨o, h1, h2⟩ := e
    have r0 : Rl K F1 H (L2.start N vs) (ev0 n p ds) := by
      have := rl_start (N := N) sm r hl (by omega)
      rw [hn] at this
      exact this
    have noOw : ∀ a, ¬ Oa (L2.start N vs) (ev0 n p ds) a := fun a ⟨i, d, t, n', h, _⟩ => by
      unfold ev0 at h
      by_cases hi : i < ds.length
      · rw [List.getElem?_append_left (by simpa using hi), List.getElem?_map] at h
        cases e : ds[i]? with
        | none => rw [e] at h; cases h
        | some d => rw [e] at h; cases h; exact n' rfl
      · rw [List.getElem?_append_right (by simpa using hi), List.getElem?_replicate] at h
        split at h <;> cases h
    refine ⟨F1, _, r0, o, h1, ?_⟩
    have fin : ∀ {F' H' : Hp} {σ' : Sg} {env' : Ev} {v : V} {d : D} {t : Tg}, SPost K (L2.start N vs) (ev0 n p ds) F1 H env' F' H' σ' → RepS K (L2.start N vs) (ev0 n p ds) H σ' env' F' H' v d t → VPost K F1 H F' H' v d t := fun {F' H' σ' env' v d t} sp rv => by
      refine ⟨sp.rl.sub, sp.ex.subF, fun a o ha => sp.ex.keep a o ha (noOw a), ?_⟩
      cases t with
      | sh => exact rv
      | ow =>
        obtain ⟨_, a, h1, h2, h3, h4⟩ := rv
        exact ⟨rfl, a, h1, h4.elim id fun z => absurd z.oa (noOw a), h2⟩
      | io => cases rv.1
    cases o with
    | nx e' =>
      cases h2
      exact fun F' H' σ' sp => q F' H' .non (fin sp (t := .sh) .non)
    | rt d' t' e' =>
      cases h2
      exact fun F' H' σ' v sp rv => q F' H' v (fin sp rv)
    | bk e' => cases h2
    | ct e' => cases h2

/-- where a def stands, what its name means, how it takes all its arguments -/
structure Has (K : PySem.W.Frag) (mg : Str → Option Value) (x : Str) (st : Stmt) (ps : List Str) (f : Addr) (fd : FuncData) : Prop where
  fn : Fun K x x st f fd
  gl : mg x = some (.ref f)
  bi : Binds K fd ps []
/-- the same of a def with defaults: all given, or the last j of them not -/
structure HasD (K : PySem.W.Frag) (mg : Str → Option Value) (x : Str) (st : Stmt) (ps : List Str) (dvs : List V) (f : Addr) (fd : FuncData) : Prop where
  fn : FunD K x x (defArgs st) (defBody st) (defScope st) dvs [] f fd
  gl : mg x = some (.ref f)
  bi : ∀ j, j ≤ dvs.length → ∃ ds, Vals (dvs.drop j) ds ∧ Binds K fd ps ds
end
end Dd
namespace Dd
open PySem PySem.Spec PyProof.Rows L2
theorem law_sp {K : PySem.W.Frag} {m : List D → Option Res} {ns : List Int} {t : Tg} {H : Hp} {a : Addr} {E : XK} (h : m [.list (ns.map PyData.int)] = some (.bool true, t)) (ht : t = .sh) (hS : SqL K H a (ns.map V.int)) : spP K m [.ref a] H (fun v _ => v = .bl true) E := by
  subst ht
  have sm : Same (fun b => if b = a then H b else none) H := fun b o q => by
    by_cases e : b = a
    · have q' : (if b = a then H b else none) = some o := q
      rw [if_pos e] at q'
      exact q'
    · have q' : (if b = a then H b else none) = some o := q
      rw [if_neg e] at q'
      cases q'
  have hF : SqL K (fun b => if b = a then H b else none) a (ns.map V.int) := by
    rcases hS with q | q
    · rcases q with q | ⟨u, q⟩
      · exact .inl (.inl (by show (if a = a then H a else none) = _; rw [if_pos rfl]; exact q))
      · exact .inl (.inr ⟨u, by show (if a = a then H a else none) = _; rw [if_pos rfl]; exact q⟩)
    · exact .inr q
  refine ⟨_, _, _, _, sm, .one (.lst hF (Reps.of_ints ns)), h, fun F' H' v p => ?_⟩
  have q := p.rep
  cases q
  rfl
end Dd
namespace Dd
open PySem PySem.Spec PyProof.Rows L2
def opRev : D → Option Res
  | .list xs => some (.list xs.reverse, .ow)
  | _ => none
section
variable {X : Cx} {e : Expr} {o : OM}
theorem d_rev {k : Nat} {p1 p2 p3 pos : Pos} (ho : PE X e (TOof X.K o)) : PE X (.Subscript e (.Slice none none (some (.UnaryOp .USub (.Constant (.int 1) k p1) p2)) p3) pos) (TEof X.K (e1 opRev o)) :=
  (pe_revL ho).mono fun σ H Q q => (core1 q).mono' fun x H1 ⟨F, dx, d, t, sm, bx, e, kk⟩ => by
    unfold opRev at e
    split at e
    · cases e
      obtain ⟨a, vs, rfl, hs, hr⟩ := bx.list sm
      exact ⟨a, vs, rfl, hs, fun p hp => kk F _ _ (vp_new sm hp (.lst hr.rev))⟩
    · cases e
def dIdx (x y : D) : Option Res := match x with
  | .list xs => if (PyData.list xs).plain = true ∧ y.plain = true ∧ SeqAt.shaped (.list xs) = true ∧ SeqAt.shaped y = true then (xs.findIdx? fun z => PyData.eqv z y).map fun (j : Nat) => ((.int (j : Int), .sh) : Res) else none
  | _ => none
theorem mt_idx (hu : X.A.units + 65 < cLine) : MtR X "list.index" (fun x xs H Q => ∃ y, xs = [y] ∧ rD2 X.K dIdx x y H Q) := by
  rintro pins s σ H x xs v us Q I rx rxs ⟨y, rfl, F, dx, dy, d, t, sm, bx, bY, e, k⟩
  unfold dIdx at e
  split at e
  · rename_i xs'
    split at e
    · rename_i hok
      obtain ⟨p1, p2, p3, p4⟩ := hok
      rw [Option.map_eq_some_iff] at e
      obtain ⟨j, hj, he⟩ := e
      cases he
      obtain ⟨hlt, h1, h2⟩ := List.findIdx?_eq_some_iff_getElem.mp hj
      obtain ⟨a, vs, rfl, _, _⟩ := bx.list sm
      refine mt_indexD hu pins s σ H _ _ v us Q I rx rxs ⟨a, y, dy, xs', j, xs'[j], rfl, rfl, bx.dp sm p1, bY.dp sm p2, p3, p4, List.getElem?_eq_getElem hlt, h1, fun m z' hm hz => ?_, k F H _ (vp_sc sm (.int _))⟩
      have hml : m < xs'.length := by omega
      rw [List.getElem?_eq_getElem hml] at hz
      cases hz
      have := h2 m hm
      simpa using this
    · cases e
  · cases e
variable {a b : Expr} {o1 o2 : OM} {apos pos : Pos}
theorem d_idx (hu : X.A.units + 65 < cLine) (ha : PE X a (TOof X.K o1)) (hb : PE X b (TOof X.K o2))
    (hbase : attributeBase a "index" X.env (eval a X.env) = eval a X.env := by rfl)
    (hfew : ((backTo pos (starEach (b :: []) X.env)).all (fun x => !x.1) && (backToKw pos (keywordEach [] X.env)).all (fun x => x.1.isSome)
      && decide ((b :: []).length + ([] : List Keyword).length + (if ([] : List Keyword).isEmpty then 0 else 1) < 30)) = true := by rfl)
    (hline : (apos.endLine == pos.line) = true := by rfl) (hs : starEach (b :: []) X.env = (false, eval b X.env) :: starEach [] X.env := by rfl) (hplain : (backTo pos (starEach [] X.env)).any (·.1) = false := by rfl) :
    PE X (.Call (.Attribute a "index" apos) [b] [] pos) (TEof X.K (eMth isLst dIdx o1 o2)) :=
  (pe_bm F.plainAttrs_list F.slot_list_index F.type_list_index (mt_idx hu) ha (pa_cons hb pa_nil hs) hbase hfew hline hs hplain).mono fun _ _ _ q => eMth_core (fun _ _ _ _ s h c => tyv_list s h c) q
end
end Dd
namespace Dd
open PySem PySem.Spec PyProof.Rows L2
@[simp] theorem sl_0 {p : Option (D × Tg)} {r : Ev} : sl (p :: r) 0 = p := rfl
@[simp] theorem sl_s {p : Option (D × Tg)} {r : Ev} {i : Nat} : sl (p :: r) (i + 1) = sl r i := rfl
@[simp] theorem put_n {r : Ev} {d : D} {t : Tg} : put 0 d t (none :: r) = some (some (d, t) :: r) := rfl
@[simp] theorem put_h {r : Ev} {d x : D} {t : Tg} : put 0 d t (some (x, .sh) :: r) = some (some (d, t) :: r) := rfl
@[simp] theorem put_w {r : Ev} {d x : D} {t : Tg} : put 0 d t (some (x, .ow) :: r) = some (some (d, t) :: r) := rfl
@[simp] theorem put_s {p : Option (D × Tg)} {r : Ev} {d : D} {t : Tg} {i : Nat} : put (i + 1) d t (p :: r) = (put i d t r).map (p :: ·) := by
  unfold put
  rw [List.getElem?_cons_succ]
  cases h : r[i]? with
  | none => rfl
  | some q =>
    cases q with
    | none => rfl
    | some q =>
      obtain ⟨x, u⟩ := q
      cases u <;> rfl
@[simp] theorem own_0w {x : D} {r : Ev} : own 0 (some (x, .ow) :: r) = some (x, .ow) := rfl
@[simp] theorem own_0i {x : D} {r : Ev} : own 0 (some (x, .io) :: r) = some (x, .io) := rfl
@[simp] theorem own_0h {x : D} {r : Ev} : own 0 (some (x, .sh) :: r) = none := rfl
@[simp] theorem own_s {p : Option (D × Tg)} {r : Ev} {i : Nat} : own (i + 1) (p :: r) = own i r := rfl
@[simp] theorem rd_l {i : Nat} {e : Ev} : rd (.late i) e = (sl e i).map (·.1) := rfl
@[simp] theorem rd_e {d : D} {e : Ev} : rd (.early d) e = some d := rfl
@[simp] theorem rds_0 {e : Ev} : rds [] e = some [] := rfl
@[simp] theorem rds_s {r : Rd0} {rs : List Rd0} {e : Ev} : rds (r :: rs) e = (rd r e).bind fun d => (rds rs e).map fun ds => d :: ds := rfl
@[simp] theorem fzs_0 {e : Ev} : fzs [] e = some e := rfl
@[simp] theorem fzs_s {r : Rd0} {rs : List Rd0} {e : Ev} : fzs (r :: rs) e = (fz1 r e).bind (fzs rs) := rfl
@[simp] theorem fz1_e {d : D} {e : Ev} : fz1 (.early d) e = some e := rfl
@[simp] theorem fz1_l {i : Nat} {e : Ev} : fz1 (.late i) e = (match sl e i with
    | some (_, .sh) => some e
    | some (d, .ow) => some (e.set i (some (d, .sh)))
    | _ => none) := rfl
@[simp] theorem x_mFn {n p : Nat} {b : SM} {ds : List D} : mFn n p b ds = if ds.length = p then (b (ev0 n p ds)).bind fun o => (match o with
    | .rt d t _ => some (d, t)
    | .nx _ => some (.none, .sh)
    | _ => none)
  else none := rfl
@[simp] theorem x_ev0 {n p : Nat} {ds : List D} : ev0 n p ds = ds.map (fun d => some (d, Tg.sh)) ++ List.replicate (n - p) none := rfl
@[simp] theorem scal_i {i : Int} : scal (.int i) = true := rfl
@[simp] theorem scal_b {i : Bool} : scal (.bool i) = true := rfl
@[simp] theorem scal_n : scal .none = true := rfl
@[simp] theorem scal_l {i : List D} : scal (.list i) = false := rfl
@[simp] theorem scal_t {i : List D} : scal (.tuple i) = false := rfl
@[simp] theorem scal_d {i : List (D × D)} : scal (.dict i) = false := rfl
@[simp] theorem dAdd_i {a b : Int} : dAdd (.int a) (.int b) = some (.int (a + b), .sh) := rfl
@[simp] theorem dSub_i {a b : Int} : dSub (.int a) (.int b) = some (.int (a - b), .sh) := rfl
@[simp] theorem dLt_i {a b : Int} : dLt (.int a) (.int b) = some (.bool (decide (a < b)), .sh) := by
  have h : dLt (.int a) (.int b) = some (.bool (PySem.W.dataLt (.int a) (.int b)), .sh) := rfl
  rw [h, PySem.W.dataLt_int]
@[simp] theorem dGt_i {a b : Int} : dGt (.int a) (.int b) = some (.bool (decide (b < a)), .sh) := by
  have h : dGt (.int a) (.int b) = some (.bool (PySem.W.dataLt (.int b) (.int a)), .sh) := rfl
  rw [h, PySem.W.dataLt_int]
@[simp] theorem dLe_i {a b : Int} : dLe (.int a) (.int b) = some (.bool (decide (a ≤ b)), .sh) := by
  have h : dLe (.int a) (.int b) = some (.bool (!PySem.W.dataLt (.int b) (.int a)), .sh) := rfl
  rw [h, PySem.W.dataLt_int, PySem.W.not_lt_int]
@[simp] theorem dGe_i {a b : Int} : dGe (.int a) (.int b) = some (.bool (decide (b ≤ a)), .sh) := by
  have h : dGe (.int a) (.int b) = some (.bool (!PySem.W.dataLt (.int a) (.int b)), .sh) := rfl
  rw [h, PySem.W.dataLt_int, PySem.W.not_lt_int]
@[simp] theorem dEq_i {a b : Int} : dEq (.int a) (.int b) = some (.bool (decide (a = b)), .sh) := by
  have h : dEq (.int a) (.int b) = some (.bool (a == b), .sh) := rfl
  rw [h]
  by_cases e : a = b
  · subst e; simp
  · simp [e]
@[simp] theorem dNe_i {a b : Int} : dNe (.int a) (.int b) = some (.bool (!decide (a = b)), .sh) := by
  have h : dNe (.int a) (.int b) = some (.bool (!(a == b)), .sh) := rfl
  rw [h]
  by_cases e : a = b
  · subst e; simp
  · simp [e]
@[simp] theorem isi_ii {a : Int} : dIsi "int" (.int a) = some (.bool true, .sh) := by
  have h : dIsi "int" (.int a) = (kitB "int" "int").map fun b => (.bool b, .sh) := rfl
  rw [h, show kitB "int" "int" = some true by decide +kernel]
  rfl
@[simp] theorem isi_ib {a : Int} : dIsi "bool" (.int a) = some (.bool false, .sh) := by
  have h : dIsi "bool" (.int a) = (kitB "int" "bool").map fun b => (.bool b, .sh) := rfl
  rw [h, show kitB "int" "bool" = some false by decide +kernel]
  rfl
@[simp] theorem isi_tt {a : List D} : dIsi "tuple" (.tuple a) = some (.bool true, .sh) := by
  have h : dIsi "tuple" (.tuple a) = (kitB "tuple" "tuple").map fun b => (.bool b, .sh) := rfl
  rw [h, show kitB "tuple" "tuple" = some true by decide +kernel]
  rfl
@[simp] theorem isi_ll {a : List D} : dIsi "list" (.list a) = some (.bool true, .sh) := by
  have h : dIsi "list" (.list a) = (kitB "list" "list").map fun b => (.bool b, .sh) := rfl
  rw [h, show kitB "list" "list" = some true by decide +kernel]
  rfl
@[simp] theorem isN_i {a : Int} : dIsN (.int a) = some (.bool false, .sh) := rfl
@[simp] theorem isN_n : dIsN .none = some (.bool true, .sh) := rfl
@[simp] theorem truD_b {a : Bool} : truD (.bool a) = some a := rfl
@[simp] theorem len_l {a : List D} : fLen [.list a] = some (.int a.length, .sh) := rfl
@[simp] theorem len_t {a : List D} : fLen [.tuple a] = some (.int a.length, .sh) := rfl
@[simp] theorem rB_b {k : Bool} : rB (.bool k, .sh) = some k := rfl
@[simp] theorem x_tB (m : EM) (e : Ev) : tB m e = (m e).bind fun x => (rB (x.1, x.2.1)).map fun k => (k, x.2.2) := by
  unfold tB
  cases m e with
  | none => rfl
  | some z =>
    obtain ⟨d, t, e2⟩ := z
    cases t <;> cases d <;> rfl
@[simp] theorem x_eAnd (m1 m2 : EM) (e : Ev) : eAnd m1 m2 e = (m1 e).bind fun x => (rB (x.1, x.2.1)).bind fun k => if k = true then m2 x.2.2 else some (.bool false, .sh, x.2.2) := by
  unfold eAnd
  cases m1 e with
  | none => rfl
  | some z =>
    obtain ⟨d, t, e2⟩ := z
    cases t <;> cases d <;> first | rfl | (rename_i b; cases b <;> rfl)
@[simp] theorem x_eOr (m1 m2 : EM) (e : Ev) : eOr m1 m2 e = (m1 e).bind fun x => (rB (x.1, x.2.1)).bind fun k => if k = true then some (.bool true, .sh, x.2.2) else m2 x.2.2 := by
  unfold eOr
  cases m1 e with
  | none => rfl
  | some z =>
    obtain ⟨d, t, e2⟩ := z
    cases t <;> cases d <;> first | rfl | (rename_i b; cases b <;> rfl)
@[simp] theorem x_eNot (m : EM) (e : Ev) : eNot m e = (m e).bind fun x => (rB (x.1, x.2.1)).map fun k => (.bool (!k), .sh, x.2.2) := by
  unfold eNot
  cases m e with
  | none => rfl
  | some z =>
    obtain ⟨d, t, e2⟩ := z
    cases t <;> cases d <;> rfl
@[simp] theorem ite_bind' {α β : Type} {c : Prop} [Decidable c] {a b : Option α} {f : α → Option β} : (if c then a else b).bind f = if c then a.bind f else b.bind f := by split <;> rfl
@[simp] theorem ite_map' {α β : Type} {c : Prop} [Decidable c] {a b : Option α} {f : α → β} : (if c then a else b).map f = if c then a.map f else b.map f := by split <;> rfl
@[simp] theorem x_oV (i : Nat) (e : Ev) : oV i e = ((sl e i).map fun _ => (.late i, e)) := rfl
@[simp] theorem x_oE (m : EM) (e : Ev) : oE m e = ((m e).map fun x => (.early x.1, x.2.2)) := rfl
@[simp] theorem x_eV (i : Nat) (e : Ev) : eV i e = (match sl e i with
  | some (d, .sh) => some (d, .sh, e)
  | some (d, .ow) => some (d, .sh, e.set i (some (d, .sh)))
  | _ => none) := rfl
@[simp] theorem x_eMv (i : Nat) (e : Ev) : eMv i e = (match sl e i with
  | some (d, .sh) => some (d, .sh, e)
  | some (d, .ow) => some (d, .ow, e.set i none)
  | _ => none) := rfl
@[simp] theorem x_eC (d : D) (e : Ev) : eC d e = (some (d, .sh, e)) := rfl
@[simp] theorem x_aN (e : Ev) : aN e = (some ([], e)) := rfl
@[simp] theorem x_aC (o : OM) (a : AM) (e : Ev) : aC o a e = ((o e).bind fun x => (a x.2).map fun y => (x.1 :: y.1, y.2)) := rfl
@[simp] theorem x_e1 (op : D → Option Res) (o : OM) (e : Ev) : e1 op o e = ((o e).bind fun x => (rd x.1 x.2).bind fun a => (op a).map fun z => (z.1, z.2, x.2)) := rfl
@[simp] theorem x_e2 (op : D → D → Option Res) (o1 o2 : OM) (e : Ev) : e2 op o1 o2 e = ((o1 e).bind fun x => (o2 x.2).bind fun y => (rd x.1 y.2).bind fun a => (rd y.1 y.2).bind fun b => (op a b).map fun z => (z.1, z.2, y.2)) := rfl
@[simp] theorem x_eN (op : List D → Option Res) (a : AM) (e : Ev) : eN op a e = ((a e).bind fun x => (rds x.1 x.2).bind fun ds => (op ds).map fun z => (z.1, z.2, x.2)) := rfl
@[simp] theorem x_tO (o : OM) (e : Ev) : tO o e = ((o e).bind fun x => (rd x.1 x.2).bind fun d => (truD d).map fun b => (b, x.2)) := rfl
@[simp] theorem x_tAndp (t u : TM) (e : Ev) : tAnd' t u e = ((t e).bind fun x => if x.1 = true then u x.2 else some (false, x.2)) := rfl
@[simp] theorem x_tOrp (t u : TM) (e : Ev) : tOr' t u e = ((t e).bind fun x => if x.1 = true then some (true, x.2) else u x.2) := rfl
@[simp] theorem x_tNotp (t : TM) (e : Ev) : tNot' t e = ((t e).map fun x => (!x.1, x.2)) := rfl
@[simp] theorem x_eIf (t : TM) (m1 m2 : EM) (e : Ev) : eIf t m1 m2 e = ((t e).bind fun x => if x.1 = true then m1 x.2 else m2 x.2) := rfl
@[simp] theorem x_eCh2 (g : D → D → Option Res) (y : Rd0) (o3 : OM) (e : Ev) : eCh2 g y o3 e = ((o3 e).bind fun w => (rd y w.2).bind fun q => (rd w.1 w.2).bind fun s => ((g q s).bind rB).map fun k => (.bool k, .sh, w.2)) := rfl
@[simp] theorem x_eCh (f g : D → D → Option Res) (o1 o2 o3 : OM) (e : Ev) : eCh f g o1 o2 o3 e = ((o1 e).bind fun x => (o2 x.2).bind fun y => (rd x.1 y.2).bind fun p => (rd y.1 y.2).bind fun q => ((f p q).bind rB).bind fun k =>
  if k = true then eCh2 g y.1 o3 y.2 else some (.bool false, .sh, y.2)) := rfl
@[simp] theorem x_eCall (m : List D → Option Res) (a : AM) (e : Ev) : eCall m a e = ((a e).bind fun x => (rds x.1 x.2).bind fun ds => (m ds).bind fun z =>
  if scal z.1 = true then (if z.2 = .sh then some (z.1, .sh, x.2) else none) else (fzs x.1 x.2).map fun e3 => (z.1, z.2, e3)) := rfl
@[simp] theorem x_sNx (e : Ev) : sNx e = (some (.nx e)) := rfl
@[simp] theorem x_sSeq (a b : SM) (e : Ev) : sSeq a b e = ((a e).bind fun o => match o with
  | .nx e' => b e'
  | o => some o) := rfl
@[simp] theorem x_sIf (t : TM) (a b : SM) (e : Ev) : sIf t a b e = ((t e).bind fun x => if x.1 = true then a x.2 else b x.2) := rfl
@[simp] theorem x_sRet (m : EM) (e : Ev) : sRet m e = ((m e).map fun x => .rt x.1 x.2.1 x.2.2) := rfl
@[simp] theorem x_sRetN (e : Ev) : sRetN e = (some (.rt .none .sh e)) := rfl
@[simp] theorem x_sDrop (m : EM) (e : Ev) : sDrop m e = ((m e).map fun x => .nx x.2.2) := rfl
@[simp] theorem x_sBrk (e : Ev) : sBrk e = (some (.bk e)) := rfl
@[simp] theorem x_sCnt (e : Ev) : sCnt e = (some (.ct e)) := rfl
@[simp] theorem x_sSet (i : Nat) (m : EM) (e : Ev) : sSet i m e = ((m e).bind fun x => (put i x.1 x.2.1 x.2.2).map Out.nx) := rfl
@[simp] theorem x_gN (i : Nat) (d : D) (e : Ev) : gN i d e = (put i d .sh e) := rfl
@[simp] theorem x_gsN (ds : List D) (e : Ev) : gsN ds e = (match ds with
  | [] => some e
  | _ => none) := rfl
@[simp] theorem x_gsC (g : GM) (gs : List D → Ev → Option Ev) (ds : List D) (e : Ev) : gsC g gs ds e = (match ds with
  | d :: ds => (g d e).bind (gs ds)
  | [] => none) := rfl
@[simp] theorem x_gT (gs : List D → Ev → Option Ev) (n : Nat) (d : D) (e : Ev) : gT gs n d e = (match d with
  | .tuple ds => if ds.length = n then gs ds e else none
  | .list ds => if ds.length = n then gs ds e else none
  | _ => none) := rfl
@[simp] theorem x_sUnp (m : EM) (g : GM) (e : Ev) : sUnp m g e = ((m e).bind fun x => if x.2.1 = .sh then (g x.1 x.2.2).map Out.nx else none) := rfl
@[simp] theorem x_sFor (im : IM) (g : GM) (b : SM) (e : Ev) : sFor im g b e = ((im e).bind fun x => fl g b x.1 x.2) := rfl
@[simp] theorem x_eSh (m : EM) (e : Ev) : eSh m e = ((m e).map fun x => (x.1, .sh, x.2.2)) := rfl
@[simp] theorem x_lN (e : Ev) : lN e = (some ([], e)) := rfl
@[simp] theorem x_lC (m : EM) (l : LM) (e : Ev) : lC m l e = ((m e).bind fun x => if x.2.1 = .sh then (l x.2.2).map fun y => (x.1 :: y.1, y.2) else none) := rfl
@[simp] theorem x_lS (o : OM) (l : LM) (e : Ev) : lS o l e = ((o e).bind fun x => match rd x.1 x.2 with
  | some (.list ds) => (l x.2).map fun y => (ds ++ y.1, y.2)
  | some (.tuple ds) => (l x.2).map fun y => (ds ++ y.1, y.2)
  | _ => none) := rfl
@[simp] theorem x_eTup (l : LM) (e : Ev) : eTup l e = ((l e).bind fun x => if x.1.length ≤ lim then some (.tuple x.1, .sh, x.2) else none) := rfl
@[simp] theorem x_eLst (l : LM) (e : Ev) : eLst l e = ((l e).bind fun x => if x.1.length ≤ lim then some (.list x.1, .ow, x.2) else none) := rfl
@[simp] theorem x_eRep (m : EM) (o : OM) (e : Ev) : eRep m o e = ((m e).bind fun x => match x.1, x.2.1 with
  | .list ds, .ow => (o x.2.2).bind fun y => match rd y.1 y.2 with
    | some (.int b) => if ds.length * b.toNat ≤ lim ∧ b.natAbs ≤ lim then some (.list (List.replicate b.toNat ds).flatten, .ow, y.2) else none
    | _ => none
  | _, _ => none) := rfl
@[simp] theorem x_pNo (e : Ev) : pNo e = (some (none, e)) := rfl
@[simp] theorem x_pEx (m : EM) (e : Ev) : pEx m e = ((m e).bind fun x => match x.1, x.2.1 with
  | .int i, .sh => some (some i, x.2.2)
  | _, _ => none) := rfl
@[simp] theorem x_eSl (o : OM) (lo hi : NM) (e : Ev) : eSl o lo hi e = ((o e).bind fun x => (lo x.2).bind fun l => (hi l.2).bind fun h => (rd x.1 h.2).bind fun d => (dSl d l.1 h.1).map fun z => (z.1, z.2, h.2)) := rfl
@[simp] theorem x_eApp (i : Nat) (m : EM) (e : Ev) : eApp i m e = (match own i e with
  | some (.list _, _) => (eSh m e).bind fun x => match own i x.2.2 with
    | some (.list ds, t) => if ds.length < lim then some (.none, .sh, x.2.2.set i (some (.list (ds ++ [x.1]), t))) else none
    | _ => none
  | _ => none) := rfl
@[simp] theorem x_ePop (i : Nat) (e : Ev) : ePop i e = (match own i e with
  | some (.list ds, t) => (ds[ds.length - 1]?).map fun d => (d, .sh, e.set i (some (.list ds.dropLast, t)))
  | _ => none) := rfl
@[simp] theorem x_ePop0 (i : Nat) (e : Ev) : ePop0 i e = (match own i e with
  | some (.list (d :: ds), t) => some (d, .sh, e.set i (some (.list ds, t)))
  | _ => none) := rfl
@[simp] theorem x_eRem (i : Nat) (m : EM) (e : Ev) : eRem i m e = (match own i e with
  | some (.list _, _) => (eSh m e).bind fun x => match own i x.2.2 with
    | some (.list ds, t) => if PyData.plainAll ds && x.1.plain && decide (min (PyData.depthAll ds) x.1.depth ≤ 60) then (SeqAt.dataPlace ds x.1).map fun j => (.none, .sh, x.2.2.set i (some (.list (ds.eraseIdx j), t))) else none
    | _ => none
  | _ => none) := rfl
@[simp] theorem x_sStL (i : Nat) (mk mv : EM) (e : Ev) : sStL i mk mv e = ((eSh mv e).bind fun x => (sl x.2.2 i).bind fun _ => (mk x.2.2).bind fun y => match y.1, y.2.1 with
  | .int k, .sh => match own i y.2.2 with
    | some (.list ds, t) => (L2.ixN ds.length k).map fun j => .nx (y.2.2.set i (some (.list (ds.set j x.1), t)))
    | _ => none
  | _, _ => none) := rfl
@[simp] theorem x_eDget1 (o1 o2 : OM) (e : Ev) : eDget1 o1 o2 e = ((o1 e).bind fun x => (rd x.1 x.2).bind fun d => if isDic d = true then (o2 x.2).bind fun y => (rd x.1 y.2).bind fun a => (rd y.1 y.2).bind fun b => (dGet a b).map fun r => (r.getD .none, .sh, y.2) else none) := rfl
@[simp] theorem x_eDget2 (o1 o2 : OM) (m : EM) (e : Ev) : eDget2 o1 o2 m e = ((o1 e).bind fun x => (rd x.1 x.2).bind fun d => if isDic d = true then (o2 x.2).bind fun y => (eSh m y.2).bind fun z => (rd x.1 z.2.2).bind fun a => (rd y.1 z.2.2).bind fun b => (dGet a b).map fun r => (r.getD z.1, .sh, z.2.2) else none) := rfl
@[simp] theorem x_sStD (i : Nat) (mk mv : EM) (e : Ev) : sStD i mk mv e = ((eSh mv e).bind fun x => (sl x.2.2 i).bind fun _ => (mk x.2.2).bind fun y => if y.2.1 = .sh then (own i y.2.2).bind fun p => (dPut p.1 y.1 x.1).map fun z => .nx (y.2.2.set i (some (z, p.2))) else none) := rfl
@[simp] theorem x_eDk (e : Ev) : eDk e = (some (.dict [], .ow, e)) := rfl
@[simp] theorem x_eDt (e : Ev) : eDt e = (some (.dict [(.none, .none)], .ow, e)) := rfl
@[simp] theorem x_eD01 (i j : Int) (e : Ev) : eD01 i j e = (some (.dict [(.int i, .int j)], .ow, e)) := rfl
@[simp] theorem x_iE (m : EM) (e : Ev) : iE m e = ((m e).bind fun x => match x.1 with
  | .list ds => some (ds, x.2.2)
  | .tuple ds => some (ds, x.2.2)
  | _ => none) := rfl
@[simp] theorem x_iR1 (l : LM) (e : Ev) : iR1 l e = ((l e).bind fun x => match x.1 with
  | [.int j] => if -big ≤ j ∧ j ≤ big then some (rngD 0 j.toNat, x.2) else none
  | _ => none) := rfl
@[simp] theorem x_iR2 (l : LM) (e : Ev) : iR2 l e = ((l e).bind fun x => match x.1 with
  | [.int i, .int j] => if (-big ≤ i ∧ i ≤ big) ∧ -big ≤ j ∧ j ≤ big then some (rngD i (j - i).toNat, x.2) else none
  | _ => none) := rfl
@[simp] theorem x_iEn (l : LM) (e : Ev) : iEn l e = ((l e).bind fun x => match x.1 with
  | [.list ds] => some (enumD ds, x.2)
  | _ => none) := rfl
@[simp] theorem x_iZ2 (l : LM) (e : Ev) : iZ2 l e = ((l e).bind fun x => match x.1 with
  | [.list xs, .list ys] => some (zipD xs ys, x.2)
  | _ => none) := rfl
@[simp] theorem x_cI (im : IM) (e : Ev) : cI im e = ((im e).map fun x => (x.1, none, x.2)) := rfl
@[simp] theorem x_cV (i : Nat) (e : Ev) : cV i e = (match sl e i with
  | some (.list ds, .sh) => some (ds, none, e)
  | some (.list ds, .ow) => some (ds, some i, e.set i none)
  | some (.tuple ds, .sh) => some (ds, none, e)
  | _ => none) := rfl
@[simp] theorem x_eLc (vs : List Nat) (im : CM) (g : GM) (t : TM) (m : EM) (e : Ev) : eLc vs im g t m e = ((im e).bind fun x => if (x.2.1.all fun i => decide (i ∉ vs)) = true then (lcl vs g t m x.1 (wipeE x.2.2 vs)).bind fun y =>
  if y.1.length ≤ lim then some (.list y.1, .ow, bkH x.2.1 e (backE x.2.2 vs y.2)) else none else none) := rfl
@[simp] theorem x_tT (e : Ev) : tT e = (some (true, e)) := rfl
@[simp] theorem x_eMth (ck : D → Bool) (op : D → D → Option Res) (o1 o2 : OM) (e : Ev) : eMth ck op o1 o2 e = ((o1 e).bind fun x => (rd x.1 x.2).bind fun d => if ck d = true then (o2 x.2).bind fun y => (rd x.1 y.2).bind fun a => (rd y.1 y.2).bind fun b => (op a b).map fun z => (z.1, z.2, y.2) else none) := rfl
@[simp] theorem x_wN (e : Ev) : wN e = (some ([], e)) := rfl
@[simp] theorem x_wC (m : EM) (w : WM) (e : Ev) : wC m w e = ((m e).bind fun x => (w x.2.2).map fun y => ((x.1, x.2.1) :: y.1, y.2)) := rfl
@[simp] theorem x_sPar (is : List Nat) (w : WM) (e : Ev) : sPar is w e = ((w e).bind fun x => (puts is x.1 x.2).map .nx) := rfl
@[simp] theorem x_sAug (i : Nat) (f : D → D → Option Res) (o : OM) (e : Ev) : sAug i f o e = (match sl e i with
  | some (a, .sh) => (o e).bind fun y => (rd y.1 y.2).bind fun b => (f a b).bind fun z => if z.2 = .sh then (put i z.1 .sh y.2).map .nx else none
  | _ => none) := rfl
@[simp] theorem x_eExt (i : Nat) (o : OM) (e : Ev) : eExt i o e = (match own i e with
  | some (.list _, _) => (o e).bind fun x => (rd x.1 x.2).bind fun y => match y, own i x.2 with
    | .list ws, some (.list ds, t) => if ds.length + ws.length ≤ lim then some (.none, .sh, x.2.set i (some (.list (ds ++ ws), t))) else none
    | _, _ => none
  | _ => none) := rfl
@[simp] theorem x_eCallI (i : Nat) (m : D → List D → Option (Res × D)) (a : AM) (e : Ev) : eCallI i m a e = ((own i e).bind fun _ => (a e).bind fun x => (rds x.1 x.2).bind fun ds => (fzs x.1 x.2).bind fun e3 => (own i e3).bind fun p => (m p.1 ds).map fun z => (z.1.1, z.1.2, e3.set i (some (z.2, p.2)))) := rfl
@[simp] theorem x_jR1 (l : LM) (e : Ev) : jR1 l e = ((l e).bind fun x => match x.1 with
  | [.int j] => some (rngD 0 j.toNat, x.2)
  | _ => none) := rfl
@[simp] theorem x_jR2 (l : LM) (e : Ev) : jR2 l e = ((l e).bind fun x => match x.1 with
  | [.int i, .int j] => some (rngD i (j - i).toNat, x.2)
  | _ => none) := rfl
@[simp] theorem x_jF (m : EM) (e : Ev) : jF m e = ((eSh m e).bind fun x => match x.1 with
  | .list ds => some (ds, x.2.2)
  | .tuple ds => some (ds, x.2.2)
  | _ => none) := rfl
@[simp] theorem x_eLc2 (vs vs1 : List Nat) (im : CM) (g : GM) (t : TM) (im1 : IM) (g1 : GM) (t1 : TM) (m : EM) (e : Ev) : eLc2 vs vs1 im g t im1 g1 t1 m e = ((im e).bind fun x => if (x.2.1.all fun i => decide (i ∉ vs)) = true then (lcl2 vs vs1 g t im1 g1 t1 m x.1 (wipeE x.2.2 vs)).bind fun y =>
  if y.1.length ≤ lim then some (.list y.1, .ow, bkH x.2.1 e (backE x.2.2 vs y.2)) else none else none) := rfl
@[simp] theorem x_iZ3 (l : LM) (e : Ev) : iZ3 l e = ((l e).bind fun x => match x.1 with
  | [.list xs, .list ys, .list zs] => some (zip3D xs ys zs, x.2)
  | _ => none) := rfl
@[simp] theorem x_iIt (m : EM) (e : Ev) : iIt m e = ((m e).bind fun x => match x.1, x.2.1 with
  | .dict ((.none, .none) :: ds), .ow => some (rowsD ds, x.2.2)
  | .dict ds, .ow => some (rowsD ds, x.2.2)
  | _, _ => none) := rfl
@[simp] theorem x_altS (f g : SM) (e : Ev) : altS f g e = (match f e with
  | some r => some r
  | none => g e) := rfl
@[simp] theorem x_altI (f g : IM) (e : Ev) : altI f g e = (match f e with
  | some r => some r
  | none => g e) := rfl


@[simp] theorem fl_nil {g : GM} {b : SM} {e : Ev} : fl g b [] e = some (.nx e) := rfl
theorem fl_cons {g : GM} {b : SM} {d : D} {ds : List D} {e : Ev} : fl g b (d :: ds) e = (g d e).bind fun e1 => (b e1).bind fun o => (match o with
    | .nx e2 => fl g b ds e2
    | .ct e2 => fl g b ds e2
    | .bk e2 => some (.nx e2)
    | .rt r t e2 => some (.rt r t e2)) := rfl
@[simp] theorem lcl_nil {vs : List Nat} {g : GM} {t : TM} {m : EM} {e : Ev} : lcl vs g t m [] e = some ([], e) := rfl
theorem lcl_cons {vs : List Nat} {g : GM} {t : TM} {m : EM} {d : D} {ds : List D} {e : Ev} : lcl vs g t m (d :: ds) e = (g d e).bind fun e1 => (t e1).bind fun b => if b.1 = true then (eSh m b.2).bind fun x => (lcl vs g t m ds (wipeE x.2.2 vs)).map fun y => (x.1 :: y.1, y.2)
    else lcl vs g t m ds (wipeE b.2 vs) := rfl
/-- a slot that is no in-out one -/
def Jk (j : Option (D × Tg)) : Prop := ∀ d, j ≠ some (d, .io)
theorem jk_n : Jk none := fun _ h => nomatch h
theorem jk_h {d : D} : Jk (some (d, .sh)) := fun _ h => nomatch h
theorem jk_w {d : D} : Jk (some (d, .ow)) := fun _ h => nomatch h
theorem put_j {j : Option (D × Tg)} {r : Ev} {d : D} {t : Tg} (h : Jk j) : put 0 d t (j :: r) = some (some (d, t) :: r) := by
  cases j with
  | none => rfl
  | some p =>
    obtain ⟨x, u⟩ := p
    cases u with
    | sh => rfl
    | ow => rfl
    | io => exact (h x rfl).elim
/-- a loop that never leaves early: P relates what is made to the state -/
theorem fl_inv {α β : Type} {enc : α → D} {g : GM} {b : SM} (P : β → Ev → Prop) (step : β → α → β) :
    ∀ (xs : List α) (acc : β) (e : Ev), (∀ x ∈ xs, ∀ acc e, P acc e → ∃ e1 e2, g (enc x) e = some e1 ∧ b e1 = some (.nx e2) ∧ P (step acc x) e2) → P acc e → ∃ e', fl g b (xs.map enc) e = some (.nx e') ∧ P (xs.foldl step acc) e'
  | [], acc, e, _, h => ⟨e, rfl, h⟩
  | x :: xs, acc, e, hs, h => by
    obtain ⟨e1, e2, h1, h2, h3⟩ := hs x List.mem_cons_self acc e h
    obtain ⟨e', h4, h5⟩ := fl_inv P step xs (step acc x) e2 (fun y hy => hs y (List.mem_cons_of_mem _ hy)) h3
    refine ⟨e', ?_, h5⟩
    rw [List.map_cons, fl_cons, h1]
    simp only [Option.bind_some, h2, h4]
/-- a comprehension whose parts give up nothing -/
theorem lcl_map {α : Type} {enc : α → D} {vs : List Nat} {g : GM} {t : TM} {m : EM} {e : Ev} (p : α → Bool) (f : α → D) :
    ∀ (xs : List α), (∀ x ∈ xs, ∃ e1, g (enc x) e = some e1 ∧ (∃ e2, t e1 = some (p x, e2) ∧ (p x = false → wipeE e2 vs = e) ∧ (p x = true → ∃ u e3, m e2 = some (f x, u, e3) ∧ wipeE e3 vs = e))) →
      lcl vs g t m (xs.map enc) e = some ((xs.filter p).map f, e)
  | [], _ => rfl
  | x :: xs, h => by
    obtain ⟨e1, h1, e2, h2, h3, h4⟩ := h x List.mem_cons_self
    have ih := lcl_map p f xs fun y hy => h y (List.mem_cons_of_mem _ hy)
    rw [List.map_cons, lcl_cons, h1]
    simp only [Option.bind_some, h2]
    cases hp : p x with
    | false =>
      rw [if_neg (by simp), h3 hp, ih, List.filter_cons_of_neg (by simp [hp])]
    | true =>
      obtain ⟨u, e3, h5, h6⟩ := h4 hp
      rw [if_pos rfl]
      simp only [x_eSh, h5, Option.map_some, Option.bind_some, h6, ih]
      rw [List.filter_cons_of_pos hp, List.map_cons]
@[simp] theorem wipeE_0 {e : Ev} : wipeE e [] = e := rfl
@[simp] theorem wipeE_s {e : Ev} {v : Nat} {vs : List Nat} : wipeE e (v :: vs) = (wipeE e vs).set v none := rfl
@[simp] theorem backE_0 {e e2 : Ev} : backE e [] e2 = e2 := rfl
@[simp] theorem backE_s {e e2 : Ev} {v : Nat} {vs : List Nat} : backE e (v :: vs) e2 = (backE e vs e2).set v (e[v]?.join) := rfl
@[simp] theorem bkH_n {e e2 : Ev} : bkH none e e2 = e2 := rfl
@[simp] theorem bkH_s {e e2 : Ev} {i : Nat} : bkH (some i) e e2 = e2.set i (e[i]?.join) := rfl
theorem lcl_all {α : Type} {enc : α → D} {vs : List Nat} {g : GM} {m : EM} {e : Ev} (f : α → D) (xs : List α) (h : ∀ x ∈ xs, ∃ e1 u e3, g (enc x) e = some e1 ∧ m e1 = some (f x, u, e3) ∧ wipeE e3 vs = e) : lcl vs g tT m (xs.map enc) e = some (xs.map f, e) := by
  have q := lcl_map (enc := enc) (vs := vs) (g := g) (t := tT) (m := m) (e := e) (fun _ => true) f xs fun x hx => by
    obtain ⟨e1, u, e3, h1, h2, h3⟩ := h x hx
    exact ⟨e1, h1, e1, rfl, fun z => (nomatch z), fun _ => ⟨u, e3, h2, h3⟩⟩
  rwa [List.filter_eq_self.mpr fun _ _ => rfl] at q
end Dd
namespace Gn
open PySem PySem.Spec PyProof.Rows L2 Dd
def m_cells_from : List D → Option Res := mFn 4 2
    (sRet (eLc [2, 3] (cI (iEn (lC (eSh (eV 0)) lN))) (gT (gsC (gN 2) (gsC (gN 3) gsN)) 2) (tB (e2 dEq (oE (e2 dIxA (oV 3) (oE (eC (.int 1))))) (oV 1))) (eV 2)))
def b0_common_divisor : SM :=
    (sPar [0, 1] (wC (eV 1) (wC (e2 dMod (oV 0) (oV 1)) wN)))
def m_common_divisor : List D → Option Res := mFn 2 2
    (sSeq (sWhile 100000 (tB (e2 dGt (oV 1) (oE (eC (.int 0)))))
    b0_common_divisor)
    (sRet (eMv 0)))
def m_round_at : List D → Option Res := mFn 5 2
    (sSeq (sUnp (eSh (eV 0)) (gT (gsC (gN 2) (gsC (gN 3) (gsC (gN 4) gsN))) 3))
    (sSeq (sIf (tB (e2 dEq (oV 1) (oV 2)))
    (sRet (eC (.int 0)))
    sNx)
    (sSeq (sIf (tAnd' (tB (e2 dGe (oV 1) (oV 3))) (tB (e2 dEq (oE (e2 dMod (oE (e2 dSub (oV 1) (oV 3))) (oV 4))) (oE (eC (.int 0))))))
    (sRet (e2 dAdd (oE (e2 dDiv (oE (e2 dSub (oV 1) (oV 3))) (oV 4))) (oE (eC (.int 1)))))
    sNx)
    (sRet (eC .none)))))
def m_slot_in : List D → Option Res := mFn 5 2
    (sSeq (sUnp (eSh (eV 0)) (gT (gsC (gN 2) (gsC (gN 3) (gsC (gN 4) gsN))) 3))
    (sRet (eIf (tB (e2 dEq (oV 1) (oE (eC (.int 0))))) (eMv 2) (e2 dAdd (oV 3) (oE (e2 dMul (oE (e2 dSub (oV 1) (oE (eC (.int 1))))) (oV 4)))))))
def b0_meetings : SM :=
    (sSeq (sSet 6 (eCall m_round_at (aC (oV 4) (aC (oV 5) aN))))
    (sIf (tAnd' (tB (e1 dNotN (oV 6))) (tB (e2 dGt (oV 6) (oE (eC (.int 0))))))
    (sDrop (eApp 2 (eIf (tO (oV 3)) (eTup (lC (eSh (eC (.int 0))) (lC (eSh (eV 6)) (lC (eSh (eC (.int 0))) (lC (eSh (eC (.int 0))) lN))))) (eTup (lC (eSh (eV 6)) (lC (eSh (eC (.int 0))) (lC (eSh (eC (.int 0))) (lC (eSh (eC (.int 0))) lN))))))))
    sNx))
def b1_meetings : SM :=
    (sSeq (sSet 5 (eCall m_slot_in (aC (oV 0) (aC (oV 6) aN))))
    (sIf (tB (e2 dEq (oE (e2 dMod (oE (e2 dSub (oV 5) (oE (e2 dIxA (oV 1) (oE (eC (.int 1))))))) (oE (e2 dIxA (oV 1) (oE (eC (.int 2))))))) (oE (eC (.int 0)))))
    (sSeq (sSet 7 (eCall m_common_divisor (aC (oE (e2 dIxA (oV 0) (oE (eC (.int 2))))) (aC (oE (e2 dIxA (oV 1) (oE (eC (.int 2))))) aN))))
    (sSeq (sPar [8, 9] (wC (e2 dDiv (oE (e2 dIxA (oV 1) (oE (eC (.int 2))))) (oV 7)) (wC (e2 dDiv (oE (e2 dIxA (oV 0) (oE (eC (.int 2))))) (oV 7)) wN)))
    (sSeq (sSet 10 (e2 dAdd (oE (e2 dDiv (oE (e2 dSub (oV 5) (oE (e2 dIxA (oV 1) (oE (eC (.int 1))))))) (oE (e2 dIxA (oV 1) (oE (eC (.int 2))))))) (oE (eC (.int 1)))))
    (sSeq (sSet 11 (eN fMax2 (aC (oE (eC (.int 0))) (aC (oE (e1 dNeg (oE (e2 dDiv (oE (e2 dSub (oV 10) (oE (eC (.int 1))))) (oV 9))))) aN))))
    (sSeq (sDrop (eApp 2 (eTup (lC (eSh (e2 dAdd (oV 6) (oE (e2 dMul (oV 11) (oV 8))))) (lC (eSh (e2 dAdd (oV 10) (oE (e2 dMul (oV 11) (oV 9))))) (lC (eSh (eV 8)) (lC (eSh (eV 9)) lN)))))))
    sBrk)))))
    sNx))
def m_meetings : List D → Option Res := mFn 12 2
    (sSeq (sSet 2 (eLst lN))
    (sSeq (sIf (tB (e2 dEq (oE (e2 dIxA (oV 0) (oE (eC (.int 0))))) (oE (e2 dIxA (oV 1) (oE (eC (.int 0)))))))
    (sDrop (eApp 2 (eTup (lC (eSh (eC (.int 0))) (lC (eSh (eC (.int 0))) (lC (eSh (eC (.int 0))) (lC (eSh (eC (.int 0))) lN)))))))
    sNx)
    (sSeq (sFor (iE (eTup (lC (eSh (eTup (lC (eSh (eC (.bool true))) (lC (eSh (eV 1)) (lC (eSh (e2 dIxA (oV 0) (oE (eC (.int 0))))) lN))))) (lC (eSh (eTup (lC (eSh (eC (.bool false))) (lC (eSh (eV 0)) (lC (eSh (e2 dIxA (oV 1) (oE (eC (.int 0))))) lN))))) lN)))) (gT (gsC (gN 3) (gsC (gN 4) (gsC (gN 5) gsN))) 3)
    b0_meetings)
    (sSeq (sFor (jR2 (lC (eSh (eC (.int 1))) (lC (eSh (e2 dAdd (oE (e2 dIxA (oV 1) (oE (eC (.int 2))))) (oE (eC (.int 1))))) lN))) (gN 6)
    b1_meetings)
    (sRet (eMv 2))))))
def m_cells_to : List D → Option Res := mFn 4 2
    (sRet (eLc [2, 3] (cI (iEn (lC (eSh (eV 0)) lN))) (gT (gsC (gN 2) (gsC (gN 3) gsN)) 2) (tB (e2 dEq (oE (e2 dIxA (oV 3) (oE (eC (.int 2))))) (oV 1))) (eV 2)))
def m_outlets_of : List D → Option Res := mFn 4 1
    (sRet (e1 opSS (oE (eLc [1, 2, 3] (cV 0) (gT (gsC (gN 1) (gsC (gN 2) (gsC (gN 3) gsN))) 3) tT (eV 3)))))
def m_step_of : List D → Option Res := mFn 2 2
    (sRet (eN fMax2 (aC (oE (e2 dIxA (oV 0) (oE (eC (.int 0))))) (aC (oE (eN fLen (aC (oE (eCall m_cells_to (aC (oE (e2 dIxA (oV 0) (oE (eC (.int 1))))) (aC (oV 1) aN)))) aN))) aN))))
def b0_sent_slots : SM :=
    (sDrop (eApp 1 (eIf (tB (e2 dEq (oV 1) (oE (eLst lN)))) (eV 2) (eN fMax2 (aC (oV 2) (aC (oE (e2 dAdd (oE (e2 dIxA (oV 1) (oE (e1 dNeg (oE (eC (.int 1))))))) (oE (eC (.int 1))))) aN))))))
def m_sent_slots : List D → Option Res := mFn 3 1
    (sSeq (sSet 1 (eLst lN))
    (sSeq (sFor (iE (eV 0)) (gN 2)
    b0_sent_slots)
    (sRet (eMv 1))))
def m_two_rounds : List D → Option Res := mFn 8 2
    (sSeq (sUnp (eSh (eV 0)) (gT (gsC (gN 2) (gsC (gN 3) gsN)) 2))
    (sSeq (sSet 4 (eLc [6] (cI (iE (eCall m_cells_to (aC (oV 3) (aC (oV 1) aN))))) (gN 6) tT (e2 dIxA (oE (e2 dIxA (oV 3) (oV 6))) (oE (eC (.int 0))))))
    (sSeq (sSet 5 (eCall m_sent_slots (aC (oE (eLst (lS (oV 4) (lS (oE (eLc [7] (cV 4) (gN 7) tT (e2 dAdd (oV 7) (oV 2)))) lN)))) aN)))
    (sRet (eTup (lC (eSh (eSl (oV 5) pNo (pEx (eN fLen (aC (oV 4) aN))))) (lC (eSh (eSl (oV 5) (pEx (eN fLen (aC (oV 4) aN))) pNo)) lN)))))))
def b0_times_of : SM :=
    (altS (sStL 1 (eV 6) (eTup (lC (eSh (e2 dIxA (oV 3) (oV 5))) (lC (eSh (e2 dIxA (oV 4) (oV 5))) (lC (eSh (eCall m_step_of (aC (oV 0) (aC (oV 2) aN)))) lN))))) (sStD 1 (eSh (eV 6)) (eTup (lC (eSh (e2 dIxA (oV 3) (oV 5))) (lC (eSh (e2 dIxA (oV 4) (oV 5))) (lC (eSh (eCall m_step_of (aC (oV 0) (aC (oV 2) aN)))) lN))))))
def b1_times_of : SM :=
    (sSeq (sUnp (eSh (eCall m_two_rounds (aC (oV 0) (aC (oV 2) aN)))) (gT (gsC (gN 3) (gsC (gN 4) gsN)) 2))
    (sFor (iEn (lC (eSh (eCall m_cells_to (aC (oE (e2 dIxA (oV 0) (oE (eC (.int 1))))) (aC (oV 2) aN)))) lN)) (gT (gsC (gN 5) (gsC (gN 6) gsN)) 2)
    b0_times_of))
def m_times_of : List D → Option Res := mFn 7 1
    (sSeq (sSet 1 eDk)
    (sSeq (sFor (iE (eCall m_outlets_of (aC (oE (e2 dIxA (oV 0) (oE (eC (.int 1))))) aN))) (gN 2)
    b1_times_of)
    (sRet (eLc [6] (cI (jR1 (lC (eSh (eN fLen (aC (oE (e2 dIxA (oV 0) (oE (eC (.int 1))))) aN))) lN))) (gN 6) tT (e2 dIxA (oV 1) (oV 6))))))
def b0_all_meetings : SM :=
    (sIf (tB (e2 dNe (oE (e2 dIxA (oE (e2 dIxA (oV 1) (oV 7))) (oE (eC (.int 2))))) (oE (e2 dIxA (oE (e2 dIxA (oV 1) (oV 8))) (oE (eC (.int 2)))))))
    (sDrop (eExt 3 (oE (eLc [10] (cI (iE (eCall m_meetings (aC (oE (e2 dIxA (oV 2) (oV 7))) (aC (oE (e2 dIxA (oV 2) (oV 8))) aN))))) (gN 10) tT (eTup (lC (eSh (eV 7)) (lC (eSh (eV 10)) lN)))))))
    sNx)
def b1_all_meetings : SM :=
    (sFor (iE (eSl (oV 5) (pEx (e2 dAdd (oV 6) (oE (eC (.int 1))))) pNo)) (gN 8)
    b0_all_meetings)
def b2_all_meetings : SM :=
    (sSeq (sSet 5 (eCall m_cells_from (aC (oV 1) (aC (oV 4) aN))))
    (sFor (iEn (lC (eSh (eV 5)) lN)) (gT (gsC (gN 6) (gsC (gN 7) gsN)) 2)
    b1_all_meetings))
def m_all_meetings : List D → Option Res := mFn 11 1
    (sSeq (sPar [1, 2, 3] (wC (e2 dIxA (oV 0) (oE (eC (.int 1)))) (wC (eCall m_times_of (aC (oV 0) aN)) (wC (eLst lN) wN))))
    (sSeq (sFor (iE (e1 opSS (oE (eLc [9] (cV 1) (gN 9) tT (e2 dIxA (oV 9) (oE (eC (.int 1)))))))) (gN 4)
    b2_all_meetings)
    (sRet (eMv 3))))
def m_is_integer : List D → Option Res := mFn 3 3
    (sSeq (sIf (tOr' (tNot' (tO (oE (e1 (dIsi "int") (oV 0))))) (tO (oE (e1 (dIsi "bool") (oV 0)))))
    (sRet (eC (.bool false)))
    sNx)
    (sRet (eAnd (eOr (e1 dIsN (oV 1)) (e2 dGe (oV 0) (oV 1))) (eOr (e1 dIsN (oV 2)) (e2 dLe (oV 0) (oV 2))))))
def m_are_picks : List D → Option Res := mFn 6 2
    (sSeq (sIf (tOr' (tNot' (tO (oE (e1 (dIsi "list") (oV 1))))) (tNot' (tO (oE (eN fAll (aC (oE (eLc [2] (cV 1) (gN 2) tT (eCall (fun ds => m_is_integer (ds ++ [])) (aC (oV 2) (aC (oE (eC (.int 0))) (aC (oE (e2 dSub (oE (eN fLen (aC (oV 0) aN))) (oE (eC (.int 1))))) aN)))))) aN))))))
    (sRet (eC (.bool false)))
    sNx)
    (sSeq (sIf (tNot' (tO (oE (eN fAll (aC (oE (eLc [3, 4] (cI (iZ2 (lC (eSh (eV 1)) (lC (eSh (eSl (oV 1) (pEx (eC (.int 1))) pNo)) lN)))) (gT (gsC (gN 3) (gsC (gN 4) gsN)) 2) tT (e2 dLt (oV 3) (oV 4)))) aN)))))
    (sRet (eC (.bool false)))
    sNx)
    (sRet (eN fAll (aC (oE (eLc [5] (cI (iE (eTup (lC (eSh (eC (.int 0))) (lC (eSh (eC (.int 1))) lN))))) (gN 5) tT (e2 dEq (oE (e1 opLS (oE (eLc [2] (cV 1) (gN 2) tT (e2 dIxA (oE (e2 dIxA (oV 0) (oV 2))) (oV 5)))))) (oE (eN fLen (aC (oV 1) aN)))))) aN)))))
def b0_slots_fault : SM :=
    (sIf (tNot' (tO (oE (eCall (fun ds => m_is_integer (ds ++ [])) (aC (oV 3) (aC (oE (e2 dIxA (oE (e2 dIxA (oV 0) (oV 2))) (oE (eC (.int 0))))) (aC (oE (eC (.int 9999999999999999999999999999999))) aN)))))))
    (sRet (eTup (lC (eSh (eV 2)) lN)))
    sNx)
def m_slots_fault : List D → Option Res := mFn 4 2
    (sSeq (sIf (tOr' (tNot' (tO (oE (e1 (dIsi "list") (oV 1))))) (tB (e2 dNe (oE (eN fLen (aC (oV 1) aN))) (oE (eN fLen (aC (oV 0) aN))))))
    (sRet (eTup (lC (eSh (eC .none)) lN)))
    sNx)
    (sSeq (sFor (iEn (lC (eSh (eV 1)) lN)) (gT (gsC (gN 2) (gsC (gN 3) gsN)) 2)
    b0_slots_fault)
    (sRet (eTup lN))))
def m_check_crossings : List D → Option Res := mFn 3 2
    (sSeq (sSet 2 (eCall m_slots_fault (aC (oV 0) (aC (oV 1) aN))))
    (sIf (tB (e2 dNe (oV 2) (oE (eTup lN))))
    sBad
    sNx))
def b0_sending_slots : SM :=
    (sSeq (sSet 4 (e2 dIxA (oE (e2 dIxA (oV 0) (oV 3))) (oE (eC (.int 0)))))
    (sDrop (eApp 2 (eIf (tB (e2 dEq (oV 2) (oE (eLst lN)))) (eV 4) (eN fMax2 (aC (oV 4) (aC (oE (e2 dAdd (oE (e2 dIxA (oV 2) (oE (e1 dNeg (oE (eC (.int 1))))))) (oE (eC (.int 1))))) aN)))))))
def m_sending_slots : List D → Option Res := mFn 5 2
    (sSeq (sSet 2 (eLst lN))
    (sSeq (sFor (iE (eCall m_cells_to (aC (oV 0) (aC (oV 1) aN)))) (gN 3)
    b0_sending_slots)
    (sRet (eMv 2))))
def b0_choices_of : SM :=
    (sDrop (eApp 2 (eN fMax2 (aC (oE (eC (.int 0))) (aC (oE (e2 dSub (oE (eN fLen (aC (oE (eLc [8] (cV 4) (gN 8) (tB (e2 dLe (oV 8) (oV 6))) (eV 8))) aN))) (oV 5))) aN)))))
def b1_choices_of : SM :=
    (sSeq (sSet 4 (eLc [7] (cI (iE (eCall m_cells_to (aC (oV 0) (aC (oV 3) aN))))) (gN 7) tT (e2 dIxA (oV 1) (oV 7))))
    (sFor (iEn (lC (eSh (eCall m_sending_slots (aC (oV 0) (aC (oV 3) aN)))) lN)) (gT (gsC (gN 5) (gsC (gN 6) gsN)) 2)
    b0_choices_of))
def m_choices_of : List D → Option Res := mFn 9 2
    (sSeq (sSet 2 (eLst lN))
    (sSeq (sFor (iE (eCall m_outlets_of (aC (oV 0) aN))) (gN 3)
    b1_choices_of)
    (sRet (eMv 2))))
def m_is_cell : List D → Option Res := mFn 5 2
    (sSeq (sIf (tOr' (tNot' (tO (oE (e1 (dIsi "tuple") (oV 1))))) (tB (e2 dNe (oE (eN fLen (aC (oV 1) aN))) (oE (eC (.int 3))))))
    (sRet (eC (.bool false)))
    sNx)
    (sSeq (sUnp (eSh (eV 1)) (gT (gsC (gN 2) (gsC (gN 3) (gsC (gN 4) gsN))) 3))
    (sRet (eAnd (eCall (fun ds => m_is_integer (ds ++ [])) (aC (oV 2) (aC (oE (eC (.int 0))) (aC (oE (eC (.int 999999999999999999999999999999))) aN)))) (eAnd (eCall (fun ds => m_is_integer (ds ++ [])) (aC (oV 3) (aC (oE (eC (.int 0))) (aC (oE (e2 dSub (oV 0) (oE (eC (.int 1))))) aN)))) (eCall (fun ds => m_is_integer (ds ++ [])) (aC (oV 4) (aC (oE (eC (.int 0))) (aC (oE (e2 dSub (oV 0) (oE (eC (.int 1))))) aN)))))))))
def b0_cells_fault : SM :=
    (sIf (tOr' (tNot' (tO (oE (eCall m_is_cell (aC (oV 0) (aC (oV 3) aN)))))) (tAnd' (tB (e2 dGt (oV 2) (oE (eC (.int 0))))) (tB (e2 dGe (oE (eSl (oE (e2 dIxA (oV 1) (oE (e2 dSub (oV 2) (oE (eC (.int 1))))))) pNo (pEx (eC (.int 2))))) (oE (eSl (oV 3) pNo (pEx (eC (.int 2)))))))))
    (sRet (eTup (lC (eSh (eV 2)) lN)))
    sNx)
def m_cells_fault : List D → Option Res := mFn 4 2
    (sSeq (sIf (tOr' (tNot' (tO (oE (e1 (dIsi "list") (oV 1))))) (tB (e2 dGt (oE (eN fLen (aC (oV 1) aN))) (oE (eC (.int 60))))))
    (sRet (eTup (lC (eSh (eC .none)) lN)))
    sNx)
    (sSeq (sFor (iEn (lC (eSh (eV 1)) lN)) (gT (gsC (gN 2) (gsC (gN 3) gsN)) 2)
    b0_cells_fault)
    (sRet (eTup lN))))
def m_need_size : List D → Option Res := mFn 1 1
    (sIf (tNot' (tO (oE (eCall (fun ds => m_is_integer (ds ++ [])) (aC (oV 0) (aC (oE (eC (.int 1))) (aC (oE (eC (.int 8))) aN)))))))
    sBad
    sNx)
def m_need_cells : List D → Option Res := mFn 3 2
    (sSeq (sDrop (eCall m_need_size (aC (oV 0) aN)))
    (sSeq (sSet 2 (eCall m_cells_fault (aC (oV 0) (aC (oV 1) aN))))
    (sIf (tB (e2 dNe (oV 2) (oE (eTup lN))))
    sBad
    sNx)))
def m_need_crossings : List D → Option Res := mFn 3 3
    (sSeq (sDrop (eCall m_need_cells (aC (oV 0) (aC (oV 1) aN))))
    (sDrop (eCall m_check_crossings (aC (oV 1) (aC (oV 2) aN)))))
def b0_product_of : SM :=
    (sAug 1 dMul (oV 2))
def m_product_of : List D → Option Res := mFn 3 1
    (sSeq (sSet 1 (eC (.int 1)))
    (sSeq (sFor (iE (eV 0)) (gN 2)
    b0_product_of)
    (sRet (eMv 1))))
def m_both_count : List D → Option Res := mFn 6 4
    (sSeq (sDrop (eCall m_need_crossings (aC (oV 0) (aC (oV 1) (aC (oV 2) aN)))))
    (sSeq (sDrop (eCall m_check_crossings (aC (oV 1) (aC (oV 3) aN))))
    (sSeq (sSet 4 (eLc [5] (cI (iZ2 (lC (eSh (eV 2)) (lC (eSh (eV 3)) lN)))) (gN 5) tT (eN fMaxL (aC (oV 5) aN))))
    (sRet (eCall m_product_of (aC (oE (eCall m_choices_of (aC (oV 1) (aC (oV 4) aN)))) aN))))))
def b0_loads_of : SM :=
    (sSeq (sSet 6 (eTup (lC (eSh (eV 5)) (lC (eSh (e2 dIxA (oV 4) (oV 2))) lN))))
    (sStD 3 (eSh (eV 6)) (e2 dAdd (oE (eDget2 (oV 3) (oV 6) (eC (.int 0)))) (oE (eC (.int 1))))))
def m_loads_of : List D → Option Res := mFn 7 3
    (sSeq (sSet 3 eDt)
    (sSeq (sFor (iZ2 (lC (eSh (eV 0)) (lC (eSh (eV 1)) lN))) (gT (gsC (gN 4) (gsC (gN 5) gsN)) 2)
    b0_loads_of)
    (sRet (eMv 3))))
def m_most_at_once : List D → Option Res := mFn 3 3
    (sRet (e1 (opMaxV (.int 0)) (oE (eCall m_loads_of (aC (oV 0) (aC (oV 1) (aC (oV 2) aN)))))))
def m_own_slots : List D → Option Res := mFn 4 1
    (sRet (eLc [1, 2, 3] (cV 0) (gT (gsC (gN 1) (gsC (gN 2) (gsC (gN 3) gsN))) 3) tT (eV 1)))
def m_bunch_number : List D → Option Res := mFn 2 2
    (sSeq (sDrop (eCall m_need_cells (aC (oV 0) (aC (oV 1) aN))))
    (sRet (eCall m_most_at_once (aC (oV 1) (aC (oE (eCall m_own_slots (aC (oV 1) aN))) (aC (oE (eC (.int 2))) aN))))))
def m_crowded : List D → Option Res := mFn 5 3
    (sRet (eN fSorted (aC (oE (eLc [3, 4] (cI (iIt (eCall m_loads_of (aC (oV 0) (aC (oV 1) (aC (oV 2) aN)))))) (gT (gsC (gN 3) (gsC (gN 4) gsN)) 2) (tB (e2 dGt (oV 4) (oE (eC (.int 1))))) (eV 3))) aN)))
def m_bunches : List D → Option Res := mFn 2 2
    (sSeq (sDrop (eCall m_need_cells (aC (oV 0) (aC (oV 1) aN))))
    (sRet (eCall m_crowded (aC (oV 1) (aC (oE (eCall m_own_slots (aC (oV 1) aN))) (aC (oE (eC (.int 2))) aN))))))
def m_busy_count : List D → Option Res := mFn 2 2
    (sSeq (sDrop (eCall m_need_cells (aC (oV 0) (aC (oV 1) aN))))
    (sRet (eCall m_product_of (aC (oE (eCall m_choices_of (aC (oV 1) (aC (oE (eCall m_own_slots (aC (oV 1) aN))) aN)))) aN))))
def m_need_port : List D → Option Res := mFn 2 2
    (sIf (tNot' (tO (oE (eCall (fun ds => m_is_integer (ds ++ [])) (aC (oV 1) (aC (oE (eC (.int 0))) (aC (oE (e2 dSub (oV 0) (oE (eC (.int 1))))) aN)))))))
    sBad
    sNx)
def m_busy_slots : List D → Option Res := mFn 3 3
    (sSeq (sDrop (eCall m_need_cells (aC (oV 0) (aC (oV 1) aN))))
    (sSeq (sDrop (eCall m_need_port (aC (oV 0) (aC (oV 2) aN))))
    (sRet (eCall m_sending_slots (aC (oV 1) (aC (oV 2) aN))))))
def m_check_few : List D → Option Res := mFn 4 2
    (sIf (tOr' (tB (e2 dGt (oE (eN fLen (aC (oV 0) aN))) (oE (eC (.int 8))))) (tO (oE (eN fAny (aC (oE (eLc [2, 3] (cI (iZ2 (lC (eSh (eV 0)) (lC (eSh (eV 1)) lN)))) (gT (gsC (gN 2) (gsC (gN 3) gsN)) 2) tT (e2 dGe (oE (e2 dSub (oV 3) (oE (e2 dIxA (oV 2) (oE (eC (.int 0))))))) (oE (eC (.int 8)))))) aN)))))
    sBad
    sNx)
def b0_row_fault : SM :=
    (sSeq (sUnp (eSh (e2 dIxA (oV 0) (oV 3))) (gT (gsC (gN 5) (gsC (gN 6) (gsC (gN 7) gsN))) 3))
    (sSeq (sIf (tOr' (tNot' (tO (oE (eCall (fun ds => m_is_integer (ds ++ [])) (aC (oV 4) (aC (oV 5) (aC (oE (eC (.int 9999999999999999999999999999999))) aN))))))) (tB (e2 dInA (oE (eTup (lC (eSh (eV 7)) (lC (eSh (eV 4)) lN)))) (oV 2))))
    (sRet (eTup (lC (eSh (eV 3)) lN)))
    sNx)
    (sStD 2 (eSh (eTup (lC (eSh (eV 7)) (lC (eSh (eV 4)) lN)))) (eC (.bool true)))))
def m_row_fault : List D → Option Res := mFn 8 2
    (sSeq (sIf (tOr' (tNot' (tO (oE (e1 (dIsi "list") (oV 1))))) (tB (e2 dNe (oE (eN fLen (aC (oV 1) aN))) (oE (eN fLen (aC (oV 0) aN))))))
    (sRet (eTup (lC (eSh (eC .none)) lN)))
    sNx)
    (sSeq (sSet 2 eDt)
    (sSeq (sFor (iEn (lC (eSh (eV 1)) lN)) (gT (gsC (gN 3) (gsC (gN 4) gsN)) 2)
    b0_row_fault)
    (sRet (eTup lN)))))
def m_need_row : List D → Option Res := mFn 4 3
    (sSeq (sDrop (eCall m_need_cells (aC (oV 0) (aC (oV 1) aN))))
    (sSeq (sSet 3 (eCall m_row_fault (aC (oV 1) (aC (oV 2) aN))))
    (sIf (tB (e2 dNe (oV 3) (oE (eTup lN))))
    sBad
    sNx)))
def m_clash_number : List D → Option Res := mFn 3 3
    (sSeq (sDrop (eCall m_need_row (aC (oV 0) (aC (oV 1) (aC (oV 2) aN)))))
    (sRet (eCall m_most_at_once (aC (oV 1) (aC (oV 2) (aC (oE (eC (.int 1))) aN))))))
def m_meetings_within : List D → Option Res := mFn 6 2
    (sSeq (sUnp (eSh (eV 0)) (gT (gsC (gN 2) (gsC (gN 3) (gsC (gN 4) (gsC (gN 5) gsN)))) 4))
    (sSeq (sIf (tB (e2 dGe (oE (eN fMax2 (aC (oV 2) (aC (oV 3) aN)))) (oV 1)))
    (sRet (eC (.int 0)))
    sNx)
    (sSeq (sIf (tB (e2 dEq (oV 4) (oE (eC (.int 0)))))
    (sRet (eC (.int 1)))
    sNx)
    (sRet (e2 dAdd (oE (eN fMin2 (aC (oE (e2 dDiv (oE (e2 dSub (oE (e2 dSub (oV 1) (oE (eC (.int 1))))) (oV 2))) (oV 4))) (aC (oE (e2 dDiv (oE (e2 dSub (oE (e2 dSub (oV 1) (oE (eC (.int 1))))) (oV 3))) (oV 5))) aN)))) (oE (eC (.int 1))))))))
def m_frame_fault : List D → Option Res := mFn 5 2
    (sSeq (sIf (tOr' (tNot' (tO (oE (e1 (dIsi "tuple") (oV 1))))) (tB (e2 dNe (oE (eN fLen (aC (oV 1) aN))) (oE (eC (.int 2))))))
    (sRet (eTup (lC (eSh (eC .none)) lN)))
    sNx)
    (sSeq (sUnp (eSh (eV 1)) (gT (gsC (gN 2) (gsC (gN 3) gsN)) 2))
    (sSeq (sIf (tNot' (tO (oE (eCall (fun ds => m_is_integer (ds ++ [])) (aC (oV 2) (aC (oE (eC (.int 1))) (aC (oE (eC (.int 40))) aN)))))))
    (sRet (eTup (lC (eSh (eC (.int 0))) lN)))
    sNx)
    (sSeq (sIf (tOr' (tB (e2 dNe (oE (eCall m_cells_fault (aC (oV 0) (aC (oV 3) aN)))) (oE (eTup lN)))) (tO (oE (eN fAny (aC (oE (eLc [4] (cV 3) (gN 4) tT (e2 dGe (oE (e2 dIxA (oV 4) (oE (eC (.int 0))))) (oV 2)))) aN)))))
    (sRet (eTup (lC (eSh (eC (.int 1))) lN)))
    sNx)
    (sRet (eTup lN))))))
def m_need_frame : List D → Option Res := mFn 3 2
    (sSeq (sDrop (eCall m_need_size (aC (oV 0) aN)))
    (sSeq (sSet 2 (eCall m_frame_fault (aC (oV 0) (aC (oV 1) aN))))
    (sIf (tB (e2 dNe (oV 2) (oE (eTup lN))))
    sBad
    sNx)))
def m_need_number : List D → Option Res := mFn 3 3
    (sIf (tNot' (tO (oE (eCall (fun ds => m_is_integer (ds ++ [])) (aC (oV 0) (aC (oV 1) (aC (oV 2) aN)))))))
    sBad
    sNx)
def m_clash_pairs : List D → Option Res := mFn 5 3
    (sSeq (sDrop (eCall m_need_frame (aC (oV 0) (aC (oV 1) aN))))
    (sSeq (sDrop (eCall (fun ds => m_need_number (ds ++ [])) (aC (oV 2) (aC (oE (eC (.int 0))) (aC (oE (eC (.int 1000000000000000000000000000000))) aN)))))
    (sRet (eN fSum (aC (oE (eLc [3, 4] (cI (iE (eCall m_all_meetings (aC (oV 1) aN)))) (gT (gsC (gN 3) (gsC (gN 4) gsN)) 2) tT (eCall m_meetings_within (aC (oV 4) (aC (oV 2) aN))))) aN)))))
def m_clashes : List D → Option Res := mFn 3 3
    (sSeq (sDrop (eCall m_need_row (aC (oV 0) (aC (oV 1) (aC (oV 2) aN)))))
    (sRet (eCall m_crowded (aC (oV 1) (aC (oV 2) (aC (oE (eC (.int 1))) aN))))))
def m_clear_rounds : List D → Option Res := mFn 4 2
    (sSeq (sDrop (eCall m_need_frame (aC (oV 0) (aC (oV 1) aN))))
    (sRet (e1 (fMinD .none) (oE (eLc [2, 3] (cI (iE (eCall m_all_meetings (aC (oV 1) aN)))) (gT (gsC (gN 2) (gsC (gN 3) gsN)) 2) tT (eN fMaxL (aC (oE (eSl (oV 3) pNo (pEx (eC (.int 2))))) aN)))))))
def b0_parts_of : SM :=
    (sSeq (sSet 5 (eLc [6] (cV 1) (gN 6) (tO (oE (eN fAny (aC (oE (eLc [7] (cI (iE (e2 dIxA (oV 0) (oV 6)))) (gN 7) tT (e2 dInA (oV 7) (oE (e2 dIxA (oV 0) (oE (e2 dIxA (oV 3) (oV 4)))))))) aN)))) (eV 6)))
    (sSeq (sDrop (eExt 3 (oV 5)))
    (sSeq (sSet 1 (eLc [6] (cV 1) (gN 6) (tB (e2 dNinA (oV 6) (oV 5))) (eV 6)))
    (sAug 4 dAddI (oE (eC (.int 1)))))))
def b1_parts_of : SM :=
    (sSeq (sPar [3, 4] (wC (eLst (lC (eSh (ePop0 1)) lN)) (wC (eC (.int 0)) wN)))
    (sSeq (sWhile 100000 (tB (e2 dLt (oV 4) (oE (eN fLen (aC (oV 3) aN)))))
    b0_parts_of)
    (sDrop (eApp 2 (eN fSorted (aC (oV 3) aN))))))
def m_parts_of : List D → Option Res := mFn 8 1
    (sSeq (sPar [1, 2] (wC (e1 fLr1 (oE (eN fLen (aC (oV 0) aN)))) (wC (eLst lN) wN)))
    (sSeq (sWhile 100000 (tB (e2 dNe (oV 1) (oE (eLst lN))))
    b1_parts_of)
    (sRet (eMv 2))))
def b0_tight_ports : SM :=
    (sIf (tB (e2 dGt (oE (eN fLen (aC (oE (eLc [6] (cV 0) (gN 6) (tB (e2 dEq (oE (e2 dIxA (oV 6) (oV 5))) (oE (e2 dIxA (oV 3) (oV 5))))) (eV 6))) aN))) (oE (e2 dIxA (oV 1) (oE (e2 dSub (oV 5) (oE (eC (.int 1)))))))))
    (sDrop (eApp 4 (eTup (lC (eSh (eV 5)) (lC (eSh (e2 dIxA (oV 3) (oV 5))) lN)))))
    sNx)
def b1_tight_ports : SM :=
    (sSeq (sSet 4 (eLst lN))
    (sSeq (sFor (iE (eTup (lC (eSh (eC (.int 1))) (lC (eSh (eC (.int 2))) lN)))) (gN 5)
    b0_tight_ports)
    (sDrop (eApp 2 (eV 4)))))
def m_tight_ports : List D → Option Res := mFn 7 2
    (sSeq (sSet 2 (eLst lN))
    (sSeq (sFor (iE (eV 0)) (gN 3)
    b1_tight_ports)
    (sRet (eMv 2))))
def b0_picks_in : SM :=
    (sSeq (sSet 8 (eLc2 [9, 10] [10] (cV 7) (gN 9) tT (jF (e2 dIxA (oV 0) (oV 9))) (gN 10) tT (eV 10)))
    (sIf (tO (oE (eN fAll (aC (oE (eLc [10] (cI (iE (e2 dIxA (oV 0) (oV 5)))) (gN 10) tT (e2 dLt (oE (eMth isLst dCnt (oV 8) (oV 10))) (oE (e2 dIxA (oV 1) (oE (e2 dSub (oE (e2 dIxA (oV 10) (oE (eC (.int 0))))) (oE (eC (.int 1)))))))))) aN))))
    (sDrop (eApp 6 (eLst (lS (oV 7) (lC (eSh (eV 5)) lN)))))
    sNx))
def b1_picks_in : SM :=
    (sSeq (sSet 6 (eLst lN))
    (sSeq (sFor (iE (eV 4)) (gN 7)
    b0_picks_in)
    (sSet 4 (eIf (tB (e2 dInA (oV 5) (oV 3))) (eMv 6) (eLst (lS (oV 4) (lS (oV 6) lN)))))))
def m_picks_in : List D → Option Res := mFn 11 4
    (sSeq (sSet 4 (eLst (lC (eSh (eLst lN)) lN)))
    (sSeq (sFor (iE (eV 2)) (gN 5)
    b1_picks_in)
    (sRet (eMv 4))))
def b0_ways_with : SM :=
    (sSeq (sSet 14 (e2 dAdd (oV 10) (oE (eN fSum (aC (oE (eLc [15] (cV 13) (gN 15) tT (e2 dShl (oE (eC (.int 1))) (oV 15)))) aN)))))
    (altS (sStL 9 (eV 14) (e2 dAdd (oE (eDget2 (oV 9) (oV 14) (eC (.int 0)))) (oV 11))) (sStD 9 (eSh (eV 14)) (e2 dAdd (oE (eDget2 (oV 9) (oV 14) (eC (.int 0)))) (oV 11)))))
def b1_ways_with : SM :=
    (sSeq (sSet 12 (eLc [15] (cV 7) (gN 15) (tB (e2 dEq (oE (e2 dBand (oE (e2 dShr (oV 10) (oV 15))) (oE (eC (.int 1))))) (oE (eC (.int 0))))) (eV 15)))
    (sFor (iE (eCall m_picks_in (aC (oV 0) (aC (oV 2) (aC (oV 12) (aC (oV 8) aN)))))) (gN 13)
    b0_ways_with))
def b2_ways_with : SM :=
    (sSeq (sSet 7 (eLc [15] (cV 3) (gN 15) (tB (eCh dLe dLe (oE (e2 dIxA (oE (e2 dIxA (oV 1) (oV 15))) (oE (eC (.int 0))))) (oV 4) (oE (e2 dIxA (oE (e2 dIxA (oV 1) (oV 15))) (oE (eC (.int 1))))))) (eV 15)))
    (sSeq (sSet 8 (eLc [15] (cV 7) (gN 15) (tB (e2 dEq (oE (e2 dIxA (oE (e2 dIxA (oV 1) (oV 15))) (oE (eC (.int 1))))) (oV 4))) (eV 15)))
    (sSeq (sSet 9 eDk)
    (sSeq (sFor (iIt (eMv 6)) (gT (gsC (gN 10) (gsC (gN 11) gsN)) 2)
    b1_ways_with)
    (sSet 6 (eMv 9))))))
def m_ways_with : List D → Option Res := mFn 16 4
    (sSeq (sSet 5 (e1 opSS (oE (eLc2 [15, 4] [4] (cV 3) (gN 15) tT (jR2 (lC (eSh (e2 dIxA (oE (e2 dIxA (oV 1) (oV 15))) (oE (eC (.int 0))))) (lC (eSh (e2 dAdd (oE (e2 dIxA (oE (e2 dIxA (oV 1) (oV 15))) (oE (eC (.int 1))))) (oE (eC (.int 1))))) lN))) (gN 4) tT (eV 4)))))
    (sSeq (sSet 6 (eD01 0 1))
    (sSeq (sFor (iE (eV 5)) (gN 4)
    b2_ways_with)
    (sRet (eDget2 (oV 6) (oE (eN fSum (aC (oE (eLc [15] (cV 3) (gN 15) tT (e2 dShl (oE (eC (.int 1))) (oV 15)))) aN))) (eC (.int 0)))))))
def b0_count_with : SM :=
    (sAug 4 dMul (oE (eCall m_ways_with (aC (oV 3) (aC (oV 1) (aC (oV 2) (aC (oV 5) aN)))))))
def m_count_with : List D → Option Res := mFn 6 3
    (sSeq (sPar [3, 4] (wC (eCall m_tight_ports (aC (oV 0) (aC (oV 2) aN))) (wC (eC (.int 1)) wN)))
    (sSeq (sFor (iE (eCall m_parts_of (aC (oV 3) aN))) (gN 5)
    b0_count_with)
    (sRet (eMv 4))))
def m_crossing_at : List D → Option Res := mFn 4 2
    (sRet (eLc [2, 3] (cI (iEn (lC (eSh (eV 0)) lN))) (gT (gsC (gN 2) (gsC (gN 3) gsN)) 2) (tB (e2 dEq (oV 3) (oV 1))) (eV 2)))
def b0_crowding_cells : SM :=
    (sDrop (eApp 2 (eTup (lC (eSh (eV 3)) (lC (eSh (eV 1)) (lC (eSh (e2 dAdd (oE (e2 dSub (oV 1) (oV 3))) (oE (eC (.int 1))))) lN))))))
def b1_crowding_cells : SM :=
    (sFor (jR2 (lC (eSh (eV 3)) (lC (eSh (e2 dAdd (oV 0) (oE (eC (.int 1))))) lN))) (gN 1)
    b0_crowding_cells)
def m_crowding_cells : List D → Option Res := mFn 4 1
    (sSeq (sSet 2 (eLc [1] (cI (jR1 (lC (eSh (e2 dAdd (oV 0) (oE (eC (.int 1))))) lN))) (gN 1) tT (eTup (lC (eSh (eC (.int 0))) (lC (eSh (eV 1)) (lC (eSh (eC (.int 0))) lN))))))
    (sSeq (sFor (jR2 (lC (eSh (eC (.int 1))) (lC (eSh (e2 dAdd (oV 0) (oE (eC (.int 1))))) lN))) (gN 3)
    b1_crowding_cells)
    (sRet (eMv 2))))
def m_enough : List D → Option Res := mFn 4 2
    (sSeq (sUnp (eSh (eV 1)) (gT (gsC (gN 2) (gsC (gN 3) gsN)) 2))
    (sRet (eOr (e2 dGe (oE (eN fMin2 (aC (oV 2) (aC (oV 3) aN)))) (oE (eC (.int 2)))) (e2 dGe (oE (eN fMax2 (aC (oV 2) (aC (oV 3) aN)))) (oV 0)))))
def m_fewest_pairings : List D → Option Res := mFn 6 2
    (sSeq (sSet 2 (eLc2 [3, 4] [4] (cI (iE (eTup (lC (eSh (eC (.int 1))) (lC (eSh (eC (.int 2))) lN))))) (gN 3) tT (jF (eV 1)) (gN 4) tT (eTup (lC (eSh (eV 3)) (lC (eSh (e2 dIxA (oE (e2 dIxA (oV 0) (oV 4))) (oV 3))) lN)))))
    (sRet (e1 (fMaxD (.int 0)) (oE (eLc [5] (cV 2) (gN 5) tT (eMth isLst dCnt (oV 2) (oV 5)))))))
def m_first_clash : List D → Option Res := mFn 7 2
    (sSeq (sDrop (eCall m_need_frame (aC (oV 0) (aC (oV 1) aN))))
    (sSeq (sPar [2, 3] (wC (eCall m_times_of (aC (oV 1) aN)) (wC (e2 dIxA (oV 1) (oE (eC (.int 1)))) wN)))
    (sSeq (sSet 4 (eLc [5, 6] (cI (iE (eCall m_all_meetings (aC (oV 1) aN)))) (gT (gsC (gN 5) (gsC (gN 6) gsN)) 2) tT (eTup (lC (eSh (eCall m_slot_in (aC (oE (e2 dIxA (oV 2) (oV 5))) (aC (oE (e2 dIxA (oV 6) (oE (eC (.int 0))))) aN)))) (lC (eSh (e2 dIxA (oE (e2 dIxA (oV 3) (oV 5))) (oE (eC (.int 1))))) lN)))))
    (sRet (eIf (tB (e2 dNe (oV 4) (oE (eLst lN)))) (eN fMinL (aC (oV 4) aN)) (eC .none))))))
def b0_first_row : SM :=
    (altS (sStL 1 (eV 3) (eV 4)) (sStD 1 (eSh (eV 3)) (eV 4)))
def b1_first_row : SM :=
    (sFor (iZ2 (lC (eSh (eCall m_cells_to (aC (oV 0) (aC (oV 2) aN)))) (lC (eSh (eCall m_sending_slots (aC (oV 0) (aC (oV 2) aN)))) lN))) (gT (gsC (gN 3) (gsC (gN 4) gsN)) 2)
    b0_first_row)
def m_first_row : List D → Option Res := mFn 5 1
    (sSeq (sSet 1 (eRep (eLst (lC (eSh (eC (.int 0))) lN)) (oE (eN fLen (aC (oV 0) aN)))))
    (sSeq (sFor (iE (eCall m_outlets_of (aC (oV 0) aN))) (gN 2)
    b1_first_row)
    (sRet (eMv 1))))
def m_first_come : List D → Option Res := mFn 2 2
    (sSeq (sDrop (eCall m_need_cells (aC (oV 0) (aC (oV 1) aN))))
    (sRet (eCall m_first_row (aC (oV 1) aN))))
def b0_first_starved : SM :=
    (sIf (tB (e2 dLe (oE (eN fLen (aC (oE (eLc [8] (cV 4) (gN 8) (tB (e2 dLe (oV 8) (oV 6))) (eV 8))) aN))) (oV 5)))
    (sDrop (eApp 2 (eTup (lC (eSh (eV 6)) (lC (eSh (eV 3)) lN)))))
    sNx)
def b1_first_starved : SM :=
    (sSeq (sSet 4 (eLc [7] (cI (iE (eCall m_cells_to (aC (oV 0) (aC (oV 3) aN))))) (gN 7) tT (e2 dIxA (oV 1) (oV 7))))
    (sFor (iEn (lC (eSh (eCall m_sending_slots (aC (oV 0) (aC (oV 3) aN)))) lN)) (gT (gsC (gN 5) (gsC (gN 6) gsN)) 2)
    b0_first_starved))
def m_first_starved : List D → Option Res := mFn 9 2
    (sSeq (sSet 2 (eLst lN))
    (sSeq (sFor (iE (eCall m_outlets_of (aC (oV 0) aN))) (gN 3)
    b1_first_starved)
    (sRet (eIf (tB (e2 dNe (oV 2) (oE (eLst lN)))) (eN fMinL (aC (oV 2) aN)) (eC .none)))))
def b0_first_unpressed : SM :=
    (sIf (tAnd' (tB (e2 dNinA (oV 6) (oV 5))) (tO (oE (eN fAny (aC (oE (eLc [8] (cV 4) (gN 8) tT (eCh dLt dLe (oE (e2 dIxA (oE (e2 dIxA (oV 0) (oV 8))) (oE (eC (.int 0))))) (oV 6) (oE (e2 dIxA (oV 1) (oV 8)))))) aN)))))
    (sDrop (eApp 2 (eTup (lC (eSh (eV 6)) (lC (eSh (eV 3)) lN)))))
    sNx)
def b1_first_unpressed : SM :=
    (sSeq (sSet 4 (eCall m_cells_from (aC (oV 0) (aC (oV 3) aN))))
    (sSeq (sSet 5 (eLc [8] (cV 4) (gN 8) tT (e2 dIxA (oE (e2 dIxA (oV 0) (oV 8))) (oE (eC (.int 0))))))
    (sFor (iE (eLc [9] (cV 5) (gN 9) tT (e2 dAdd (oV 9) (oE (eC (.int 1)))))) (gN 6)
    b0_first_unpressed)))
def m_first_unpressed : List D → Option Res := mFn 10 2
    (sSeq (sSet 2 (eLst lN))
    (sSeq (sFor (iE (e1 opSS (oE (eLc [7] (cV 0) (gN 7) tT (e2 dIxA (oV 7) (oE (eC (.int 1)))))))) (gN 3)
    b1_first_unpressed)
    (sRet (eIf (tB (e2 dNe (oV 2) (oE (eLst lN)))) (eN fMinL (aC (oV 2) aN)) (eC .none)))))
def b0_fits_rhythm : SM :=
    (sIf (tB (e2 dGt (oV 7) (oE (e2 dIxA (oV 2) (oE (e2 dMod (oV 5) (oE (eN fLen (aC (oV 2) aN)))))))))
    (sRet (eC (.bool false)))
    sNx)
def b1_fits_rhythm : SM :=
    (sFor (iIt (eCall m_loads_of (aC (oV 0) (aC (oV 1) (aC (oV 4) aN))))) (gT (gsC (gT (gsC (gN 5) (gsC (gN 6) gsN)) 2) (gsC (gN 7) gsN)) 2)
    b0_fits_rhythm)
def m_fits_rhythm : List D → Option Res := mFn 8 4
    (sSeq (sFor (iE (eV 3)) (gN 4)
    b1_fits_rhythm)
    (sRet (eC (.bool true))))
def m_need_speeds : List D → Option Res := mFn 2 1
    (sSeq (sIf (tOr' (tNot' (tO (oE (e1 (dIsi "tuple") (oV 0))))) (tB (e2 dNe (oE (eN fLen (aC (oV 0) aN))) (oE (eC (.int 2))))))
    sBad
    sNx)
    (sIf (tNot' (tO (oE (eN fAll (aC (oE (eLc [1] (cV 0) (gN 1) tT (eCall (fun ds => m_is_integer (ds ++ [])) (aC (oV 1) (aC (oE (eC (.int 1))) (aC (oE (eC (.int 60))) aN)))))) aN)))))
    sBad
    sNx))
def m_need_few : List D → Option Res := mFn 4 4
    (sSeq (sDrop (eCall m_need_row (aC (oV 0) (aC (oV 1) (aC (oV 2) aN)))))
    (sSeq (sDrop (eCall m_need_speeds (aC (oV 3) aN)))
    (sDrop (eCall m_check_few (aC (oV 1) (aC (oV 2) aN))))))
def m_spans_of : List D → Option Res := mFn 4 2
    (sRet (eLc [2, 3] (cI (iZ2 (lC (eSh (eV 0)) (lC (eSh (eV 1)) lN)))) (gT (gsC (gN 2) (gsC (gN 3) gsN)) 2) tT (eTup (lC (eSh (e2 dIxA (oV 2) (oE (eC (.int 0))))) (lC (eSh (eV 3)) lN)))))
def m_has_plan : List D → Option Res := mFn 4 4
    (sSeq (sDrop (eCall m_need_few (aC (oV 0) (aC (oV 1) (aC (oV 2) (aC (oV 3) aN))))))
    (sRet (e2 dGt (oE (eCall m_count_with (aC (oV 1) (aC (oE (eCall m_spans_of (aC (oV 1) (aC (oV 2) aN)))) (aC (oV 3) aN))))) (oE (eC (.int 0))))))
def b0_has_windows : SM :=
    (sSeq (sAug 5 dAddI (oE (e2 dIxA (oV 0) (oE (e2 dMod (oE (e2 dSub (oE (e2 dAdd (oV 4) (oV 6))) (oE (eC (.int 1))))) (oV 3))))))
    (sIf (tB (e2 dLt (oV 5) (oE (e2 dSub (oE (e2 dMul (oE (eC (.int 2))) (oV 6))) (oE (eC (.int 1)))))))
    (sRet (eC (.bool false)))
    sNx))
def b1_has_windows : SM :=
    (sSeq (sSet 5 (eC (.int 0)))
    (sFor (jR2 (lC (eSh (eC (.int 1))) (lC (eSh (e2 dAdd (oV 2) (oE (eC (.int 1))))) lN))) (gN 6)
    b0_has_windows))
def m_has_windows : List D → Option Res := mFn 7 2
    (sSeq (sPar [2, 3] (wC (eN fMin2 (aC (oV 1) (aC (oE (e2 dMul (oE (eC (.int 2))) (oE (eN fLen (aC (oV 0) aN))))) aN))) (wC (eN fLen (aC (oV 0) aN)) wN)))
    (sSeq (sFor (jR1 (lC (eSh (eV 3)) lN)) (gN 4)
    b1_has_windows)
    (sRet (eC (.bool true)))))
def b0_is_busy_row : SM :=
    (sIf (tB (e2 dNe (oE (eN fSorted (aC (oE (eLc [3] (cI (iE (eCall m_cells_to (aC (oV 0) (aC (oV 2) aN))))) (gN 3) tT (e2 dIxA (oV 1) (oV 3)))) aN))) (oE (eCall m_sending_slots (aC (oV 0) (aC (oV 2) aN))))))
    (sRet (eC (.bool false)))
    sNx)
def m_is_busy_row : List D → Option Res := mFn 4 2
    (sSeq (sFor (iE (eCall m_outlets_of (aC (oV 0) aN))) (gN 2)
    b0_is_busy_row)
    (sRet (eC (.bool true))))
def m_is_busy : List D → Option Res := mFn 3 3
    (sSeq (sDrop (eCall m_need_row (aC (oV 0) (aC (oV 1) (aC (oV 2) aN)))))
    (sRet (eCall m_is_busy_row (aC (oV 1) (aC (oV 2) aN)))))
def m_is_cells : List D → Option Res := mFn 2 2
    (sSeq (sDrop (eCall m_need_size (aC (oV 0) aN)))
    (sRet (e2 dEq (oE (eCall m_cells_fault (aC (oV 0) (aC (oV 1) aN)))) (oE (eTup lN)))))
def m_is_enough : List D → Option Res := mFn 2 2
    (sSeq (sDrop (eCall m_need_size (aC (oV 0) aN)))
    (sSeq (sDrop (eCall m_need_speeds (aC (oV 1) aN)))
    (sRet (eCall m_enough (aC (oV 0) (aC (oV 1) aN))))))
def m_is_pairing : List D → Option Res := mFn 5 2
    (sSeq (sIf (tOr' (tNot' (tO (oE (e1 (dIsi "list") (oV 1))))) (tNot' (tO (oE (eN fAll (aC (oE (eLc [2] (cV 1) (gN 2) tT (eCall (fun ds => m_is_integer (ds ++ [])) (aC (oV 2) (aC (oE (eC (.int 0))) (aC (oE (e2 dSub (oE (eN fLen (aC (oV 0) aN))) (oE (eC (.int 1))))) aN)))))) aN))))))
    (sRet (eC (.bool false)))
    sNx)
    (sSeq (sIf (tNot' (tO (oE (eN fAll (aC (oE (eLc [3, 4] (cI (iZ2 (lC (eSh (eV 1)) (lC (eSh (eSl (oV 1) (pEx (eC (.int 1))) pNo)) lN)))) (gT (gsC (gN 3) (gsC (gN 4) gsN)) 2) tT (e2 dLt (oV 3) (oV 4)))) aN)))))
    (sRet (eC (.bool false)))
    sNx)
    (sRet (e2 dLe (oE (eCall m_fewest_pairings (aC (oV 0) (aC (oV 1) aN)))) (oE (eC (.int 1)))))))
def m_is_plan_for : List D → Option Res := mFn 6 3
    (sSeq (sIf (tOr' (tNot' (tO (oE (e1 (dIsi "list") (oV 2))))) (tB (e2 dNe (oE (eN fLen (aC (oV 2) aN))) (oE (eN fLen (aC (oV 0) aN))))))
    (sRet (eC (.bool false)))
    sNx)
    (sRet (eN fAll (aC (oE (eLc [3, 4, 5] (cI (iZ3 (lC (eSh (eV 2)) (lC (eSh (eV 0)) (lC (eSh (eV 1)) lN))))) (gT (gsC (gN 3) (gsC (gN 4) (gsC (gN 5) gsN))) 3) tT (eCall (fun ds => m_is_integer (ds ++ [])) (aC (oV 3) (aC (oE (e2 dIxA (oV 4) (oE (eC (.int 0))))) (aC (oV 5) aN)))))) aN))))
def m_is_plan : List D → Option Res := mFn 4 4
    (sSeq (sDrop (eCall m_need_row (aC (oV 0) (aC (oV 1) (aC (oV 2) aN)))))
    (sRet (eCall m_is_plan_for (aC (oV 1) (aC (oV 2) (aC (oV 3) aN))))))
def m_is_pressed : List D → Option Res := mFn 3 3
    (sSeq (sDrop (eCall m_need_row (aC (oV 0) (aC (oV 1) (aC (oV 2) aN)))))
    (sRet (e1 dIsN (oE (eCall m_first_unpressed (aC (oV 1) (aC (oV 2) aN)))))))
def m_is_row : List D → Option Res := mFn 3 3
    (sSeq (sDrop (eCall m_need_cells (aC (oV 0) (aC (oV 1) aN))))
    (sRet (e2 dEq (oE (eCall m_row_fault (aC (oV 1) (aC (oV 2) aN)))) (oE (eTup lN)))))
def m_is_served : List D → Option Res := mFn 4 2
    (sRet (eN fAll (aC (oE (eLc [2, 3] (cI (iZ2 (lC (eSh (eV 0)) (lC (eSh (eV 1)) lN)))) (gT (gsC (gN 2) (gsC (gN 3) gsN)) 2) tT (e2 dLe (oV 2) (oV 3)))) aN)))
def b0_need_rhythm : SM :=
    (sIf (tNot' (tO (oE (eCall (fun ds => m_is_integer (ds ++ [])) (aC (oV 2) (aC (oE (eC (.int 0))) (aC (oE (eC (.int 9))) aN)))))))
    sBad
    sNx)
def m_need_rhythm : List D → Option Res := mFn 3 1
    (sSeq (sIf (tOr' (tNot' (tO (oE (e1 (dIsi "list") (oV 0))))) (tNot' (tB (eCh dLe dLe (oE (eC (.int 1))) (oE (eN fLen (aC (oV 0) aN))) (oE (eC (.int 40)))))))
    sBad
    sNx)
    (sFor (iEn (lC (eSh (eV 0)) lN)) (gT (gsC (gN 1) (gsC (gN 2) gsN)) 2)
    b0_need_rhythm))
def m_keeps_rhythm : List D → Option Res := mFn 4 4
    (sSeq (sDrop (eCall m_need_crossings (aC (oV 0) (aC (oV 1) (aC (oV 2) aN)))))
    (sSeq (sDrop (eCall m_need_rhythm (aC (oV 3) aN)))
    (sRet (eCall m_fits_rhythm (aC (oV 1) (aC (oV 2) (aC (oV 3) (aC (oE (eTup (lC (eSh (eC (.int 1))) (lC (eSh (eC (.int 2))) lN)))) aN))))))))
def m_speeds_with : List D → Option Res := mFn 3 2
    (sRet (eN fTuple (aC (oE (eLc [2] (cI (iE (eTup (lC (eSh (eC (.int 1))) (lC (eSh (eC (.int 2))) lN))))) (gN 2) tT (e1 (opMaxV (.int 0)) (oE (eCall m_loads_of (aC (oV 0) (aC (oV 1) (aC (oV 2) aN)))))))) aN)))
def m_keeps_speeds : List D → Option Res := mFn 6 4
    (sSeq (sDrop (eCall m_need_crossings (aC (oV 0) (aC (oV 1) (aC (oV 2) aN)))))
    (sSeq (sDrop (eCall m_need_speeds (aC (oV 3) aN)))
    (sSeq (sUnp (eSh (eCall m_speeds_with (aC (oV 1) (aC (oV 2) aN)))) (gT (gsC (gN 4) (gsC (gN 5) gsN)) 2))
    (sRet (eAnd (e2 dLe (oV 4) (oE (e2 dIxA (oV 3) (oE (eC (.int 0)))))) (e2 dLe (oV 5) (oE (e2 dIxA (oV 3) (oE (eC (.int 1)))))))))))
def b0_last_come : SM :=
    (sSeq (sSet 6 (e2 dIxA (oE (eLc [7] (cV 4) (gN 7) (tB (e2 dLe (oE (e2 dIxA (oE (e2 dIxA (oV 1) (oV 7))) (oE (eC (.int 0))))) (oV 5))) (eV 7))) (oE (e1 dNeg (oE (eC (.int 1)))))))
    (sSeq (altS (sStL 2 (eV 6) (eV 5)) (sStD 2 (eSh (eV 6)) (eV 5)))
    (sDrop (eRem 4 (eV 6)))))
def b1_last_come : SM :=
    (sSeq (sSet 4 (eCall m_cells_to (aC (oV 1) (aC (oV 3) aN))))
    (sFor (iE (eCall m_sending_slots (aC (oV 1) (aC (oV 3) aN)))) (gN 5)
    b0_last_come))
def m_last_come : List D → Option Res := mFn 8 2
    (sSeq (sDrop (eCall m_need_cells (aC (oV 0) (aC (oV 1) aN))))
    (sSeq (sSet 2 (eRep (eLst (lC (eSh (eC (.int 0))) lN)) (oE (eN fLen (aC (oV 1) aN)))))
    (sSeq (sFor (iE (eCall m_outlets_of (aC (oV 1) aN))) (gN 3)
    b1_last_come)
    (sRet (eMv 2)))))
def m_late_cells : List D → Option Res := mFn 6 4
    (sSeq (sDrop (eCall m_need_row (aC (oV 0) (aC (oV 1) (aC (oV 2) aN)))))
    (sSeq (sDrop (eCall m_check_crossings (aC (oV 1) (aC (oV 3) aN))))
    (sRet (eLc [4, 5] (cI (iEn (lC (eSh (eV 3)) lN))) (gT (gsC (gN 4) (gsC (gN 5) gsN)) 2) (tB (e2 dGt (oV 5) (oE (e2 dIxA (oV 2) (oV 4))))) (eV 4)))))
def b0_least_pairs : SM :=
    (sAug 7 dAddI (oE (eC (.int 1))))
def b1_least_pairs : SM :=
    (sSeq (sSet 7 (eC (.int 1)))
    (sSeq (sWhile 100000 (tAnd' (tB (e2 dLt (oV 7) (oV 5))) (tB (e2 dEq (oE (eCall m_count_with (aC (oV 1) (aC (oV 3) (aC (oE (eTup (lC (eSh (eV 6)) (lC (eSh (eV 7)) lN)))) aN))))) (oE (eC (.int 0))))))
    b0_least_pairs)
    (sIf (tB (e2 dLt (oV 7) (oV 5)))
    (sSeq (sDrop (eApp 4 (eTup (lC (eSh (eV 6)) (lC (eSh (eV 7)) lN)))))
    (sSet 5 (eMv 7)))
    sNx)))
def m_least_pairs : List D → Option Res := mFn 8 3
    (sSeq (sDrop (eCall m_need_row (aC (oV 0) (aC (oV 1) (aC (oV 2) aN)))))
    (sSeq (sDrop (eCall m_check_few (aC (oV 1) (aC (oV 2) aN))))
    (sSeq (sPar [3, 4, 5] (wC (eCall m_spans_of (aC (oV 1) (aC (oV 2) aN))) (wC (eLst lN) (wC (e2 dAdd (oV 0) (oE (eC (.int 1)))) wN))))
    (sSeq (sFor (jR2 (lC (eSh (eC (.int 1))) (lC (eSh (e2 dAdd (oV 0) (oE (eC (.int 1))))) lN))) (gN 6)
    b1_least_pairs)
    (sRet (eMv 4))))))
def m_least_speeds : List D → Option Res := mFn 1 1
    (sSeq (sDrop (eCall m_need_size (aC (oV 0) aN)))
    (sSeq (sIf (tB (e2 dLt (oV 0) (oE (eC (.int 3)))))
    (sRet (eIf (tB (e2 dEq (oV 0) (oE (eC (.int 1))))) (eLst (lC (eSh (eTup (lC (eSh (eC (.int 1))) (lC (eSh (eC (.int 1))) lN)))) lN)) (eLst (lC (eSh (eTup (lC (eSh (eC (.int 1))) (lC (eSh (eC (.int 2))) lN)))) (lC (eSh (eTup (lC (eSh (eC (.int 2))) (lC (eSh (eC (.int 1))) lN)))) lN)))))
    sNx)
    (sRet (eLst (lC (eSh (eTup (lC (eSh (eC (.int 1))) (lC (eSh (eV 0)) lN)))) (lC (eSh (eTup (lC (eSh (eC (.int 2))) (lC (eSh (eC (.int 2))) lN)))) (lC (eSh (eTup (lC (eSh (eV 0)) (lC (eSh (eC (.int 1))) lN)))) lN)))))))
def m_leaving_of : List D → Option Res := mFn 4 4
    (sSeq (sDrop (eCall m_need_frame (aC (oV 0) (aC (oV 1) aN))))
    (sSeq (sDrop (eCall (fun ds => m_need_number (ds ++ [])) (aC (oV 2) (aC (oE (eC (.int 0))) (aC (oE (eC (.int 1000000000000000000000000000000))) aN)))))
    (sSeq (sDrop (eCall (fun ds => m_need_number (ds ++ [])) (aC (oV 3) (aC (oE (eC (.int 0))) (aC (oE (e2 dSub (oE (eN fLen (aC (oE (e2 dIxA (oV 1) (oE (eC (.int 1))))) aN))) (oE (eC (.int 1))))) aN)))))
    (sRet (eCall m_slot_in (aC (oE (e2 dIxA (oE (eCall m_times_of (aC (oV 1) aN))) (oV 3))) (aC (oV 2) aN)))))))
def m_left_over : List D → Option Res := mFn 6 4
    (sSeq (sDrop (eCall m_need_frame (aC (oV 0) (aC (oV 1) aN))))
    (sSeq (sDrop (eCall m_need_port (aC (oV 0) (aC (oV 2) aN))))
    (sSeq (sDrop (eCall (fun ds => m_need_number (ds ++ [])) (aC (oV 3) (aC (oE (eC (.int 0))) (aC (oE (eC (.int 1000000000000000000000000000000))) aN)))))
    (sSeq (sIf (tB (e2 dEq (oV 3) (oE (eC (.int 0)))))
    (sRet (eC (.int 0)))
    sNx)
    (sSeq (sSet 4 (eN fLen (aC (oE (eLc [5] (cI (iE (e2 dIxA (oE (eCall m_two_rounds (aC (oV 1) (aC (oV 2) aN)))) (oE (eC (.int 0)))))) (gN 5) (tB (e2 dGe (oV 5) (oE (e2 dIxA (oV 1) (oE (eC (.int 0))))))) (eV 5))) aN)))
    (sRet (e2 dAdd (oV 4) (oE (e2 dMul (oE (e2 dSub (oV 3) (oE (eC (.int 1))))) (oE (e2 dSub (oE (eCall m_step_of (aC (oV 1) (aC (oV 2) aN)))) (oE (e2 dIxA (oV 1) (oE (eC (.int 0))))))))))))))))
def b0_narrow_slot : SM :=
    (sIf (tB (e2 dLe (oE (e2 dAdd (oV 4) (oE (e2 dIxA (oV 1) (oE (e2 dMod (oE (e2 dAdd (oV 3) (oE (eC (.int 1))))) (oE (eN fLen (aC (oV 1) aN))))))))) (oE (eC (.int 2)))))
    (sRet (eMv 3))
    sNx)
def m_narrow_slot : List D → Option Res := mFn 5 3
    (sSeq (sIf (tOr' (tB (e2 dLt (oV 0) (oE (eC (.int 2))))) (tB (e2 dLt (oV 2) (oE (eC (.int 2))))))
    (sRet (eC .none))
    sNx)
    (sSeq (sFor (iEn (lC (eSh (eV 1)) lN)) (gT (gsC (gN 3) (gsC (gN 4) gsN)) 2)
    b0_narrow_slot)
    (sRet (eC .none))))
def m_need_busy : List D → Option Res := mFn 3 3
    (sSeq (sDrop (eCall m_need_row (aC (oV 0) (aC (oV 1) (aC (oV 2) aN)))))
    (sIf (tNot' (tO (oE (eCall m_is_busy_row (aC (oV 1) (aC (oV 2) aN))))))
    sBad
    sNx))
def m_need_slot : List D → Option Res := mFn 1 1
    (sIf (tNot' (tO (oE (eCall (fun ds => m_is_integer (ds ++ [])) (aC (oV 0) (aC (oE (eC (.int 0))) (aC (oE (eC (.int 9999999999999999999999999999999))) aN)))))))
    sBad
    sNx)
def m_need_crossing_slot : List D → Option Res := mFn 4 4
    (sSeq (sDrop (eCall m_need_crossings (aC (oV 0) (aC (oV 1) (aC (oV 2) aN)))))
    (sDrop (eCall m_need_slot (aC (oV 3) aN))))
def m_need_last : List D → Option Res := mFn 5 4
    (sSeq (sDrop (eCall m_need_row (aC (oV 0) (aC (oV 1) (aC (oV 2) aN)))))
    (sSeq (sDrop (eCall m_need_slot (aC (oV 3) aN)))
    (sIf (tNot' (tO (oE (eN fAll (aC (oE (eLc [4] (cV 2) (gN 4) tT (eCh dLe dLe (oE (e2 dSub (oV 3) (oE (eC (.int 999999999999999999999999999999))))) (oV 4) (oV 3)))) aN)))))
    sBad
    sNx)))
def m_need_long : List D → Option Res := mFn 3 3
    (sSeq (sDrop (eCall m_need_size (aC (oV 0) aN)))
    (sSeq (sDrop (eCall m_need_rhythm (aC (oV 1) aN)))
    (sDrop (eCall (fun ds => m_need_number (ds ++ [])) (aC (oV 2) (aC (oE (eC (.int 1))) (aC (oE (eC (.int 1000000000000000000000000000000))) aN)))))))
def m_need_pressed : List D → Option Res := mFn 3 3
    (sSeq (sDrop (eCall m_need_row (aC (oV 0) (aC (oV 1) (aC (oV 2) aN)))))
    (sIf (tB (e1 dNotN (oE (eCall m_first_unpressed (aC (oV 1) (aC (oV 2) aN))))))
    sBad
    sNx))
def b0_nth_plan : SM :=
    (sSeq (altS (sStL 5 (eV 6) (eTup (lC (eSh (eV 9)) (lC (eSh (eV 9)) lN)))) (sStD 5 (eSh (eV 6)) (eTup (lC (eSh (eV 9)) (lC (eSh (eV 9)) lN)))))
    (sSeq (sSet 10 (eCall m_count_with (aC (oV 1) (aC (oV 5) (aC (oV 3) aN)))))
    (sSeq (sIf (tB (e2 dLt (oV 4) (oV 10)))
    sBrk
    sNx)
    (sAug 4 dSub (oV 10)))))
def b1_nth_plan : SM :=
    (sSeq (sUnp (eSh (e2 dIxA (oV 5) (oV 6))) (gT (gsC (gN 7) (gsC (gN 8) gsN)) 2))
    (sFor (jR2 (lC (eSh (eV 7)) (lC (eSh (e2 dAdd (oV 8) (oE (eC (.int 1))))) lN))) (gN 9)
    b0_nth_plan))
def m_nth_plan : List D → Option Res := mFn 11 5
    (sSeq (sDrop (eCall m_need_row (aC (oV 0) (aC (oV 1) (aC (oV 2) aN)))))
    (sSeq (sDrop (eCall m_need_speeds (aC (oV 3) aN)))
    (sSeq (sDrop (eCall (fun ds => m_need_number (ds ++ [(.int 0), .none])) (aC (oV 4) aN)))
    (sSeq (sDrop (eCall m_check_few (aC (oV 1) (aC (oV 2) aN))))
    (sSeq (sSet 5 (eCall m_spans_of (aC (oV 1) (aC (oV 2) aN))))
    (sSeq (sDrop (eCall (fun ds => m_need_number (ds ++ [])) (aC (oV 4) (aC (oE (eC (.int 0))) (aC (oE (e2 dSub (oE (eCall m_count_with (aC (oV 1) (aC (oV 5) (aC (oV 3) aN))))) (oE (eC (.int 1))))) aN)))))
    (sSeq (sFor (jR1 (lC (eSh (eN fLen (aC (oV 1) aN))) lN)) (gN 6)
    b1_nth_plan)
    (sRet (eLc [7, 8] (cV 5) (gT (gsC (gN 7) (gsC (gN 8) gsN)) 2) tT (eV 7))))))))))
def b0_pairings_in : SM :=
    (sDrop (eApp 5 (e2 dAdd (oE (e2 dMul (oE (e2 dDiv (oV 6) (oV 4))) (oV 3))) (oE (eN fSum (aC (oE (eSl (oV 0) pNo (pEx (e2 dMod (oV 6) (oV 4))))) aN))))))
def m_pairings_in : List D → Option Res := mFn 7 3
    (sSeq (sPar [3, 4] (wC (eN fSum (aC (oV 0) aN)) (wC (eN fLen (aC (oV 0) aN)) wN)))
    (sSeq (sSet 5 (eLst lN))
    (sSeq (sFor (iE (eTup (lC (eSh (eV 1)) (lC (eSh (e2 dAdd (oV 2) (oE (eC (.int 1))))) lN)))) (gN 6)
    b0_pairings_in)
    (sRet (e2 dSub (oE (e2 dIxA (oV 5) (oE (eC (.int 1))))) (oE (e2 dIxA (oV 5) (oE (eC (.int 0))))))))))
def m_plan_by_coming : List D → Option Res := mFn 5 4
    (sSeq (sDrop (eCall m_need_row (aC (oV 0) (aC (oV 1) (aC (oV 2) aN)))))
    (sSeq (sDrop (eCall (fun ds => m_need_number (ds ++ [.none])) (aC (oV 3) (aC (oE (eC (.int 1))) aN))))
    (sSeq (sDrop (eCall m_need_pressed (aC (oV 0) (aC (oV 1) (aC (oV 2) aN)))))
    (sSeq (sSet 4 (eCall m_own_slots (aC (oV 1) aN)))
    (sRet (eIf (tB (e2 dLe (oE (eCall m_most_at_once (aC (oV 1) (aC (oV 4) (aC (oE (eC (.int 2))) aN))))) (oV 3))) (eMv 4) (eC .none)))))))
def m_plan_by_leaving : List D → Option Res := mFn 4 4
    (sSeq (sDrop (eCall m_need_row (aC (oV 0) (aC (oV 1) (aC (oV 2) aN)))))
    (sSeq (sDrop (eCall (fun ds => m_need_number (ds ++ [.none])) (aC (oV 3) (aC (oE (eC (.int 1))) aN))))
    (sSeq (sDrop (eCall m_need_busy (aC (oV 0) (aC (oV 1) (aC (oV 2) aN)))))
    (sRet (eIf (tB (e2 dLe (oE (eCall m_most_at_once (aC (oV 1) (aC (oV 2) (aC (oE (eC (.int 1))) aN))))) (oV 3))) (eN fList (aC (oV 2) aN)) (eC .none))))))
def m_plan_count : List D → Option Res := mFn 4 4
    (sSeq (sDrop (eCall m_need_few (aC (oV 0) (aC (oV 1) (aC (oV 2) (aC (oV 3) aN))))))
    (sRet (eCall m_count_with (aC (oV 1) (aC (oE (eCall m_spans_of (aC (oV 1) (aC (oV 2) aN)))) (aC (oV 3) aN))))))
def b0_resting : SM :=
    (sIf (tAnd' (tB (e2 dNinA (oV 7) (oV 6))) (tO (oE (eN fAny (aC (oE (eLc [8] (cV 5) (gN 8) tT (eCh dLe dLe (oE (e2 dIxA (oE (e2 dIxA (oV 1) (oV 8))) (oE (eC (.int 0))))) (oV 7) (oE (e2 dIxA (oV 2) (oV 8)))))) aN)))))
    (sDrop (eApp 3 (eTup (lC (eSh (eV 7)) (lC (eSh (eV 4)) lN)))))
    sNx)
def b1_resting : SM :=
    (sSeq (sSet 5 (eCall m_cells_to (aC (oV 1) (aC (oV 4) aN))))
    (sSeq (sSet 6 (eLc [8] (cV 5) (gN 8) tT (e2 dIxA (oV 2) (oV 8))))
    (sFor (iE (e2 dAdd (oE (eLc [8] (cV 5) (gN 8) tT (e2 dIxA (oE (e2 dIxA (oV 1) (oV 8))) (oE (eC (.int 0)))))) (oE (eLc [9] (cV 6) (gN 9) tT (e2 dAdd (oV 9) (oE (eC (.int 1)))))))) (gN 7)
    b0_resting)))
def m_resting : List D → Option Res := mFn 10 3
    (sSeq (sDrop (eCall m_need_row (aC (oV 0) (aC (oV 1) (aC (oV 2) aN)))))
    (sSeq (sSet 3 (eLst lN))
    (sSeq (sFor (iE (eCall m_outlets_of (aC (oV 1) aN))) (gN 4)
    b1_resting)
    (sRet (eIf (tB (e2 dNe (oV 3) (oE (eLst lN)))) (eN fMinL (aC (oV 3) aN)) (eC .none))))))
def m_rhythm_word : List D → Option Res := mFn 3 3
    (sSeq (sDrop (eCall m_need_long (aC (oV 0) (aC (oV 1) (aC (oV 2) aN)))))
    (sSeq (sIf (tOr' (tB (e2 dInA (oE (eC (.int 0))) (oV 1))) (tB (e1 dNotN (oE (eCall m_narrow_slot (aC (oV 0) (aC (oV 1) (aC (oV 2) aN))))))))
    (sRet (eC (.str (PySem.Str.ofString "fails"))))
    sNx)
    (sRet (eIf (tOr' (tB (e2 dEq (oV 0) (oE (eC (.int 1))))) (tO (oE (eCall m_has_windows (aC (oV 1) (aC (oV 2) aN)))))) (eC (.str (PySem.Str.ofString "sure"))) (eC (.str (PySem.Str.ofString "open")))))))
def b0_sender_at : SM :=
    (sSeq (sSet 6 (eCall m_round_at (aC (oE (e2 dIxA (oV 4) (oV 5))) (aC (oV 3) aN))))
    (sIf (tB (e1 dNotN (oV 6)))
    (sRet (eTup (lC (eSh (eV 6)) (lC (eSh (eV 5)) lN))))
    sNx))
def m_sender_at : List D → Option Res := mFn 7 4
    (sSeq (sDrop (eCall m_need_frame (aC (oV 0) (aC (oV 1) aN))))
    (sSeq (sDrop (eCall m_need_port (aC (oV 0) (aC (oV 2) aN))))
    (sSeq (sDrop (eCall m_need_slot (aC (oV 3) aN)))
    (sSeq (sSet 4 (eCall m_times_of (aC (oV 1) aN)))
    (sSeq (sFor (iE (eCall m_cells_to (aC (oE (e2 dIxA (oV 1) (oE (eC (.int 1))))) (aC (oV 2) aN)))) (gN 5)
    b0_sender_at)
    (sRet (eC .none)))))))
def m_served_count : List D → Option Res := mFn 3 3
    (sSeq (sDrop (eCall m_need_crossings (aC (oV 0) (aC (oV 1) (aC (oV 2) aN)))))
    (sRet (eCall m_product_of (aC (oE (eCall m_choices_of (aC (oV 1) (aC (oV 2) aN)))) aN))))
def m_serves : List D → Option Res := mFn 4 4
    (sSeq (sDrop (eCall m_need_crossings (aC (oV 0) (aC (oV 1) (aC (oV 2) aN)))))
    (sSeq (sDrop (eCall m_need_row (aC (oV 0) (aC (oV 1) (aC (oV 3) aN)))))
    (sRet (eCall m_is_served (aC (oV 2) (aC (oV 3) aN))))))
def m_serves_some : List D → Option Res := mFn 3 3
    (sSeq (sDrop (eCall m_need_crossings (aC (oV 0) (aC (oV 1) (aC (oV 2) aN)))))
    (sRet (e1 dIsN (oE (eCall m_first_starved (aC (oV 1) (aC (oV 2) aN)))))))
def m_shows_pairings : List D → Option Res := mFn 8 5
    (sSeq (sDrop (eCall m_need_crossing_slot (aC (oV 0) (aC (oV 1) (aC (oV 2) (aC (oV 3) aN))))))
    (sSeq (sSet 5 (eCall m_crossing_at (aC (oV 2) (aC (oV 3) aN))))
    (sSeq (sIf (tOr' (tNot' (tO (oE (e1 (dIsi "list") (oV 4))))) (tB (e2 dNe (oE (eN fLen (aC (oV 4) aN))) (oE (eCall m_fewest_pairings (aC (oV 1) (aC (oV 5) aN)))))))
    (sRet (eC (.bool false)))
    sNx)
    (sSeq (sIf (tNot' (tO (oE (eN fAll (aC (oE (eLc [6] (cV 4) (gN 6) tT (eCall m_is_pairing (aC (oV 1) (aC (oV 6) aN))))) aN)))))
    (sRet (eC (.bool false)))
    sNx)
    (sRet (e2 dEq (oE (eN fSorted (aC (oE (eLc2 [6, 7] [7] (cV 4) (gN 6) tT (jF (eV 6)) (gN 7) tT (eV 7))) aN))) (oV 5)))))))
def m_speeds_of : List D → Option Res := mFn 3 3
    (sSeq (sDrop (eCall m_need_crossings (aC (oV 0) (aC (oV 1) (aC (oV 2) aN)))))
    (sRet (eCall m_speeds_with (aC (oV 1) (aC (oV 2) aN)))))
def m_starved : List D → Option Res := mFn 3 3
    (sSeq (sDrop (eCall m_need_crossings (aC (oV 0) (aC (oV 1) (aC (oV 2) aN)))))
    (sRet (eCall m_first_starved (aC (oV 1) (aC (oV 2) aN)))))
def m_stays : List D → Option Res := mFn 5 3
    (sSeq (sDrop (eCall m_need_row (aC (oV 0) (aC (oV 1) (aC (oV 2) aN)))))
    (sRet (eLc [3, 4] (cI (iZ2 (lC (eSh (eV 1)) (lC (eSh (eV 2)) lN)))) (gT (gsC (gN 3) (gsC (gN 4) gsN)) 2) tT (e2 dAdd (oE (e2 dSub (oV 4) (oE (e2 dIxA (oV 3) (oE (eC (.int 0))))))) (oE (eC (.int 1)))))))
def m_unpressed : List D → Option Res := mFn 3 3
    (sSeq (sDrop (eCall m_need_row (aC (oV 0) (aC (oV 1) (aC (oV 2) aN)))))
    (sRet (eCall m_first_unpressed (aC (oV 1) (aC (oV 2) aN)))))
def m_unrolled : List D → Option Res := mFn 9 3
    (sSeq (sDrop (eCall m_need_frame (aC (oV 0) (aC (oV 1) aN))))
    (sSeq (sDrop (eCall (fun ds => m_need_number (ds ++ [(.int 0), .none])) (aC (oV 2) aN)))
    (sSeq (sUnp (eSh (eV 1)) (gT (gsC (gN 3) (gsC (gN 4) gsN)) 2))
    (sSeq (sIf (tB (e2 dGt (oE (e2 dMul (oV 2) (oE (eN fLen (aC (oV 4) aN))))) (oE (eC (.int 60)))))
    sBad
    sNx)
    (sSeq (sIf (tB (e2 dEq (oV 4) (oE (eLst lN))))
    (sRet (eLst lN))
    sNx)
    (sRet (eLc2 [5, 6, 7, 8] [6, 7, 8] (cI (jR1 (lC (eSh (eV 2)) lN))) (gN 5) tT (jF (eV 4)) (gT (gsC (gN 6) (gsC (gN 7) (gsC (gN 8) gsN))) 3) tT (eTup (lC (eSh (e2 dAdd (oV 6) (oE (e2 dMul (oV 5) (oV 3))))) (lC (eSh (eV 7)) (lC (eSh (eV 8)) lN)))))))))))
def b0_unsure : SM :=
    (sIf (tB (e2 dLt (oE (eCall m_pairings_in (aC (oV 3) (aC (oE (e2 dIxA (oV 6) (oE (eC (.int 0))))) (aC (oE (e2 dIxA (oV 2) (oV 5))) aN))))) (oE (e2 dAdd (oE (e2 dMul (oE (eC (.int 2))) (oE (e2 dSub (oE (e2 dIxA (oV 2) (oV 5))) (oE (e2 dIxA (oV 6) (oE (eC (.int 0))))))))) (oE (eC (.int 1)))))))
    (sDrop (eApp 4 (eV 5)))
    sNx)
def m_unsure : List D → Option Res := mFn 7 4
    (sSeq (sDrop (eCall m_need_row (aC (oV 0) (aC (oV 1) (aC (oV 2) aN)))))
    (sSeq (sDrop (eCall m_need_rhythm (aC (oV 3) aN)))
    (sSeq (sSet 4 (eLst lN))
    (sSeq (sFor (iEn (lC (eSh (eV 1)) lN)) (gT (gsC (gN 5) (gsC (gN 6) gsN)) 2)
    b0_unsure)
    (sRet (eMv 4))))))
def m_waiting_count : List D → Option Res := mFn 7 4
    (sSeq (sDrop (eCall m_need_cells (aC (oV 0) (aC (oV 1) aN))))
    (sSeq (sDrop (eCall m_need_port (aC (oV 0) (aC (oV 2) aN))))
    (sSeq (sDrop (eCall m_need_slot (aC (oV 3) aN)))
    (sSeq (sSet 4 (eN fLen (aC (oE (eLc [5] (cI (iE (eCall m_cells_to (aC (oV 1) (aC (oV 2) aN))))) (gN 5) (tB (e2 dLe (oE (e2 dIxA (oE (e2 dIxA (oV 1) (oV 5))) (oE (eC (.int 0))))) (oV 3))) (eV 5))) aN)))
    (sRet (e2 dSub (oV 4) (oE (eN fLen (aC (oE (eLc [6] (cI (iE (eCall m_sending_slots (aC (oV 1) (aC (oV 2) aN))))) (gN 6) (tB (e2 dLt (oV 6) (oV 3))) (eV 6))) aN)))))))))
def m_within : List D → Option Res := mFn 6 5
    (sRet (eN fLen (aC (oE (eLc [5] (cV 2) (gN 5) (tAnd' (tB (e2 dLe (oV 3) (oE (e2 dIxA (oE (e2 dIxA (oV 0) (oV 5))) (oE (eC (.int 0))))))) (tB (e2 dLe (oE (e2 dIxA (oV 1) (oV 5))) (oV 4)))) (eV 5))) aN)))
end Gn
namespace Gn
open PySem PySem.Spec PyProof.Rows L2 Dd
def b0_index_with : SM :=
    (sSeq (sSet 7 (eLc [9] (cV 5) (gN 9) (tB (e2 dLe (oE (e2 dIxA (oV 1) (oV 9))) (oV 6))) (eV 9)))
    (sSeq (sSet 8 (e2 dIxA (oE (eLc [9] (cV 7) (gN 9) (tB (e2 dEq (oE (e2 dIxA (oV 2) (oV 9))) (oV 6))) (eV 9))) (oE (eC (.int 0)))))
    (sSeq (sSet 3 (e2 dAdd (oE (e2 dMul (oV 3) (oE (eN fLen (aC (oV 7) aN))))) (oE (eMth isLst dIdx (oV 7) (oV 8)))))
    (sDrop (eRem 5 (eV 8))))))
def b1_index_with : SM :=
    (sSeq (sSet 5 (eCall m_cells_to (aC (oV 0) (aC (oV 4) aN))))
    (sFor (iE (eCall m_sending_slots (aC (oV 0) (aC (oV 4) aN)))) (gN 6)
    b0_index_with))
def m_index_with : List D → Option Res := mFn 10 3
    (sSeq (sSet 3 (eC (.int 0)))
    (sSeq (sFor (iE (eCall m_outlets_of (aC (oV 0) aN))) (gN 4)
    b1_index_with)
    (sRet (eMv 3))))
def m_busy_index : List D → Option Res := mFn 3 3
    (sSeq (sDrop (eCall m_need_busy (aC (oV 0) (aC (oV 1) (aC (oV 2) aN)))))
    (sRet (eCall m_index_with (aC (oV 1) (aC (oE (eCall m_own_slots (aC (oV 1) aN))) (aC (oV 2) aN))))))
def b0_row_with : SM :=
    (sSeq (sUnp (eSh (eN fDivmod (aC (oV 2) (aC (oV 4) aN)))) (gT (gsC (gN 2) (gsC (gN 5) gsN)) 2))
    (sDrop (eApp 3 (eV 5))))
def b1_row_with : SM :=
    (sSeq (sSet 10 (eLc [12] (cV 8) (gN 12) (tB (e2 dLe (oE (e2 dIxA (oV 1) (oV 12))) (oV 9))) (eV 12)))
    (sSeq (sSet 11 (e2 dIxA (oV 10) (oE (ePop 3))))
    (sSeq (altS (sStL 6 (eV 11) (eV 9)) (sStD 6 (eSh (eV 11)) (eV 9)))
    (sDrop (eRem 8 (eV 11))))))
def b2_row_with : SM :=
    (sSeq (sSet 8 (eCall m_cells_to (aC (oV 0) (aC (oV 7) aN))))
    (sFor (iE (eCall m_sending_slots (aC (oV 0) (aC (oV 7) aN)))) (gN 9)
    b1_row_with))
def m_row_with : List D → Option Res := mFn 13 3
    (sSeq (sSet 3 (eLst lN))
    (sSeq (sFor (iE (e1 opRev (oE (eCall m_choices_of (aC (oV 0) (aC (oV 1) aN)))))) (gN 4)
    b0_row_with)
    (sSeq (sSet 6 (eRep (eLst (lC (eSh (eC (.int 0))) lN)) (oE (eN fLen (aC (oV 0) aN)))))
    (sSeq (sFor (iE (eCall m_outlets_of (aC (oV 0) aN))) (gN 7)
    b2_row_with)
    (sRet (eMv 6))))))
def m_nth_busy : List D → Option Res := mFn 4 3
    (sSeq (sDrop (eCall m_need_cells (aC (oV 0) (aC (oV 1) aN))))
    (sSeq (sSet 3 (eCall m_own_slots (aC (oV 1) aN)))
    (sSeq (sDrop (eCall (fun ds => m_need_number (ds ++ [])) (aC (oV 2) (aC (oE (eC (.int 0))) (aC (oE (e2 dSub (oE (eCall m_product_of (aC (oE (eCall m_choices_of (aC (oV 1) (aC (oV 3) aN)))) aN))) (oE (eC (.int 1))))) aN)))))
    (sRet (eCall m_row_with (aC (oV 1) (aC (oV 3) (aC (oV 2) aN))))))))
def m_nth_served : List D → Option Res := mFn 4 4
    (sSeq (sDrop (eCall m_need_crossings (aC (oV 0) (aC (oV 1) (aC (oV 2) aN)))))
    (sSeq (sDrop (eCall (fun ds => m_need_number (ds ++ [])) (aC (oV 3) (aC (oE (eC (.int 0))) (aC (oE (e2 dSub (oE (eCall m_product_of (aC (oE (eCall m_choices_of (aC (oV 1) (aC (oV 2) aN)))) aN))) (oE (eC (.int 1))))) aN)))))
    (sRet (eCall m_row_with (aC (oV 1) (aC (oV 2) (aC (oV 3) aN)))))))
def m_served_index : List D → Option Res := mFn 4 4
    (sSeq (sDrop (eCall m_need_crossings (aC (oV 0) (aC (oV 1) (aC (oV 2) aN)))))
    (sSeq (sDrop (eCall m_need_busy (aC (oV 0) (aC (oV 1) (aC (oV 3) aN)))))
    (sSeq (sIf (tNot' (tO (oE (eCall m_is_served (aC (oV 2) (aC (oV 3) aN))))))
    sBad
    sNx)
    (sRet (eCall m_index_with (aC (oV 1) (aC (oV 2) (aC (oV 3) aN))))))))
end Gn
namespace Gn
open PySem PySem.Spec PyProof.Rows L2 Dd
def m__law_ages : List D → Option Res := mFn 4 2
    (sSeq (sIf (tB (e2 dEq (oV 1) (oE (eC (.str (PySem.Str.ofString "newest"))))))
    (sRet (e1 fLr1 (oE (eN fLen (aC (oV 0) aN)))))
    sNx)
    (sRet (eLc [2, 3] (cI (iEn (lC (eSh (eV 0)) lN))) (gT (gsC (gN 2) (gsC (gN 3) gsN)) 2) tT (eIf (tB (e2 dEq (oV 1) (oE (eC (.str (PySem.Str.ofString "oldest")))))) (e2 dSub (oE (eC (.int 0))) (oV 2)) (e2 dSub (oV 2) (oE (e2 dMul (oE (eC (.int 100))) (oV 3))))))))
def b0__law_all_moves : SM :=
    (sSet 5 (e2 dAdd (oV 5) (oE (eLc [7] (cI (jR2 (lC (eSh (e2 dIxA (oV 3) (oE (eC (.int 0))))) (lC (eSh (e2 dAdd (oV 4) (oE (eC (.int 1))))) lN)))) (gN 7) tT (e2 dAdd (oV 6) (oE (eLst (lC (eSh (eV 7)) lN))))))))
def b1__law_all_moves : SM :=
    (sSeq (sSet 5 (eLst lN))
    (sSeq (sFor (iE (eV 2)) (gN 6)
    b0__law_all_moves)
    (sSet 2 (eMv 5))))
def m__law_all_moves : List D → Option Res := mFn 8 2
    (sSeq (sSet 2 (eLst (lC (eSh (eLst lN)) lN)))
    (sSeq (sFor (iZ2 (lC (eSh (eV 0)) (lC (eSh (eV 1)) lN))) (gT (gsC (gN 3) (gsC (gN 4) gsN)) 2)
    b1__law_all_moves)
    (sRet (eMv 2))))
def m__law_draw : D → List D → Option (Res × D) := mFnI 4 2
    (sSeq (sIf (tB (e2 dGt (oE (e2 dIxA (oV 0) (oE (eC (.int 0))))) (oE (eC (.int 0)))))
    (sSeq (sSet 2 (e2 dMod (oE (eN fInt (aC (oE (e2 dIxA (oV 0) (oE (eC (.int 0))))) aN))) (oV 1)))
    (sSeq (altS (sStL 0 (eC (.int 0)) (e2 dDiv (oE (e2 dIxA (oV 0) (oE (eC (.int 0))))) (oV 1))) (sStD 0 (eSh (eC (.int 0))) (e2 dDiv (oE (e2 dIxA (oV 0) (oE (eC (.int 0))))) (oV 1))))
    (sRet (eMv 2))))
    sNx)
    (sSeq (altS (sStL 0 (eC (.int 2)) (e2 dAdd (oE (e2 dIxA (oV 0) (oE (eC (.int 2))))) (oE (eC (.int 1))))) (sStD 0 (eSh (eC (.int 2))) (e2 dAdd (oE (e2 dIxA (oV 0) (oE (eC (.int 2))))) (oE (eC (.int 1))))))
    (sSeq (sSet 3 (e2 dMod (oE (eN fInt (aC (oE (e2 dPow (oE (e2 dAdd (oE (e2 dIxA (oV 0) (oE (eC (.int 1))))) (oE (e2 dMul (oE (eC (.int 800011))) (oE (e2 dIxA (oV 0) (oE (eC (.int 2))))))))) (oE (eC (.int 3))))) aN))) (oE (e2 dAdd (oE (e2 dPow (oE (eC (.int 10))) (oE (eC (.int 38))))) (oE (eC (.int 133)))))))
    (sSeq (sSet 3 (e2 dMod (oE (eN fInt (aC (oE (e2 dPow (oE (e2 dAdd (oE (e2 dMul (oV 3) (oE (e2 dIxA (oV 0) (oE (eC (.int 2))))))) (oE (eC (.int 70051))))) (oE (eC (.int 3))))) aN))) (oE (e2 dAdd (oE (e2 dPow (oE (eC (.int 10))) (oE (eC (.int 40))))) (oE (eC (.int 121)))))))
    (sRet (e2 dMod (oE (eN fInt (aC (oE (e2 dDiv (oV 3) (oE (eC (.int 98317))))) aN))) (oV 1)))))))
def m__law_beat : D → List D → Option (Res × D) := mFnI 4 2
    (sSeq (sSet 2 (eLc [3] (cI (jR1 (lC (eSh (e2 dAdd (oE (eC (.int 1))) (oE (eCallI 0 m__law_draw (aC (oE (eC (.int 5))) aN))))) lN))) (gN 3) tT (eCallI 0 m__law_draw (aC (oE (e2 dAdd (oV 1) (oE (eC (.int 1))))) aN))))
    (sRet (eIf (tB (e2 dGt (oE (eN fSum (aC (oV 2) aN))) (oE (eC (.int 0))))) (eMv 2) (e2 dAdd (oE (eLst (lC (eSh (eC (.int 1))) lN))) (oV 2)))))
def m__law_later : List D → Option Res := mFn 6 3
    (sRet (eTup (lC (eSh (eLc [3, 4, 5] (cV 0) (gT (gsC (gN 3) (gsC (gN 4) (gsC (gN 5) gsN))) 3) tT (eTup (lC (eSh (e2 dAdd (oV 3) (oV 2))) (lC (eSh (eV 4)) (lC (eSh (eV 5)) lN)))))) (lC (eSh (eLc [3] (cV 1) (gN 3) tT (e2 dAdd (oV 3) (oV 2)))) lN))))
def b0__law_line : SM :=
    (sSeq (sSet 8 (eLc [7] (cV 4) (gN 7) (tAnd' (tB (e2 dEq (oE (e2 dIxA (oE (e2 dIxA (oV 1) (oV 7))) (oE (eC (.int 2))))) (oV 6))) (tB (e2 dLe (oE (e2 dIxA (oE (e2 dIxA (oV 1) (oV 7))) (oE (eC (.int 0))))) (oV 5)))) (eV 7)))
    (sIf (tAnd' (tB (e2 dNe (oV 8) (oE (eLst lN)))) (tOr' (tB (e2 dLt (oV 2) (oE (eC (.int 3))))) (tOr' (tB (e2 dGt (oV 5) (oE (eC (.int 40))))) (tB (e2 dGt (oE (eCallI 0 m__law_draw (aC (oE (eC (.int 4))) aN))) (oE (eC (.int 0))))))))
    (sSeq (sSet 7 (e2 dIxA (oV 8) (oE (e2 dIxA (oE (eLst (lC (eSh (eC (.int 0))) (lC (eSh (e2 dSub (oE (eN fLen (aC (oV 8) aN))) (oE (eC (.int 1))))) (lC (eSh (eCallI 0 m__law_draw (aC (oE (eN fLen (aC (oV 8) aN))) aN))) lN))))) (oE (eN fMin2 (aC (oV 2) (aC (oE (eC (.int 2))) aN))))))))
    (sSeq (altS (sStL 3 (eV 7) (eV 5)) (sStD 3 (eSh (eV 7)) (eV 5)))
    (sDrop (eRem 4 (eV 7)))))
    sNx))
def b1__law_line : SM :=
    (sSeq (sFor (jR1 (lC (eSh (eC (.int 8))) lN)) (gN 6)
    b0__law_line)
    (sSet 5 (e2 dAdd (oV 5) (oE (eC (.int 1))))))
def m__law_line : D → List D → Option (Res × D) := mFnI 9 3
    (sSeq (sPar [3, 4, 5] (wC (eRep (eLst (lC (eSh (eC (.int 0))) lN)) (oE (eN fLen (aC (oV 1) aN)))) (wC (e1 fLr1 (oE (eN fLen (aC (oV 1) aN)))) (wC (eC (.int 0)) wN))))
    (sSeq (sWhile 100000 (tB (e2 dNe (oV 4) (oE (eLst lN))))
    b1__law_line)
    (sRet (eMv 3))))
def b0__law_lot : SM :=
    (sIf (tOr' (tO (oV 7)) (tAnd' (tB (e2 dLt (oV 3) (oE (eC (.int 3))))) (tB (e2 dEq (oE (eCallI 0 m__law_draw (aC (oE (e2 dIxA (oE (eLst (lC (eSh (eC (.int 2))) (lC (eSh (eC (.int 2))) (lC (eSh (eC (.int 4))) lN))))) (oV 3))) aN))) (oE (eC (.int 0)))))))
    (sSeq (sSet 9 (eCallI 0 m__law_draw (aC (oV 1) aN)))
    (sDrop (eApp 5 (eTup (lC (eSh (eV 6)) (lC (eSh (eV 8)) (lC (eSh (eIf (tAnd' (tB (e2 dEq (oV 3) (oE (eC (.int 1))))) (tB (e2 dGt (oE (eCallI 0 m__law_draw (aC (oE (eC (.int 3))) aN))) (oE (eC (.int 0)))))) (eV 4) (eV 9))) lN)))))))
    sNx)
def b1__law_lot : SM :=
    (sSeq (sSet 7 (eAnd (e2 dEq (oV 3) (oE (eC (.int 3)))) (e2 dEq (oE (eCallI 0 m__law_draw (aC (oE (eC (.int 2))) aN))) (oE (eC (.int 0))))))
    (sFor (jR1 (lC (eSh (eV 1)) lN)) (gN 8)
    b0__law_lot))
def m__law_lot : D → List D → Option (Res × D) := mFnI 10 3
    (sSeq (sPar [3, 4, 5] (wC (eCallI 0 m__law_draw (aC (oE (eC (.int 4))) aN)) (wC (eCallI 0 m__law_draw (aC (oV 1) aN)) (wC (eLst lN) wN))))
    (sSeq (sFor (jR1 (lC (eSh (eV 2)) lN)) (gN 6)
    b1__law_lot)
    (sRet (eSl (oV 5) pNo (pEx (eC (.int 60)))))))
def m__law_on : List D → Option Res := mFn 5 2
    (sRet (eLc [2, 3, 4] (cV 0) (gT (gsC (gN 2) (gsC (gN 3) (gsC (gN 4) gsN))) 3) tT (eTup (lC (eSh (e2 dAdd (oV 2) (oV 1))) (lC (eSh (eV 3)) (lC (eSh (eV 4)) lN))))))
def m__law_plus : List D → Option Res := mFn 3 2
    (sRet (eLc [2] (cV 0) (gN 2) tT (e2 dAdd (oV 2) (oV 1))))
def m__law_round : D → List D → Option (Res × D) := mFnI 10 4
    (sSeq (sPar [4, 5, 6] (wC (eCallI 0 m__law_lot (aC (oV 1) (aC (oV 2) aN))) (wC (eCallI 0 m__law_draw (aC (oE (eC (.int 4))) aN)) (wC (eCallI 0 m__law_draw (aC (oV 1) aN)) wN))))
    (sSeq (sIf (tB (e2 dLt (oV 5) (oE (eC (.int 2)))))
    (sSeq (sSet 7 (eLc [8] (cV 4) (gN 8) tT (e2 dIxA (oE (eLst (lC (eSh (eV 6)) (lC (eSh (eCallI 0 m__law_draw (aC (oV 1) aN))) lN)))) (oE (eN fInt (aC (oE (e2 dLt (oE (eCallI 0 m__law_draw (aC (oE (eC (.int 4))) aN))) (oV 5))) aN))))))
    (sSet 4 (eLc [8, 9] (cI (iZ2 (lC (eSh (eV 4)) (lC (eSh (eV 7)) lN)))) (gT (gsC (gN 8) (gsC (gN 9) gsN)) 2) tT (eTup (lC (eSh (e2 dIxA (oV 8) (oE (eC (.int 0))))) (lC (eSh (e2 dIxA (oV 8) (oE (eC (.int 1))))) (lC (eSh (eV 9)) lN)))))))
    sNx)
    (sRet (eSl (oV 4) pNo (pEx (eV 3))))))
def m__law_some_pace : D → List D → Option (Res × D) := mFnI 1 1
    (sRet (eTup (lC (eSh (e2 dAdd (oE (eC (.int 1))) (oE (eCallI 0 m__law_draw (aC (oE (e2 dIxA (oE (eLst (lC (eSh (eC (.int 3))) (lC (eSh (eC (.int 60))) lN)))) (oE (eN fInt (aC (oE (e2 dEq (oE (eCallI 0 m__law_draw (aC (oE (eC (.int 5))) aN))) (oE (eC (.int 0))))) aN))))) aN))))) (lC (eSh (e2 dAdd (oE (eC (.int 1))) (oE (eCallI 0 m__law_draw (aC (oE (eC (.int 3))) aN))))) lN))))
def m__law_source : List D → Option Res := mFn 3 2
    (sSeq (sSet 2 (eN fAbs (aC (oV 0) aN)))
    (sRet (eLst (lC (eSh (eN fMax2 (aC (oE (eC (.int 0))) (aC (oE (e2 dSub (oV 2) (oE (e2 dPow (oE (eC (.int 10))) (oE (eC (.int 18))))))) aN)))) (lC (eSh (e2 dAdd (oE (e2 dAdd (oE (e2 dMul (oE (e2 dMod (oE (eN fInt (aC (oV 2) aN))) (oE (e2 dAdd (oE (e2 dPow (oE (eC (.int 10))) (oE (eC (.int 45))))) (oE (eC (.int 9))))))) (oE (eC (.int 83))))) (oE (e2 dMul (oE (eC (.int 2))) (oV 1))))) (oE (eN fInt (aC (oE (e2 dLt (oV 0) (oE (eC (.int 0))))) aN))))) (lC (eSh (eC (.int 0))) lN))))))
end Gn
set_option maxHeartbeats 0
namespace Gn
open PySem PySem.Spec PyProof.Rows L2 Dd
def b0__law_few : SM :=
    (sSeq (sSet 7 (eAnd (e2 dLt (oV 5) (oE (e2 dSub (oV 1) (oE (eC (.int 1)))))) (e2 dGt (oE (eCallI 0 m__law_draw (aC (oE (eC (.int 3))) aN))) (oE (eC (.int 0))))))
    (sSeq (sUnp (eSh (eIf (tO (oV 7)) (eTup (lC (eSh (eV 4)) (lC (eSh (e2 dAdd (oV 5) (oE (eC (.int 1))))) lN))) (eTup (lC (eSh (e2 dAdd (oE (e2 dAdd (oV 4) (oE (eC (.int 1))))) (oE (eCallI 0 m__law_draw (aC (oE (eC (.int 2))) aN))))) (lC (eSh (eC (.int 0))) lN))))) (gT (gsC (gN 4) (gsC (gN 5) gsN)) 2))
    (sDrop (eApp 3 (eTup (lC (eSh (eV 4)) (lC (eSh (eV 5)) (lC (eSh (e2 dIxA (oE (eLst (lC (eSh (eV 6)) (lC (eSh (eCallI 0 m__law_draw (aC (oV 1) aN))) lN)))) (oE (eCallI 0 m__law_draw (aC (oE (eC (.int 2))) aN))))) lN))))))))
def m__law_few : D → List D → Option (Res × D) := mFnI 8 3
    (sSeq (sPar [3, 4, 5] (wC (eLst lN) (wC (eC (.int 0)) (wC (e1 dNeg (oE (eC (.int 1)))) wN))))
    (sSeq (sSet 6 (eCallI 0 m__law_draw (aC (oV 1) aN)))
    (sSeq (sWhile 100000 (tB (e2 dLt (oE (eN fLen (aC (oV 3) aN))) (oV 2)))
    b0__law_few)
    (sRet (eMv 3)))))
def b0__law_right : SM :=
    (sSeq (sSet 4 (eTup (lC (eSh (eV 3)) (lC (eSh (eC (.int 1))) lN))))
    (sSeq (sSet 5 (e2 dLe (oE (eCall m_clash_number (aC (oV 0) (aC (oV 1) (aC (oV 2) aN))))) (oV 3)))
    (sSeq (sIf (tOr' (tB (e2 dNe (oE (eCall m_plan_count (aC (oV 0) (aC (oV 1) (aC (oV 2) (aC (oV 4) aN)))))) (oE (eN fInt (aC (oV 5) aN))))) (tB (e2 dNe (oE (eCall m_has_plan (aC (oV 0) (aC (oV 1) (aC (oV 2) (aC (oV 4) aN)))))) (oV 5))))
    (sRet (eC (.bool false)))
    sNx)
    (sSeq (sIf (tB (e2 dNe (oE (eCall m_plan_by_leaving (aC (oV 0) (aC (oV 1) (aC (oV 2) (aC (oV 3) aN)))))) (oE (eIf (tO (oV 5)) (eV 2) (eC .none)))))
    (sRet (eC (.bool false)))
    sNx)
    (sSeq (sIf (tAnd' (tO (oV 5)) (tB (e2 dNe (oE (eCall m_nth_plan (aC (oV 0) (aC (oV 1) (aC (oV 2) (aC (oV 4) (aC (oE (eC (.int 0))) aN))))))) (oV 2))))
    (sRet (eC (.bool false)))
    sNx)
    (sIf (tB (e2 dLt (oE (eCall m_plan_count (aC (oV 0) (aC (oV 1) (aC (oV 2) (aC (oE (eTup (lC (eSh (eV 3)) (lC (eSh (eC (.int 2))) lN)))) aN)))))) (oE (eN fInt (aC (oV 5) aN)))))
    (sRet (eC (.bool false)))
    sNx))))))
def m__law_right : List D → Option Res := mFn 6 3
    (sSeq (sFor (jR2 (lC (eSh (eC (.int 1))) (lC (eSh (eC (.int 4))) lN))) (gN 3)
    b0__law_right)
    (sRet (e2 dEq (oE (e2 dEq (oE (eCall m_clashes (aC (oV 0) (aC (oV 1) (aC (oV 2) aN))))) (oE (eLst lN)))) (oE (eCall m_has_plan (aC (oV 0) (aC (oV 1) (aC (oV 2) (aC (oE (eTup (lC (eSh (eC (.int 1))) (lC (eSh (eC (.int 1))) lN)))) aN)))))))))
def b0_law : SM :=
    (sIf (tNot' (tO (oE (eCall m__law_right (aC (oV 4) (aC (oV 5) (aC (oE (eCall m_nth_busy (aC (oV 4) (aC (oV 5) (aC (oE (eCallI 3 m__law_draw (aC (oE (eCall m_busy_count (aC (oV 4) (aC (oV 5) aN)))) aN))) aN))))) aN)))))))
    (sRet (eC (.bool false)))
    sNx)
def b1_law : SM :=
    (sSeq (sSet 3 (eCall m__law_source (aC (oV 2) (aC (oV 1) aN))))
    (sSeq (sSet 4 (e2 dAdd (oE (eC (.int 1))) (oE (eCallI 3 m__law_draw (aC (oE (eC (.int 4))) aN)))))
    (sSeq (sSet 5 (eCallI 3 m__law_few (aC (oV 4) (aC (oE (eCallI 3 m__law_draw (aC (oE (e2 dIxA (oE (eLst (lC (eSh (eC (.int 5))) (lC (eSh (eC (.int 7))) lN)))) (oE (eN fInt (aC (oE (e2 dNe (oV 0) (oE (eLst lN)))) aN))))) aN))) aN))))
    (sFor (jR1 (lC (eSh (eC (.int 3))) lN)) (gN 6)
    b0_law))))
def m_law : List D → Option Res := mFn 7 1
    (sSeq (sFor (iEn (lC (eSh (eSl (oE (e2 dAdd (oV 0) (oE (eLst (lC (eSh (eC (.int 0))) lN))))) pNo (pEx (eN fMax2 (aC (oE (eC (.int 1))) (aC (oE (eN fMin2 (aC (oE (eN fLen (aC (oV 0) aN))) (aC (oE (eC (.int 8))) aN)))) aN)))))) lN)) (gT (gsC (gN 1) (gsC (gN 2) gsN)) 2)
    b1_law)
    (sRet (eC (.bool true))))
end Gn
set_option maxHeartbeats 0
namespace Gn
open PySem PySem.Spec PyProof.Rows L2 Dd
def topS (i : Nat) : Stmt := PySem.Challenge.pw_idealtwin_k73_whole_busy_rows_with_one_s.main.body.getD i (.Pass ⟨0, 0, 0, 0⟩)
abbrev s_is_integer : Stmt := topS 14
abbrev nm_is_integer : List PySem.Str := ["value", "low", "high"]
theorem sc_is_integer : FnScope nm_is_integer ["value", "low", "high"] (defScope s_is_integer) := ⟨rfl, rfl, rfl, by decide +kernel, rfl, by decide +kernel, by decide +kernel⟩
abbrev s_need_size : Stmt := topS 15
abbrev nm_need_size : List PySem.Str := ["size"]
theorem sc_need_size : FnScope nm_need_size ["size"] (defScope s_need_size) := ⟨rfl, rfl, rfl, by decide +kernel, rfl, by decide +kernel, by decide +kernel⟩
abbrev s_is_cell : Stmt := topS 16
abbrev nm_is_cell : List PySem.Str := ["size", "value", "slot", "entry", "outlet"]
theorem sc_is_cell : FnScope nm_is_cell ["size", "value"] (defScope s_is_cell) := ⟨rfl, rfl, rfl, by decide +kernel, rfl, by decide +kernel, by decide +kernel⟩
abbrev s_cells_fault : Stmt := topS 17
abbrev nm_cells_fault : List PySem.Str := ["size", "value", "index", "cell"]
theorem sc_cells_fault : FnScope nm_cells_fault ["size", "value"] (defScope s_cells_fault) := ⟨rfl, rfl, rfl, by decide +kernel, rfl, by decide +kernel, by decide +kernel⟩
abbrev s_need_cells : Stmt := topS 18
abbrev nm_need_cells : List PySem.Str := ["size", "cells", "fault"]
theorem sc_need_cells : FnScope nm_need_cells ["size", "cells"] (defScope s_need_cells) := ⟨rfl, rfl, rfl, by decide +kernel, rfl, by decide +kernel, by decide +kernel⟩
abbrev s_row_fault : Stmt := topS 19
abbrev nm_row_fault : List PySem.Str := ["cells", "value", "known", "index", "slot", "start", "entry", "outlet"]
theorem sc_row_fault : FnScope nm_row_fault ["cells", "value"] (defScope s_row_fault) := ⟨rfl, rfl, rfl, by decide +kernel, rfl, by decide +kernel, by decide +kernel⟩
abbrev s_need_row : Stmt := topS 20
abbrev nm_need_row : List PySem.Str := ["size", "cells", "row", "fault"]
theorem sc_need_row : FnScope nm_need_row ["size", "cells", "row"] (defScope s_need_row) := ⟨rfl, rfl, rfl, by decide +kernel, rfl, by decide +kernel, by decide +kernel⟩
abbrev s_need_number : Stmt := topS 21
abbrev nm_need_number : List PySem.Str := ["number", "low", "high"]
theorem sc_need_number : FnScope nm_need_number ["number", "low", "high"] (defScope s_need_number) := ⟨rfl, rfl, rfl, by decide +kernel, rfl, by decide +kernel, by decide +kernel⟩
abbrev s_cells_to : Stmt := topS 22
abbrev nm_cells_to : List PySem.Str := ["cells", "outlet", "index", "cell"]
theorem sc_cells_to : FnScope nm_cells_to ["cells", "outlet"] (defScope s_cells_to) := ⟨rfl, rfl, rfl, by decide +kernel, rfl, by decide +kernel, by decide +kernel⟩
abbrev bs_cells_to_0 : PySem.Scope := ({ kind := PySem.ScopeKind.function, names := [((PySem.Str.ofString ".0"), PySem.NameKind.local), ((PySem.Str.ofString "index"), PySem.NameKind.local), ((PySem.Str.ofString "cell"), PySem.NameKind.local), ((PySem.Str.ofString "outlet"), PySem.NameKind.cell)], isGenerator := false, isCoroutine := false, more := [] } : PySem.Scope)
abbrev bs_cells_to_1 : PySem.Scope := ({ kind := PySem.ScopeKind.function, names := [((PySem.Str.ofString ".0"), PySem.NameKind.local), ((PySem.Str.ofString "index"), PySem.NameKind.local), ((PySem.Str.ofString "cell"), PySem.NameKind.local), ((PySem.Str.ofString "outlet"), PySem.NameKind.free)], isGenerator := false, isCoroutine := false, more := [] } : PySem.Scope)
abbrev s_sending_slots : Stmt := topS 23
abbrev nm_sending_slots : List PySem.Str := ["cells", "outlet", "found", "index", "slot"]
theorem sc_sending_slots : FnScope nm_sending_slots ["cells", "outlet"] (defScope s_sending_slots) := ⟨rfl, rfl, rfl, by decide +kernel, rfl, by decide +kernel, by decide +kernel⟩
abbrev s_outlets_of : Stmt := topS 24
abbrev nm_outlets_of : List PySem.Str := ["cells", "slot", "entry", "outlet"]
theorem sc_outlets_of : FnScope nm_outlets_of ["cells"] (defScope s_outlets_of) := ⟨rfl, rfl, rfl, by decide +kernel, rfl, by decide +kernel, by decide +kernel⟩
abbrev bs_outlets_of_0 : PySem.Scope := ({ kind := PySem.ScopeKind.function, names := [((PySem.Str.ofString ".0"), PySem.NameKind.local), ((PySem.Str.ofString "slot"), PySem.NameKind.local), ((PySem.Str.ofString "entry"), PySem.NameKind.local), ((PySem.Str.ofString "outlet"), PySem.NameKind.local)], isGenerator := false, isCoroutine := false, more := [] } : PySem.Scope)
abbrev s_is_busy_row : Stmt := topS 25
abbrev nm_is_busy_row : List PySem.Str := ["cells", "row", "outlet", "index"]
theorem sc_is_busy_row : FnScope nm_is_busy_row ["cells", "row"] (defScope s_is_busy_row) := ⟨rfl, rfl, rfl, by decide +kernel, rfl, by decide +kernel, by decide +kernel⟩
abbrev bs_is_busy_row_0 : PySem.Scope := ({ kind := PySem.ScopeKind.function, names := [((PySem.Str.ofString ".0"), PySem.NameKind.local), ((PySem.Str.ofString "index"), PySem.NameKind.local), ((PySem.Str.ofString "row"), PySem.NameKind.cell)], isGenerator := false, isCoroutine := false, more := [] } : PySem.Scope)
abbrev bs_is_busy_row_1 : PySem.Scope := ({ kind := PySem.ScopeKind.function, names := [((PySem.Str.ofString ".0"), PySem.NameKind.local), ((PySem.Str.ofString "index"), PySem.NameKind.local), ((PySem.Str.ofString "row"), PySem.NameKind.free)], isGenerator := false, isCoroutine := false, more := [] } : PySem.Scope)
abbrev s_need_busy : Stmt := topS 26
abbrev nm_need_busy : List PySem.Str := ["size", "cells", "row"]
theorem sc_need_busy : FnScope nm_need_busy ["size", "cells", "row"] (defScope s_need_busy) := ⟨rfl, rfl, rfl, by decide +kernel, rfl, by decide +kernel, by decide +kernel⟩
abbrev s_choices_of : Stmt := topS 27
abbrev nm_choices_of : List PySem.Str := ["cells", "ready", "found", "outlet", "some", "left", "slot", "index", "start"]
theorem sc_choices_of : FnScope nm_choices_of ["cells", "ready"] (defScope s_choices_of) := ⟨rfl, rfl, rfl, by decide +kernel, rfl, by decide +kernel, by decide +kernel⟩
abbrev bs_choices_of_0 : PySem.Scope := ({ kind := PySem.ScopeKind.function, names := [((PySem.Str.ofString ".0"), PySem.NameKind.local), ((PySem.Str.ofString "index"), PySem.NameKind.local), ((PySem.Str.ofString "ready"), PySem.NameKind.cell)], isGenerator := false, isCoroutine := false, more := [] } : PySem.Scope)
abbrev bs_choices_of_1 : PySem.Scope := ({ kind := PySem.ScopeKind.function, names := [((PySem.Str.ofString ".0"), PySem.NameKind.local), ((PySem.Str.ofString "index"), PySem.NameKind.local), ((PySem.Str.ofString "ready"), PySem.NameKind.free)], isGenerator := false, isCoroutine := false, more := [] } : PySem.Scope)
abbrev bs_choices_of_2 : PySem.Scope := ({ kind := PySem.ScopeKind.function, names := [((PySem.Str.ofString ".0"), PySem.NameKind.local), ((PySem.Str.ofString "start"), PySem.NameKind.local), ((PySem.Str.ofString "slot"), PySem.NameKind.cell)], isGenerator := false, isCoroutine := false, more := [] } : PySem.Scope)
abbrev bs_choices_of_3 : PySem.Scope := ({ kind := PySem.ScopeKind.function, names := [((PySem.Str.ofString ".0"), PySem.NameKind.local), ((PySem.Str.ofString "start"), PySem.NameKind.local), ((PySem.Str.ofString "slot"), PySem.NameKind.free)], isGenerator := false, isCoroutine := false, more := [] } : PySem.Scope)
abbrev s_product_of : Stmt := topS 28
abbrev nm_product_of : List PySem.Str := ["numbers", "found", "number"]
theorem sc_product_of : FnScope nm_product_of ["numbers"] (defScope s_product_of) := ⟨rfl, rfl, rfl, by decide +kernel, rfl, by decide +kernel, by decide +kernel⟩
abbrev s_row_with : Stmt := topS 29
abbrev nm_row_with : List PySem.Str := ["cells", "ready", "index", "digits", "many", "digit", "found", "outlet", "left", "slot", "some", "chosen", "cell"]
theorem sc_row_with : FnScope nm_row_with ["cells", "ready", "index"] (defScope s_row_with) := ⟨rfl, rfl, rfl, by decide +kernel, rfl, by decide +kernel, by decide +kernel⟩
abbrev bs_row_with_0 : PySem.Scope := ({ kind := PySem.ScopeKind.function, names := [((PySem.Str.ofString ".0"), PySem.NameKind.local), ((PySem.Str.ofString "cell"), PySem.NameKind.local), ((PySem.Str.ofString "ready"), PySem.NameKind.cell), ((PySem.Str.ofString "slot"), PySem.NameKind.cell)], isGenerator := false, isCoroutine := false, more := [] } : PySem.Scope)
abbrev bs_row_with_1 : PySem.Scope := ({ kind := PySem.ScopeKind.function, names := [((PySem.Str.ofString ".0"), PySem.NameKind.local), ((PySem.Str.ofString "cell"), PySem.NameKind.local), ((PySem.Str.ofString "ready"), PySem.NameKind.free), ((PySem.Str.ofString "slot"), PySem.NameKind.free)], isGenerator := false, isCoroutine := false, more := [] } : PySem.Scope)
abbrev s_own_slots : Stmt := topS 30
abbrev nm_own_slots : List PySem.Str := ["cells", "slot", "entry", "outlet"]
theorem sc_own_slots : FnScope nm_own_slots ["cells"] (defScope s_own_slots) := ⟨rfl, rfl, rfl, by decide +kernel, rfl, by decide +kernel, by decide +kernel⟩
abbrev bs_own_slots_0 : PySem.Scope := ({ kind := PySem.ScopeKind.function, names := [((PySem.Str.ofString ".0"), PySem.NameKind.local), ((PySem.Str.ofString "slot"), PySem.NameKind.local), ((PySem.Str.ofString "entry"), PySem.NameKind.local), ((PySem.Str.ofString "outlet"), PySem.NameKind.local)], isGenerator := false, isCoroutine := false, more := [] } : PySem.Scope)
abbrev s_busy_count : Stmt := topS 31
abbrev nm_busy_count : List PySem.Str := ["size", "cells"]
theorem sc_busy_count : FnScope nm_busy_count ["size", "cells"] (defScope s_busy_count) := ⟨rfl, rfl, rfl, by decide +kernel, rfl, by decide +kernel, by decide +kernel⟩
abbrev s_nth_busy : Stmt := topS 32
abbrev nm_nth_busy : List PySem.Str := ["size", "cells", "index", "ready"]
theorem sc_nth_busy : FnScope nm_nth_busy ["size", "cells", "index"] (defScope s_nth_busy) := ⟨rfl, rfl, rfl, by decide +kernel, rfl, by decide +kernel, by decide +kernel⟩
abbrev s_need_speeds : Stmt := topS 35
abbrev nm_need_speeds : List PySem.Str := ["speeds", "speed"]
theorem sc_need_speeds : FnScope nm_need_speeds ["speeds"] (defScope s_need_speeds) := ⟨rfl, rfl, rfl, by decide +kernel, rfl, by decide +kernel, by decide +kernel⟩
abbrev bs_need_speeds_0 : PySem.Scope := ({ kind := PySem.ScopeKind.function, names := [((PySem.Str.ofString ".0"), PySem.NameKind.local), ((PySem.Str.ofString "speed"), PySem.NameKind.local), ((PySem.Str.ofString "is_integer"), PySem.NameKind.globalImplicit), ((PySem.Str.ofString "MOST_SPEED"), PySem.NameKind.globalImplicit)], isGenerator := false, isCoroutine := false, more := [] } : PySem.Scope)
abbrev s_loads_of : Stmt := topS 36
abbrev nm_loads_of : List PySem.Str := ["cells", "crossings", "side", "found", "cell", "slot", "key"]
theorem sc_loads_of : FnScope nm_loads_of ["cells", "crossings", "side"] (defScope s_loads_of) := ⟨rfl, rfl, rfl, by decide +kernel, rfl, by decide +kernel, by decide +kernel⟩
abbrev s_crowded : Stmt := topS 38
abbrev nm_crowded : List PySem.Str := ["cells", "slots", "side", "key", "many"]
theorem sc_crowded : FnScope nm_crowded ["cells", "slots", "side"] (defScope s_crowded) := ⟨rfl, rfl, rfl, by decide +kernel, rfl, by decide +kernel, by decide +kernel⟩
abbrev bs_crowded_0 : PySem.Scope := ({ kind := PySem.ScopeKind.function, names := [((PySem.Str.ofString ".0"), PySem.NameKind.local), ((PySem.Str.ofString "key"), PySem.NameKind.local), ((PySem.Str.ofString "many"), PySem.NameKind.local)], isGenerator := false, isCoroutine := false, more := [] } : PySem.Scope)
abbrev s_most_at_once : Stmt := topS 39
abbrev nm_most_at_once : List PySem.Str := ["cells", "slots", "side"]
theorem sc_most_at_once : FnScope nm_most_at_once ["cells", "slots", "side"] (defScope s_most_at_once) := ⟨rfl, rfl, rfl, by decide +kernel, rfl, by decide +kernel, by decide +kernel⟩
abbrev s_clashes : Stmt := topS 40
abbrev nm_clashes : List PySem.Str := ["size", "cells", "row"]
theorem sc_clashes : FnScope nm_clashes ["size", "cells", "row"] (defScope s_clashes) := ⟨rfl, rfl, rfl, by decide +kernel, rfl, by decide +kernel, by decide +kernel⟩
abbrev s_clash_number : Stmt := topS 41
abbrev nm_clash_number : List PySem.Str := ["size", "cells", "row"]
theorem sc_clash_number : FnScope nm_clash_number ["size", "cells", "row"] (defScope s_clash_number) := ⟨rfl, rfl, rfl, by decide +kernel, rfl, by decide +kernel, by decide +kernel⟩
abbrev s_plan_by_leaving : Stmt := topS 42
abbrev nm_plan_by_leaving : List PySem.Str := ["size", "cells", "row", "number"]
theorem sc_plan_by_leaving : FnScope nm_plan_by_leaving ["size", "cells", "row", "number"] (defScope s_plan_by_leaving) := ⟨rfl, rfl, rfl, by decide +kernel, rfl, by decide +kernel, by decide +kernel⟩
abbrev s_check_few : Stmt := topS 45
abbrev nm_check_few : List PySem.Str := ["cells", "row", "cell", "end"]
theorem sc_check_few : FnScope nm_check_few ["cells", "row"] (defScope s_check_few) := ⟨rfl, rfl, rfl, by decide +kernel, rfl, by decide +kernel, by decide +kernel⟩
abbrev bs_check_few_0 : PySem.Scope := ({ kind := PySem.ScopeKind.function, names := [((PySem.Str.ofString ".0"), PySem.NameKind.local), ((PySem.Str.ofString "cell"), PySem.NameKind.local), ((PySem.Str.ofString "end"), PySem.NameKind.local), ((PySem.Str.ofString "MOST_FEW"), PySem.NameKind.globalImplicit)], isGenerator := false, isCoroutine := false, more := [] } : PySem.Scope)
abbrev s_spans_of : Stmt := topS 46
abbrev nm_spans_of : List PySem.Str := ["cells", "row", "cell", "end"]
theorem sc_spans_of : FnScope nm_spans_of ["cells", "row"] (defScope s_spans_of) := ⟨rfl, rfl, rfl, by decide +kernel, rfl, by decide +kernel, by decide +kernel⟩
abbrev bs_spans_of_0 : PySem.Scope := ({ kind := PySem.ScopeKind.function, names := [((PySem.Str.ofString ".0"), PySem.NameKind.local), ((PySem.Str.ofString "cell"), PySem.NameKind.local), ((PySem.Str.ofString "end"), PySem.NameKind.local)], isGenerator := false, isCoroutine := false, more := [] } : PySem.Scope)
abbrev s_tight_ports : Stmt := topS 47
abbrev nm_tight_ports : List PySem.Str := ["cells", "speeds", "found", "cell", "ports", "side", "other"]
theorem sc_tight_ports : FnScope nm_tight_ports ["cells", "speeds"] (defScope s_tight_ports) := ⟨rfl, rfl, rfl, by decide +kernel, rfl, by decide +kernel, by decide +kernel⟩
abbrev bs_tight_ports_0 : PySem.Scope := ({ kind := PySem.ScopeKind.function, names := [((PySem.Str.ofString ".0"), PySem.NameKind.local), ((PySem.Str.ofString "other"), PySem.NameKind.local), ((PySem.Str.ofString "cell"), PySem.NameKind.cell), ((PySem.Str.ofString "side"), PySem.NameKind.cell)], isGenerator := false, isCoroutine := false, more := [] } : PySem.Scope)
abbrev bs_tight_ports_1 : PySem.Scope := ({ kind := PySem.ScopeKind.function, names := [((PySem.Str.ofString ".0"), PySem.NameKind.local), ((PySem.Str.ofString "other"), PySem.NameKind.local), ((PySem.Str.ofString "cell"), PySem.NameKind.free), ((PySem.Str.ofString "side"), PySem.NameKind.free)], isGenerator := false, isCoroutine := false, more := [] } : PySem.Scope)
abbrev s_picks_in : Stmt := topS 48
abbrev nm_picks_in : List PySem.Str := ["ports", "speeds", "free", "due", "rows", "index", "longer", "row", "used", "other", "port"]
theorem sc_picks_in : FnScope nm_picks_in ["ports", "speeds", "free", "due"] (defScope s_picks_in) := ⟨rfl, rfl, rfl, by decide +kernel, rfl, by decide +kernel, by decide +kernel⟩
abbrev bs_picks_in_0 : PySem.Scope := ({ kind := PySem.ScopeKind.function, names := [((PySem.Str.ofString ".0"), PySem.NameKind.local), ((PySem.Str.ofString "other"), PySem.NameKind.local), ((PySem.Str.ofString "port"), PySem.NameKind.local), ((PySem.Str.ofString "ports"), PySem.NameKind.cell)], isGenerator := false, isCoroutine := false, more := [] } : PySem.Scope)
abbrev bs_picks_in_1 : PySem.Scope := ({ kind := PySem.ScopeKind.function, names := [((PySem.Str.ofString ".0"), PySem.NameKind.local), ((PySem.Str.ofString "other"), PySem.NameKind.local), ((PySem.Str.ofString "port"), PySem.NameKind.local), ((PySem.Str.ofString "ports"), PySem.NameKind.free)], isGenerator := false, isCoroutine := false, more := [] } : PySem.Scope)
abbrev bs_picks_in_2 : PySem.Scope := ({ kind := PySem.ScopeKind.function, names := [((PySem.Str.ofString ".0"), PySem.NameKind.local), ((PySem.Str.ofString "port"), PySem.NameKind.local), ((PySem.Str.ofString "speeds"), PySem.NameKind.cell), ((PySem.Str.ofString "used"), PySem.NameKind.cell)], isGenerator := false, isCoroutine := false, more := [] } : PySem.Scope)
abbrev bs_picks_in_3 : PySem.Scope := ({ kind := PySem.ScopeKind.function, names := [((PySem.Str.ofString ".0"), PySem.NameKind.local), ((PySem.Str.ofString "port"), PySem.NameKind.local), ((PySem.Str.ofString "speeds"), PySem.NameKind.free), ((PySem.Str.ofString "used"), PySem.NameKind.free)], isGenerator := false, isCoroutine := false, more := [] } : PySem.Scope)
abbrev s_ways_with : Stmt := topS 49
abbrev nm_ways_with : List PySem.Str := ["ports", "spans", "speeds", "some", "slot", "slots", "ways", "here", "due", "later", "crossed", "many", "free", "picks", "key", "index"]
theorem sc_ways_with : FnScope nm_ways_with ["ports", "spans", "speeds", "some"] (defScope s_ways_with) := ⟨rfl, rfl, rfl, by decide +kernel, rfl, by decide +kernel, by decide +kernel⟩
abbrev bs_ways_with_0 : PySem.Scope := ({ kind := PySem.ScopeKind.function, names := [((PySem.Str.ofString ".0"), PySem.NameKind.local), ((PySem.Str.ofString "index"), PySem.NameKind.local), ((PySem.Str.ofString "slot"), PySem.NameKind.local), ((PySem.Str.ofString "range"), PySem.NameKind.globalImplicit), ((PySem.Str.ofString "spans"), PySem.NameKind.cell)], isGenerator := false, isCoroutine := false, more := [] } : PySem.Scope)
abbrev bs_ways_with_1 : PySem.Scope := ({ kind := PySem.ScopeKind.function, names := [((PySem.Str.ofString ".0"), PySem.NameKind.local), ((PySem.Str.ofString "index"), PySem.NameKind.local), ((PySem.Str.ofString "slot"), PySem.NameKind.local), ((PySem.Str.ofString "range"), PySem.NameKind.globalImplicit), ((PySem.Str.ofString "spans"), PySem.NameKind.free)], isGenerator := false, isCoroutine := false, more := [] } : PySem.Scope)
abbrev bs_ways_with_2 : PySem.Scope := ({ kind := PySem.ScopeKind.function, names := [((PySem.Str.ofString ".0"), PySem.NameKind.local), ((PySem.Str.ofString "index"), PySem.NameKind.local), ((PySem.Str.ofString "slot"), PySem.NameKind.cell), ((PySem.Str.ofString "spans"), PySem.NameKind.cell)], isGenerator := false, isCoroutine := false, more := [] } : PySem.Scope)
abbrev bs_ways_with_3 : PySem.Scope := ({ kind := PySem.ScopeKind.function, names := [((PySem.Str.ofString ".0"), PySem.NameKind.local), ((PySem.Str.ofString "index"), PySem.NameKind.local), ((PySem.Str.ofString "slot"), PySem.NameKind.free), ((PySem.Str.ofString "spans"), PySem.NameKind.free)], isGenerator := false, isCoroutine := false, more := [] } : PySem.Scope)
abbrev bs_ways_with_4 : PySem.Scope := ({ kind := PySem.ScopeKind.function, names := [((PySem.Str.ofString ".0"), PySem.NameKind.local), ((PySem.Str.ofString "index"), PySem.NameKind.local), ((PySem.Str.ofString "crossed"), PySem.NameKind.cell)], isGenerator := false, isCoroutine := false, more := [] } : PySem.Scope)
abbrev bs_ways_with_5 : PySem.Scope := ({ kind := PySem.ScopeKind.function, names := [((PySem.Str.ofString ".0"), PySem.NameKind.local), ((PySem.Str.ofString "index"), PySem.NameKind.local), ((PySem.Str.ofString "crossed"), PySem.NameKind.free)], isGenerator := false, isCoroutine := false, more := [] } : PySem.Scope)
abbrev bs_ways_with_6 : PySem.Scope := ({ kind := PySem.ScopeKind.function, names := [((PySem.Str.ofString ".0"), PySem.NameKind.local), ((PySem.Str.ofString "index"), PySem.NameKind.local)], isGenerator := false, isCoroutine := false, more := [] } : PySem.Scope)
abbrev s_parts_of : Stmt := topS 50
abbrev nm_parts_of : List PySem.Str := ["ports", "left", "found", "part", "at", "more", "index", "port"]
theorem sc_parts_of : FnScope nm_parts_of ["ports"] (defScope s_parts_of) := ⟨rfl, rfl, rfl, by decide +kernel, rfl, by decide +kernel, by decide +kernel⟩
abbrev bs_parts_of_0 : PySem.Scope := ({ kind := PySem.ScopeKind.function, names := [((PySem.Str.ofString ".0"), PySem.NameKind.local), ((PySem.Str.ofString "index"), PySem.NameKind.local), ((PySem.Str.ofString "any"), PySem.NameKind.globalImplicit), ((PySem.Str.ofString "at"), PySem.NameKind.cell), ((PySem.Str.ofString "part"), PySem.NameKind.cell), ((PySem.Str.ofString "ports"), PySem.NameKind.cell)], isGenerator := false, isCoroutine := false, more := [] } : PySem.Scope)
abbrev bs_parts_of_1 : PySem.Scope := ({ kind := PySem.ScopeKind.function, names := [((PySem.Str.ofString ".0"), PySem.NameKind.local), ((PySem.Str.ofString "index"), PySem.NameKind.local), ((PySem.Str.ofString "any"), PySem.NameKind.globalImplicit), ((PySem.Str.ofString "at"), PySem.NameKind.free), ((PySem.Str.ofString "part"), PySem.NameKind.free), ((PySem.Str.ofString "ports"), PySem.NameKind.free)], isGenerator := false, isCoroutine := false, more := [] } : PySem.Scope)
abbrev bs_parts_of_2 : PySem.Scope := ({ kind := PySem.ScopeKind.function, names := [((PySem.Str.ofString ".0"), PySem.NameKind.local), ((PySem.Str.ofString "port"), PySem.NameKind.local), ((PySem.Str.ofString "at"), PySem.NameKind.cell), ((PySem.Str.ofString "part"), PySem.NameKind.cell), ((PySem.Str.ofString "ports"), PySem.NameKind.cell)], isGenerator := false, isCoroutine := false, more := [] } : PySem.Scope)
abbrev bs_parts_of_3 : PySem.Scope := ({ kind := PySem.ScopeKind.function, names := [((PySem.Str.ofString ".0"), PySem.NameKind.local), ((PySem.Str.ofString "port"), PySem.NameKind.local), ((PySem.Str.ofString "at"), PySem.NameKind.free), ((PySem.Str.ofString "part"), PySem.NameKind.free), ((PySem.Str.ofString "ports"), PySem.NameKind.free)], isGenerator := false, isCoroutine := false, more := [] } : PySem.Scope)
abbrev bs_parts_of_4 : PySem.Scope := ({ kind := PySem.ScopeKind.function, names := [((PySem.Str.ofString ".0"), PySem.NameKind.local), ((PySem.Str.ofString "index"), PySem.NameKind.local), ((PySem.Str.ofString "more"), PySem.NameKind.cell)], isGenerator := false, isCoroutine := false, more := [] } : PySem.Scope)
abbrev bs_parts_of_5 : PySem.Scope := ({ kind := PySem.ScopeKind.function, names := [((PySem.Str.ofString ".0"), PySem.NameKind.local), ((PySem.Str.ofString "index"), PySem.NameKind.local), ((PySem.Str.ofString "more"), PySem.NameKind.free)], isGenerator := false, isCoroutine := false, more := [] } : PySem.Scope)
abbrev s_count_with : Stmt := topS 51
abbrev nm_count_with : List PySem.Str := ["cells", "spans", "speeds", "ports", "found", "part"]
theorem sc_count_with : FnScope nm_count_with ["cells", "spans", "speeds"] (defScope s_count_with) := ⟨rfl, rfl, rfl, by decide +kernel, rfl, by decide +kernel, by decide +kernel⟩
abbrev s_need_few : Stmt := topS 52
abbrev nm_need_few : List PySem.Str := ["size", "cells", "row", "speeds"]
theorem sc_need_few : FnScope nm_need_few ["size", "cells", "row", "speeds"] (defScope s_need_few) := ⟨rfl, rfl, rfl, by decide +kernel, rfl, by decide +kernel, by decide +kernel⟩
abbrev s_has_plan : Stmt := topS 53
abbrev nm_has_plan : List PySem.Str := ["size", "cells", "row", "speeds"]
theorem sc_has_plan : FnScope nm_has_plan ["size", "cells", "row", "speeds"] (defScope s_has_plan) := ⟨rfl, rfl, rfl, by decide +kernel, rfl, by decide +kernel, by decide +kernel⟩
abbrev s_plan_count : Stmt := topS 54
abbrev nm_plan_count : List PySem.Str := ["size", "cells", "row", "speeds"]
theorem sc_plan_count : FnScope nm_plan_count ["size", "cells", "row", "speeds"] (defScope s_plan_count) := ⟨rfl, rfl, rfl, by decide +kernel, rfl, by decide +kernel, by decide +kernel⟩
abbrev s_nth_plan : Stmt := topS 55
abbrev nm_nth_plan : List PySem.Str := ["size", "cells", "row", "speeds", "index", "spans", "at", "first", "last", "slot", "many"]
theorem sc_nth_plan : FnScope nm_nth_plan ["size", "cells", "row", "speeds", "index"] (defScope s_nth_plan) := ⟨rfl, rfl, rfl, by decide +kernel, rfl, by decide +kernel, by decide +kernel⟩
abbrev bs_nth_plan_0 : PySem.Scope := ({ kind := PySem.ScopeKind.function, names := [((PySem.Str.ofString ".0"), PySem.NameKind.local), ((PySem.Str.ofString "first"), PySem.NameKind.local), ((PySem.Str.ofString "last"), PySem.NameKind.local)], isGenerator := false, isCoroutine := false, more := [] } : PySem.Scope)
abbrev s__law_source : Stmt := topS 57
abbrev nm__law_source : List PySem.Str := ["cell", "k", "great"]
theorem sc__law_source : FnScope nm__law_source ["cell", "k"] (defScope s__law_source) := ⟨rfl, rfl, rfl, by decide +kernel, rfl, by decide +kernel, by decide +kernel⟩
abbrev s__law_draw : Stmt := topS 58
abbrev nm__law_draw : List PySem.Str := ["source", "count", "digit", "mixed"]
theorem sc__law_draw : FnScope nm__law_draw ["source", "count"] (defScope s__law_draw) := ⟨rfl, rfl, rfl, by decide +kernel, rfl, by decide +kernel, by decide +kernel⟩
abbrev s__law_few : Stmt := topS 59
abbrev nm__law_few : List PySem.Str := ["source", "wide", "many", "found", "at", "port", "goal", "is_same"]
theorem sc__law_few : FnScope nm__law_few ["source", "wide", "many"] (defScope s__law_few) := ⟨rfl, rfl, rfl, by decide +kernel, rfl, by decide +kernel, by decide +kernel⟩
abbrev s__law_right : Stmt := topS 60
abbrev nm__law_right : List PySem.Str := ["wide", "lot", "line", "many", "pace", "is_due"]
theorem sc__law_right : FnScope nm__law_right ["wide", "lot", "line"] (defScope s__law_right) := ⟨rfl, rfl, rfl, by decide +kernel, rfl, by decide +kernel, by decide +kernel⟩
abbrev s_law : Stmt := topS 61
abbrev nm_law : List PySem.Str := ["script", "k", "cell", "source", "wide", "lot", "turn"]
theorem sc_law : FnScope nm_law ["script"] (defScope s_law) := ⟨rfl, rfl, rfl, by decide +kernel, rfl, by decide +kernel, by decide +kernel⟩
structure All (K : PySem.W.Frag) (mg : Str → Option Value) where
  f_is_integer : Addr
  fd_is_integer : FuncData
  h_is_integer : HasD K mg "is_integer" s_is_integer ["value", "low", "high"] [.non, .non] f_is_integer fd_is_integer
  f_need_size : Addr
  fd_need_size : FuncData
  h_need_size : Has K mg "need_size" s_need_size ["size"] f_need_size fd_need_size
  f_is_cell : Addr
  fd_is_cell : FuncData
  h_is_cell : Has K mg "is_cell" s_is_cell ["size", "value"] f_is_cell fd_is_cell
  f_cells_fault : Addr
  fd_cells_fault : FuncData
  h_cells_fault : Has K mg "cells_fault" s_cells_fault ["size", "value"] f_cells_fault fd_cells_fault
  f_need_cells : Addr
  fd_need_cells : FuncData
  h_need_cells : Has K mg "need_cells" s_need_cells ["size", "cells"] f_need_cells fd_need_cells
  f_row_fault : Addr
  fd_row_fault : FuncData
  h_row_fault : Has K mg "row_fault" s_row_fault ["cells", "value"] f_row_fault fd_row_fault
  f_need_row : Addr
  fd_need_row : FuncData
  h_need_row : Has K mg "need_row" s_need_row ["size", "cells", "row"] f_need_row fd_need_row
  f_need_number : Addr
  fd_need_number : FuncData
  h_need_number : HasD K mg "need_number" s_need_number ["number", "low", "high"] [.int 0, .non] f_need_number fd_need_number
  f_cells_to : Addr
  fd_cells_to : FuncData
  h_cells_to : Has K mg "cells_to" s_cells_to ["cells", "outlet"] f_cells_to fd_cells_to
  f_sending_slots : Addr
  fd_sending_slots : FuncData
  h_sending_slots : Has K mg "sending_slots" s_sending_slots ["cells", "outlet"] f_sending_slots fd_sending_slots
  f_outlets_of : Addr
  fd_outlets_of : FuncData
  h_outlets_of : Has K mg "outlets_of" s_outlets_of ["cells"] f_outlets_of fd_outlets_of
  f_is_busy_row : Addr
  fd_is_busy_row : FuncData
  h_is_busy_row : Has K mg "is_busy_row" s_is_busy_row ["cells", "row"] f_is_busy_row fd_is_busy_row
  f_need_busy : Addr
  fd_need_busy : FuncData
  h_need_busy : Has K mg "need_busy" s_need_busy ["size", "cells", "row"] f_need_busy fd_need_busy
  f_choices_of : Addr
  fd_choices_of : FuncData
  h_choices_of : Has K mg "choices_of" s_choices_of ["cells", "ready"] f_choices_of fd_choices_of
  f_product_of : Addr
  fd_product_of : FuncData
  h_product_of : Has K mg "product_of" s_product_of ["numbers"] f_product_of fd_product_of
  f_row_with : Addr
  fd_row_with : FuncData
  h_row_with : Has K mg "row_with" s_row_with ["cells", "ready", "index"] f_row_with fd_row_with
  f_own_slots : Addr
  fd_own_slots : FuncData
  h_own_slots : Has K mg "own_slots" s_own_slots ["cells"] f_own_slots fd_own_slots
  f_busy_count : Addr
  fd_busy_count : FuncData
  h_busy_count : Has K mg "busy_count" s_busy_count ["size", "cells"] f_busy_count fd_busy_count
  f_nth_busy : Addr
  fd_nth_busy : FuncData
  h_nth_busy : Has K mg "nth_busy" s_nth_busy ["size", "cells", "index"] f_nth_busy fd_nth_busy
  f_need_speeds : Addr
  fd_need_speeds : FuncData
  h_need_speeds : Has K mg "need_speeds" s_need_speeds ["speeds"] f_need_speeds fd_need_speeds
  f_loads_of : Addr
  fd_loads_of : FuncData
  h_loads_of : Has K mg "loads_of" s_loads_of ["cells", "crossings", "side"] f_loads_of fd_loads_of
  f_crowded : Addr
  fd_crowded : FuncData
  h_crowded : Has K mg "crowded" s_crowded ["cells", "slots", "side"] f_crowded fd_crowded
  f_most_at_once : Addr
  fd_most_at_once : FuncData
  h_most_at_once : Has K mg "most_at_once" s_most_at_once ["cells", "slots", "side"] f_most_at_once fd_most_at_once
  f_clashes : Addr
  fd_clashes : FuncData
  h_clashes : Has K mg "clashes" s_clashes ["size", "cells", "row"] f_clashes fd_clashes
  f_clash_number : Addr
  fd_clash_number : FuncData
  h_clash_number : Has K mg "clash_number" s_clash_number ["size", "cells", "row"] f_clash_number fd_clash_number
  f_plan_by_leaving : Addr
  fd_plan_by_leaving : FuncData
  h_plan_by_leaving : Has K mg "plan_by_leaving" s_plan_by_leaving ["size", "cells", "row", "number"] f_plan_by_leaving fd_plan_by_leaving
  f_check_few : Addr
  fd_check_few : FuncData
  h_check_few : Has K mg "check_few" s_check_few ["cells", "row"] f_check_few fd_check_few
  f_spans_of : Addr
  fd_spans_of : FuncData
  h_spans_of : Has K mg "spans_of" s_spans_of ["cells", "row"] f_spans_of fd_spans_of
  f_tight_ports : Addr
  fd_tight_ports : FuncData
  h_tight_ports : Has K mg "tight_ports" s_tight_ports ["cells", "speeds"] f_tight_ports fd_tight_ports
  f_picks_in : Addr
  fd_picks_in : FuncData
  h_picks_in : Has K mg "picks_in" s_picks_in ["ports", "speeds", "free", "due"] f_picks_in fd_picks_in
  f_ways_with : Addr
  fd_ways_with : FuncData
  h_ways_with : Has K mg "ways_with" s_ways_with ["ports", "spans", "speeds", "some"] f_ways_with fd_ways_with
  f_parts_of : Addr
  fd_parts_of : FuncData
  h_parts_of : Has K mg "parts_of" s_parts_of ["ports"] f_parts_of fd_parts_of
  f_count_with : Addr
  fd_count_with : FuncData
  h_count_with : Has K mg "count_with" s_count_with ["cells", "spans", "speeds"] f_count_with fd_count_with
  f_need_few : Addr
  fd_need_few : FuncData
  h_need_few : Has K mg "need_few" s_need_few ["size", "cells", "row", "speeds"] f_need_few fd_need_few
  f_has_plan : Addr
  fd_has_plan : FuncData
  h_has_plan : Has K mg "has_plan" s_has_plan ["size", "cells", "row", "speeds"] f_has_plan fd_has_plan
  f_plan_count : Addr
  fd_plan_count : FuncData
  h_plan_count : Has K mg "plan_count" s_plan_count ["size", "cells", "row", "speeds"] f_plan_count fd_plan_count
  f_nth_plan : Addr
  fd_nth_plan : FuncData
  h_nth_plan : Has K mg "nth_plan" s_nth_plan ["size", "cells", "row", "speeds", "index"] f_nth_plan fd_nth_plan
  f__law_source : Addr
  fd__law_source : FuncData
  h__law_source : Has K mg "_law_source" s__law_source ["cell", "k"] f__law_source fd__law_source
  f__law_draw : Addr
  fd__law_draw : FuncData
  h__law_draw : Has K mg "_law_draw" s__law_draw ["source", "count"] f__law_draw fd__law_draw
  f__law_few : Addr
  fd__law_few : FuncData
  h__law_few : Has K mg "_law_few" s__law_few ["source", "wide", "many"] f__law_few fd__law_few
  f__law_right : Addr
  fd__law_right : FuncData
  h__law_right : Has K mg "_law_right" s__law_right ["wide", "lot", "line"] f__law_right fd__law_right
  f_law : Addr
  fd_law : FuncData
  h_law : Has K mg "law" s_law ["script"] f_law fd_law
  z_abs : mg "abs" = none
  z_all : mg "all" = none
  z_any : mg "any" = none
  z_bool : mg "bool" = none
  z_divmod : mg "divmod" = none
  z_enumerate : mg "enumerate" = none
  z_int : mg "int" = none
  z_isinstance : mg "isinstance" = none
  z_len : mg "len" = none
  z_list : mg "list" = none
  z_max : mg "max" = none
  z_min : mg "min" = none
  z_range : mg "range" = none
  z_set : mg "set" = none
  z_sorted : mg "sorted" = none
  z_sum : mg "sum" = none
  z_tuple : mg "tuple" = none
  z_zip : mg "zip" = none
  t_MOST_CELLS : Tok
  c_MOST_CELLS : mg "MOST_CELLS" = some (.int 60 t_MOST_CELLS)
  t_MOST_FEW : Tok
  c_MOST_FEW : mg "MOST_FEW" = some (.int 8 t_MOST_FEW)
  t_MOST_LEAVING : Tok
  c_MOST_LEAVING : mg "MOST_LEAVING" = some (.int 9999999999999999999999999999999 t_MOST_LEAVING)
  t_MOST_SIZE : Tok
  c_MOST_SIZE : mg "MOST_SIZE" = some (.int 8 t_MOST_SIZE)
  t_MOST_SLOT : Tok
  c_MOST_SLOT : mg "MOST_SLOT" = some (.int 999999999999999999999999999999 t_MOST_SLOT)
  t_MOST_SPEED : Tok
  c_MOST_SPEED : mg "MOST_SPEED" = some (.int 60 t_MOST_SPEED)
section
variable {P : Program} {w : World} {K : PySem.W.Frag} {mg : Str → Option Value} {base : Heap}
theorem dfl_is_integer_0 (F : Hp) : Reps K F (([V.non, V.non] : List V).drop 0) [.none, .none] := .cons .non (.cons .non (.nil))
theorem dfl_is_integer_1 (F : Hp) : Reps K F (([V.non, V.non] : List V).drop 1) [.none] := .cons .non (.nil)
theorem dfl_is_integer_2 (F : Hp) : Reps K F (([V.non, V.non] : List V).drop 2) [] := .nil
theorem dfl_need_number_0 (F : Hp) : Reps K F (([V.int 0, V.non] : List V).drop 0) [(.int 0), .none] := .cons (.int _) (.cons .non (.nil))
theorem dfl_need_number_1 (F : Hp) : Reps K F (([V.int 0, V.non] : List V).drop 1) [.none] := .cons .non (.nil)
theorem dfl_need_number_2 (F : Hp) : Reps K F (([V.int 0, V.non] : List V).drop 2) [] := .nil
theorem ok_is_integer (A : All K mg) (k : Nat) : FnOk P w K mg base CX0 (k + 1) A.f_is_integer A.fd_is_integer ["value", "low", "high"] (spP K m_is_integer) :=
  fnD_ok (N := nm_is_integer) A.h_is_integer.fn sc_is_integer 3 3 rfl rfl fun cdv B outer s H hr =>
    (z_seq (z_if (PW.pt (y_or (y_not (y_tru (po_e (d_isi (by rfl) A.z_isinstance (by rfl) A.z_int (by first | rfl | decide +kernel) (po_v (pv 0)))))) (y_or1 (y_tru (po_e (d_isi (by rfl) A.z_isinstance (by rfl) A.z_bool (by first | rfl | decide +kernel) (po_v (pv 0))))))))
    (z_one (z_ret d_bl))
    z_nil)
    (z_one (z_ret (d_and (d_or (d_isN (po_v (pv 1))) (d_one (d_cmp (ov_ge hr.units) (po_v (pv 0)) (po_v (pv 1)) (by rfl)))) (d_one (d_or (d_isN (po_v (pv 2))) (d_one (d_cmp (ov_le hr.units) (po_v (pv 0)) (po_v (pv 2)) (by rfl)))))))))
theorem ok_need_size (A : All K mg) (k : Nat) : FnOk P w K mg base CX0 (k + 2) A.f_need_size A.fd_need_size ["size"] (spP K m_need_size) :=
  fn_ok (N := nm_need_size) A.h_need_size.fn sc_need_size 1 1 rfl rfl fun cdv B outer s H hr =>
    (z_one (z_if (y_not (y_tru (po_e (d_call (ok_is_integer A (k + 0)) hr (by rfl) A.h_is_integer.gl A.h_is_integer.fn.kp (A.h_is_integer.bi 2 (by decide)).choose_spec.2 (A.h_is_integer.bi 2 (by decide)).choose_spec.1 (fun _ => dfl_is_integer_2 _) pass0 (qa_cons (po_v (pv 0)) (qa_cons (po_e d_int) (qa_cons (po_e (pe_c (v := V.int 8) (pe_glob (v := V.int 8) (by rfl) A.c_MOST_SIZE ⟨_, rfl⟩) fun _ => .int _)) qa_nil)))))))
    (z_one z_bad)
    z_nil))
theorem ok_is_cell (A : All K mg) (k : Nat) : FnOk P w K mg base CX0 (k + 2) A.f_is_cell A.fd_is_cell ["size", "value"] (spP K m_is_cell) :=
  fn_ok (N := nm_is_cell) A.h_is_cell.fn sc_is_cell 5 2 rfl rfl fun cdv B outer s H hr =>
    (z_seq (z_if (PW.pt (y_or (y_not (y_tru (po_e (d_isi (by rfl) A.z_isinstance (by rfl) A.z_tuple (by first | rfl | decide +kernel) (po_v (pv 1)))))) (y_or1 (y_cmp (ov_ne hr.units) (po_e (d_callB cv_len (by rfl) A.z_len (by first | rfl | decide +kernel) (qa_cons (po_v (pv 1)) qa_nil))) (po_e d_int) (by rfl)))))
    (z_one (z_ret d_bl))
    z_nil)
    (z_seq (z_unp (d_sh (pe_v (pv 1))) (g_tup (by rfl) (gs_cons (g_name (i := 2) sc_is_cell.nd rfl (.inl rfl)) (gs_cons (g_name (i := 3) sc_is_cell.nd rfl (.inl rfl)) (gs_cons (g_name (i := 4) sc_is_cell.nd rfl (.inl rfl)) gs_nil)))))
    (z_one (z_ret (d_and (d_call (ok_is_integer A (k + 0)) hr (by rfl) A.h_is_integer.gl A.h_is_integer.fn.kp (A.h_is_integer.bi 2 (by decide)).choose_spec.2 (A.h_is_integer.bi 2 (by decide)).choose_spec.1 (fun _ => dfl_is_integer_2 _) pass0 (qa_cons (po_v (pv 2)) (qa_cons (po_e d_int) (qa_cons (po_e (pe_c (v := V.int 999999999999999999999999999999) (pe_glob (v := V.int 999999999999999999999999999999) (by rfl) A.c_MOST_SLOT ⟨_, rfl⟩) fun _ => .int _)) qa_nil)))) (d_and (d_call (ok_is_integer A (k + 0)) hr (by rfl) A.h_is_integer.gl A.h_is_integer.fn.kp (A.h_is_integer.bi 2 (by decide)).choose_spec.2 (A.h_is_integer.bi 2 (by decide)).choose_spec.1 (fun _ => dfl_is_integer_2 _) pass0 (qa_cons (po_v (pv 3)) (qa_cons (po_e d_int) (qa_cons (po_e (d_bin ov_sub (po_v (pv 0)) (po_e d_int))) qa_nil)))) (d_one (d_call (ok_is_integer A (k + 0)) hr (by rfl) A.h_is_integer.gl A.h_is_integer.fn.kp (A.h_is_integer.bi 2 (by decide)).choose_spec.2 (A.h_is_integer.bi 2 (by decide)).choose_spec.1 (fun _ => dfl_is_integer_2 _) pass0 (qa_cons (po_v (pv 4)) (qa_cons (po_e d_int) (qa_cons (po_e (d_bin ov_sub (po_v (pv 0)) (po_e d_int))) qa_nil)))))))))))
theorem ok_cells_fault (A : All K mg) (k : Nat) : FnOk P w K mg base CX0 (k + 3) A.f_cells_fault A.fd_cells_fault ["size", "value"] (spP K m_cells_fault) :=
  fn_ok (N := nm_cells_fault) A.h_cells_fault.fn sc_cells_fault 4 2 rfl rfl fun cdv B outer s H hr =>
    (z_seq (z_if (PW.pt (y_or (y_not (y_tru (po_e (d_isi (by rfl) A.z_isinstance (by rfl) A.z_list (by first | rfl | decide +kernel) (po_v (pv 1)))))) (y_or1 (y_cmp (ov_gt hr.units) (po_e (d_callB cv_len (by rfl) A.z_len (by first | rfl | decide +kernel) (qa_cons (po_v (pv 1)) qa_nil))) (po_e (pe_c (v := V.int 60) (pe_glob (v := V.int 60) (by rfl) A.c_MOST_CELLS ⟨_, rfl⟩) fun _ => .int _)) (by rfl)))))
    (z_one (z_ret (d_tup (ql_cons d_non ql_nil))))
    z_nil)
    (z_seq (z_for PassesOwn.never (by rfl) (w_en (by rfl) A.z_enumerate (ql_cons (pe_v (pv 1)) ql_nil)) (g_tup (by rfl) (gs_cons (g_name (i := 2) sc_cells_fault.nd rfl (.inl rfl)) (gs_cons (g_name (i := 3) sc_cells_fault.nd rfl (.inl rfl)) gs_nil)))
    (z_one (z_if (PW.pt (y_or (y_not (y_tru (po_e (d_callF (ok_is_cell A (k + 0)) hr (by rfl) A.h_is_cell.gl A.h_is_cell.fn.kp A.h_is_cell.bi pass0 (qa_cons (po_v (pv 0)) (qa_cons (po_v (pv 3)) qa_nil)))))) (y_or1 (PW.pt (y_and (y_cmp (ov_gt hr.units) (po_v (pv 2)) (po_e d_int) (by rfl)) (y_and1 (y_cmp (ov_ge hr.units) (po_e (d_sl (po_e (d_ixA (hu_of hr) (po_v (pv 1)) (po_e (d_bin ov_sub (po_v (pv 2)) (po_e d_int))))) p_no (p_ex d_int))) (po_e (d_sl (po_v (pv 3)) p_no (p_ex d_int))) (by rfl))))))))
    (z_one (z_ret (d_tup (ql_cons (pe_v (pv 2)) ql_nil))))
    z_nil)))
    (z_one (z_ret (d_tup ql_nil)))))
theorem ok_need_cells (A : All K mg) (k : Nat) : FnOk P w K mg base CX0 (k + 4) A.f_need_cells A.fd_need_cells ["size", "cells"] (spP K m_need_cells) :=
  fn_ok (N := nm_need_cells) A.h_need_cells.fn sc_need_cells 3 2 rfl rfl fun cdv B outer s H hr =>
    (z_seq (z_drop (d_callF (ok_need_size A (k + 1)) hr (by rfl) A.h_need_size.gl A.h_need_size.fn.kp A.h_need_size.bi pass0 (qa_cons (po_v (pv 0)) qa_nil)))
    (z_seq (z_set (i := 2) sc_need_cells.nd rfl (.inl rfl) (d_callF (ok_cells_fault A (k + 0)) hr (by rfl) A.h_cells_fault.gl A.h_cells_fault.fn.kp A.h_cells_fault.bi pass0 (qa_cons (po_v (pv 0)) (qa_cons (po_v (pv 1)) qa_nil))))
    (z_one (z_if (y_cmp (ov_ne hr.units) (po_v (pv 2)) (po_e (d_tup ql_nil)) (by rfl))
    (z_one z_bad)
    z_nil))))
theorem ok_row_fault (A : All K mg) (k : Nat) : FnOk P w K mg base CX0 (k + 2) A.f_row_fault A.fd_row_fault ["cells", "value"] (spP K m_row_fault) :=
  fn_ok (N := nm_row_fault) A.h_row_fault.fn sc_row_fault 8 2 rfl rfl fun cdv B outer s H hr =>
    (z_seq (z_if (PW.pt (y_or (y_not (y_tru (po_e (d_isi (by rfl) A.z_isinstance (by rfl) A.z_list (by first | rfl | decide +kernel) (po_v (pv 1)))))) (y_or1 (y_cmp (ov_ne hr.units) (po_e (d_callB cv_len (by rfl) A.z_len (by first | rfl | decide +kernel) (qa_cons (po_v (pv 1)) qa_nil))) (po_e (d_callB cv_len (by rfl) A.z_len (by first | rfl | decide +kernel) (qa_cons (po_v (pv 0)) qa_nil))) (by rfl)))))
    (z_one (z_ret (d_tup (ql_cons d_non ql_nil))))
    z_nil)
    (z_seq (z_set (i := 2) sc_row_fault.nd rfl (.inl rfl) d_dt)
    (z_seq (z_for PassesOwn.never (by rfl) (w_en (by rfl) A.z_enumerate (ql_cons (pe_v (pv 1)) ql_nil)) (g_tup (by rfl) (gs_cons (g_name (i := 3) sc_row_fault.nd rfl (.inl rfl)) (gs_cons (g_name (i := 4) sc_row_fault.nd rfl (.inl rfl)) gs_nil)))
    (z_seq (z_unp (d_sh (d_ixA (hu_of hr) (po_v (pv 0)) (po_v (pv 3)))) (g_tup (by rfl) (gs_cons (g_name (i := 5) sc_row_fault.nd rfl (.inl rfl)) (gs_cons (g_name (i := 6) sc_row_fault.nd rfl (.inl rfl)) (gs_cons (g_name (i := 7) sc_row_fault.nd rfl (.inl rfl)) gs_nil)))))
    (z_seq (z_if (PW.pt (y_or (y_not (y_tru (po_e (d_call (ok_is_integer A (k + 0)) hr (by rfl) A.h_is_integer.gl A.h_is_integer.fn.kp (A.h_is_integer.bi 2 (by decide)).choose_spec.2 (A.h_is_integer.bi 2 (by decide)).choose_spec.1 (fun _ => dfl_is_integer_2 _) pass0 (qa_cons (po_v (pv 4)) (qa_cons (po_v (pv 5)) (qa_cons (po_e (pe_c (v := V.int 9999999999999999999999999999999) (pe_glob (v := V.int 9999999999999999999999999999999) (by rfl) A.c_MOST_LEAVING ⟨_, rfl⟩) fun _ => .int _)) qa_nil))))))) (y_or1 (y_inA hr.units (po_e (d_tup (ql_cons (pe_v (pv 7)) (ql_cons (pe_v (pv 4)) ql_nil)))) (po_v (pv 2))))))
    (z_one (z_ret (d_tup (ql_cons (pe_v (pv 3)) ql_nil))))
    z_nil)
    (z_one (z_stD (hu_of hr) (pv 2) (d_sh (d_tup (ql_cons (pe_v (pv 7)) (ql_cons (pe_v (pv 4)) ql_nil)))) d_bl)))))
    (z_one (z_ret (d_tup ql_nil))))))
theorem ok_need_row (A : All K mg) (k : Nat) : FnOk P w K mg base CX0 (k + 5) A.f_need_row A.fd_need_row ["size", "cells", "row"] (spP K m_need_row) :=
  fn_ok (N := nm_need_row) A.h_need_row.fn sc_need_row 4 3 rfl rfl fun cdv B outer s H hr =>
    (z_seq (z_drop (d_callF (ok_need_cells A (k + 0)) hr (by rfl) A.h_need_cells.gl A.h_need_cells.fn.kp A.h_need_cells.bi pass0 (qa_cons (po_v (pv 0)) (qa_cons (po_v (pv 1)) qa_nil))))
    (z_seq (z_set (i := 3) sc_need_row.nd rfl (.inl rfl) (d_callF (ok_row_fault A (k + 2)) hr (by rfl) A.h_row_fault.gl A.h_row_fault.fn.kp A.h_row_fault.bi pass0 (qa_cons (po_v (pv 1)) (qa_cons (po_v (pv 2)) qa_nil))))
    (z_one (z_if (y_cmp (ov_ne hr.units) (po_v (pv 3)) (po_e (d_tup ql_nil)) (by rfl))
    (z_one z_bad)
    z_nil))))
theorem ok_need_number (A : All K mg) (k : Nat) : FnOk P w K mg base CX0 (k + 2) A.f_need_number A.fd_need_number ["number", "low", "high"] (spP K m_need_number) :=
  fnD_ok (N := nm_need_number) A.h_need_number.fn sc_need_number 3 3 rfl rfl fun cdv B outer s H hr =>
    (z_one (z_if (y_not (y_tru (po_e (d_call (ok_is_integer A (k + 0)) hr (by rfl) A.h_is_integer.gl A.h_is_integer.fn.kp (A.h_is_integer.bi 2 (by decide)).choose_spec.2 (A.h_is_integer.bi 2 (by decide)).choose_spec.1 (fun _ => dfl_is_integer_2 _) pass0 (qa_cons (po_v (pv 0)) (qa_cons (po_v (pv 1)) (qa_cons (po_v (pv 2)) qa_nil)))))))
    (z_one z_bad)
    z_nil))
theorem ok_cells_to (A : All K mg) (k : Nat) : FnOk P w K mg base CX0 (k + 1) A.f_cells_to A.fd_cells_to ["cells", "outlet"] (spP K m_cells_to) :=
  fn_ok (N := nm_cells_to) A.h_cells_to.fn sc_cells_to 4 2 rfl rfl fun cdv B outer s H hr =>
    (z_one (z_ret (d_lc (by rfl) sc_cells_to.nd (c_i (w_en (by rfl) A.z_enumerate (ql_cons (pe_v (pv 0)) ql_nil))) (blkOk_by (own := [((PySem.Str.ofString "index"), 2), ((PySem.Str.ofString "cell"), 3)]) (N := nm_cells_to) (sc := (defScope s_cells_to)) (scope := bs_cells_to_1) (by decide +kernel)) rfl (fun _ _ _ _ _ => (g_tup (by rfl) (gs_cons (g_name (i := 2) sc_cells_to.nd rfl (.inl rfl)) (gs_cons (g_name (i := 3) sc_cells_to.nd rfl (.inl rfl)) gs_nil)))) (fun _ _ _ _ _ => (t_one (y_cmp (ov_eq hr.units) (po_e (d_ixA (hu_of hr) (po_v (pv 3)) (po_e d_int))) (po_v (pv 1)) (by rfl)))) (fun _ _ _ _ _ => (pe_v (pv 2))))))
theorem ok_sending_slots (A : All K mg) (k : Nat) : FnOk P w K mg base CX0 (k + 2) A.f_sending_slots A.fd_sending_slots ["cells", "outlet"] (spP K m_sending_slots) :=
  fn_ok (N := nm_sending_slots) A.h_sending_slots.fn sc_sending_slots 5 2 rfl rfl fun cdv B outer s H hr =>
    (z_seq (z_set (i := 2) sc_sending_slots.nd rfl (.inl rfl) (d_lst ql_nil))
    (z_seq (z_for PassesOwn.never (by rfl) (w_e (d_callF (ok_cells_to A (k + 0)) hr (by rfl) A.h_cells_to.gl A.h_cells_to.fn.kp A.h_cells_to.bi pass0 (qa_cons (po_v (pv 0)) (qa_cons (po_v (pv 1)) qa_nil)))) (g_name (i := 3) sc_sending_slots.nd rfl (.inl rfl))
    (z_seq (z_set (i := 4) sc_sending_slots.nd rfl (.inl rfl) (d_ixA (hu_of hr) (po_e (d_ixA (hu_of hr) (po_v (pv 0)) (po_v (pv 3)))) (po_e d_int)))
    (z_one (z_drop (d_app (pv 2) (d_if (y_cmp (ov_eq hr.units) (po_v (pv 2)) (po_e (d_lst ql_nil)) (by rfl)) (pe_v (pv 4)) (d_callB (cv_max2 (by rfl)) (by rfl) A.z_max (by first | rfl | decide +kernel) (qa_cons (po_v (pv 4)) (qa_cons (po_e (d_bin ov_add (po_e (d_ixA (hu_of hr) (po_v (pv 2)) (po_e (d_un ov_neg (po_e d_int))))) (po_e d_int))) qa_nil)))))))))
    (z_one (z_ret (pe_mv (pv 2))))))
theorem ok_outlets_of (A : All K mg) (k : Nat) : FnOk P w K mg base CX0 (k + 1) A.f_outlets_of A.fd_outlets_of ["cells"] (spP K m_outlets_of) :=
  fn_ok (N := nm_outlets_of) A.h_outlets_of.fn sc_outlets_of 4 1 rfl rfl fun cdv B outer s H hr =>
    (z_one (z_ret (d_sset (by rfl) (by rfl) A.z_sorted (by rfl) A.z_set (po_e (d_lc (by rfl) sc_outlets_of.nd (c_v (pv 0)) (blkOk_by (own := [((PySem.Str.ofString "slot"), 1), ((PySem.Str.ofString "entry"), 2), ((PySem.Str.ofString "outlet"), 3)]) (N := nm_outlets_of) (sc := (defScope s_outlets_of)) (scope := bs_outlets_of_0) (by decide +kernel)) rfl (fun _ _ _ _ _ => (g_tup (by rfl) (gs_cons (g_name (i := 1) sc_outlets_of.nd rfl (.inl rfl)) (gs_cons (g_name (i := 2) sc_outlets_of.nd rfl (.inl rfl)) (gs_cons (g_name (i := 3) sc_outlets_of.nd rfl (.inl rfl)) gs_nil))))) (fun _ _ _ _ _ => t_nil) (fun _ _ _ _ _ => (pe_v (pv 3))))))))
theorem ok_is_busy_row (A : All K mg) (k : Nat) : FnOk P w K mg base CX0 (k + 3) A.f_is_busy_row A.fd_is_busy_row ["cells", "row"] (spP K m_is_busy_row) :=
  fn_ok (N := nm_is_busy_row) A.h_is_busy_row.fn sc_is_busy_row 4 2 rfl rfl fun cdv B outer s H hr =>
    (z_seq (z_for PassesOwn.never (by rfl) (w_e (d_callF (ok_outlets_of A (k + 1)) hr (by rfl) A.h_outlets_of.gl A.h_outlets_of.fn.kp A.h_outlets_of.bi pass0 (qa_cons (po_v (pv 0)) qa_nil))) (g_name (i := 2) sc_is_busy_row.nd rfl (.inl rfl))
    (z_one (z_if (y_cmp (ov_ne hr.units) (po_e (d_callB (cv_sorted hr.units) (by rfl) A.z_sorted (by first | rfl | decide +kernel) (qa_cons (po_e (d_lc (by rfl) sc_is_busy_row.nd (c_i (w_e (d_callF (ok_cells_to A (k + 1)) hr (by rfl) A.h_cells_to.gl A.h_cells_to.fn.kp A.h_cells_to.bi pass0 (qa_cons (po_v (pv 0)) (qa_cons (po_v (pv 2)) qa_nil))))) (blkOk_by (own := [((PySem.Str.ofString "index"), 3)]) (N := nm_is_busy_row) (sc := (defScope s_is_busy_row)) (scope := bs_is_busy_row_1) (by decide +kernel)) rfl (fun _ _ _ _ _ => (g_name (i := 3) sc_is_busy_row.nd rfl (.inl rfl))) (fun _ _ _ _ _ => t_nil) (fun _ _ _ _ _ => (d_ixA (hu_of hr) (po_v (pv 1)) (po_v (pv 3)))))) qa_nil))) (po_e (d_callF (ok_sending_slots A (k + 0)) hr (by rfl) A.h_sending_slots.gl A.h_sending_slots.fn.kp A.h_sending_slots.bi pass0 (qa_cons (po_v (pv 0)) (qa_cons (po_v (pv 2)) qa_nil)))) (by rfl))
    (z_one (z_ret d_bl))
    z_nil)))
    (z_one (z_ret d_bl)))
theorem ok_need_busy (A : All K mg) (k : Nat) : FnOk P w K mg base CX0 (k + 6) A.f_need_busy A.fd_need_busy ["size", "cells", "row"] (spP K m_need_busy) :=
  fn_ok (N := nm_need_busy) A.h_need_busy.fn sc_need_busy 3 3 rfl rfl fun cdv B outer s H hr =>
    (z_seq (z_drop (d_callF (ok_need_row A (k + 0)) hr (by rfl) A.h_need_row.gl A.h_need_row.fn.kp A.h_need_row.bi pass0 (qa_cons (po_v (pv 0)) (qa_cons (po_v (pv 1)) (qa_cons (po_v (pv 2)) qa_nil)))))
    (z_one (z_if (y_not (y_tru (po_e (d_callF (ok_is_busy_row A (k + 2)) hr (by rfl) A.h_is_busy_row.gl A.h_is_busy_row.fn.kp A.h_is_busy_row.bi pass0 (qa_cons (po_v (pv 1)) (qa_cons (po_v (pv 2)) qa_nil))))))
    (z_one z_bad)
    z_nil)))
theorem ok_choices_of (A : All K mg) (k : Nat) : FnOk P w K mg base CX0 (k + 3) A.f_choices_of A.fd_choices_of ["cells", "ready"] (spP K m_choices_of) :=
  fn_ok (N := nm_choices_of) A.h_choices_of.fn sc_choices_of 9 2 rfl rfl fun cdv B outer s H hr =>
    (z_seq (z_set (i := 2) sc_choices_of.nd rfl (.inl rfl) (d_lst ql_nil))
    (z_seq (z_for PassesOwn.never (by rfl) (w_e (d_callF (ok_outlets_of A (k + 1)) hr (by rfl) A.h_outlets_of.gl A.h_outlets_of.fn.kp A.h_outlets_of.bi pass0 (qa_cons (po_v (pv 0)) qa_nil))) (g_name (i := 3) sc_choices_of.nd rfl (.inl rfl))
    (z_seq (z_setLc (i := 4) (by rfl) sc_choices_of.nd rfl rfl (sw_true rfl rfl rfl (by decide +kernel)) (c_i (w_e (d_callF (ok_cells_to A (k + 1)) hr (by rfl) A.h_cells_to.gl A.h_cells_to.fn.kp A.h_cells_to.bi pass0 (qa_cons (po_v (pv 0)) (qa_cons (po_v (pv 3)) qa_nil))))) (blkOk_by (own := [((PySem.Str.ofString "index"), 7)]) (N := nm_choices_of) (sc := (defScope s_choices_of)) (scope := bs_choices_of_1) (by decide +kernel)) rfl (fun _ _ _ _ _ => (g_name (i := 7) sc_choices_of.nd rfl (.inl rfl))) (fun _ _ _ _ _ => t_nil) (fun _ _ _ _ _ => (d_ixA (hu_of hr) (po_v (pv 1)) (po_v (pv 7)))))
    (z_one (z_for PassesOwn.never (by rfl) (w_en (by rfl) A.z_enumerate (ql_cons (d_callF (ok_sending_slots A (k + 0)) hr (by rfl) A.h_sending_slots.gl A.h_sending_slots.fn.kp A.h_sending_slots.bi pass0 (qa_cons (po_v (pv 0)) (qa_cons (po_v (pv 3)) qa_nil))) ql_nil)) (g_tup (by rfl) (gs_cons (g_name (i := 5) sc_choices_of.nd rfl (.inl rfl)) (gs_cons (g_name (i := 6) sc_choices_of.nd rfl (.inr rfl)) gs_nil)))
    (z_one (z_drop (d_app (pv 2) (d_callB (cv_max2 (by rfl)) (by rfl) A.z_max (by first | rfl | decide +kernel) (qa_cons (po_e d_int) (qa_cons (po_e (d_bin ov_sub (po_e (d_callB cv_len (by rfl) A.z_len (by first | rfl | decide +kernel) (qa_cons (po_e (d_lc (by rfl) sc_choices_of.nd (c_v (pv 4)) (blkOk_by (own := [((PySem.Str.ofString "start"), 8)]) (N := nm_choices_of) (sc := (defScope s_choices_of)) (scope := bs_choices_of_3) (by decide +kernel)) rfl (fun _ _ _ _ _ => (g_name (i := 8) sc_choices_of.nd rfl (.inl rfl))) (fun _ _ _ _ _ => (t_one (y_cmp (ov_le hr.units) (po_v (pv 8)) (po_v (pv 6)) (by rfl)))) (fun _ _ _ _ _ => (pe_v (pv 8))))) qa_nil))) (po_v (pv 5)))) qa_nil))))))))))
    (z_one (z_ret (pe_mv (pv 2))))))
theorem ok_product_of (A : All K mg) (k : Nat) : FnOk P w K mg base CX0 (k + 1) A.f_product_of A.fd_product_of ["numbers"] (spP K m_product_of) :=
  fn_ok (N := nm_product_of) A.h_product_of.fn sc_product_of 3 1 rfl rfl fun cdv B outer s H hr =>
    (z_seq (z_set (i := 1) sc_product_of.nd rfl (.inl rfl) d_int)
    (z_seq (z_for PassesOwn.never (by rfl) (w_e (pe_v (pv 0))) (g_name (i := 2) sc_product_of.nd rfl (.inl rfl))
    (z_one (z_aug (i := 1) sc_product_of.nd rfl (.inl rfl) (po_v (pv 2)) oi_mul)))
    (z_one (z_ret (pe_mv (pv 1))))))
theorem ok_row_with (A : All K mg) (k : Nat) : FnOk P w K mg base CX0 (k + 4) A.f_row_with A.fd_row_with ["cells", "ready", "index"] (spP K m_row_with) :=
  fn_ok (N := nm_row_with) A.h_row_with.fn sc_row_with 13 3 rfl rfl fun cdv B outer s H hr =>
    (z_seq (z_set (i := 3) sc_row_with.nd rfl (.inl rfl) (d_lst ql_nil))
    (z_seq (z_for PassesOwn.never (by rfl) (w_e (d_rev (po_e (d_callF (ok_choices_of A (k + 0)) hr (by rfl) A.h_choices_of.gl A.h_choices_of.fn.kp A.h_choices_of.bi pass0 (qa_cons (po_v (pv 0)) (qa_cons (po_v (pv 1)) qa_nil)))))) (g_name (i := 4) sc_row_with.nd rfl (.inl rfl))
    (z_seq (z_unp (d_sh (d_callB cv_divmod (by rfl) A.z_divmod (by first | rfl | decide +kernel) (qa_cons (po_v (pv 2)) (qa_cons (po_v (pv 4)) qa_nil)))) (g_tup (by rfl) (gs_cons (g_name (i := 2) sc_row_with.nd rfl (.inl rfl)) (gs_cons (g_name (i := 5) sc_row_with.nd rfl (.inl rfl)) gs_nil))))
    (z_one (z_drop (d_app (pv 3) (pe_v (pv 5)))))))
    (z_seq (z_set (i := 6) sc_row_with.nd rfl (.inl rfl) (d_rep (d_lst (ql_cons d_int ql_nil)) (po_e (d_callB cv_len (by rfl) A.z_len (by first | rfl | decide +kernel) (qa_cons (po_v (pv 0)) qa_nil)))))
    (z_seq (z_for PassesOwn.never (by rfl) (w_e (d_callF (ok_outlets_of A (k + 2)) hr (by rfl) A.h_outlets_of.gl A.h_outlets_of.fn.kp A.h_outlets_of.bi pass0 (qa_cons (po_v (pv 0)) qa_nil))) (g_name (i := 7) sc_row_with.nd rfl (.inl rfl))
    (z_seq (z_set (i := 8) sc_row_with.nd rfl (.inl rfl) (d_callF (ok_cells_to A (k + 2)) hr (by rfl) A.h_cells_to.gl A.h_cells_to.fn.kp A.h_cells_to.bi pass0 (qa_cons (po_v (pv 0)) (qa_cons (po_v (pv 7)) qa_nil))))
    (z_one (z_for PassesOwn.never (by rfl) (w_e (d_callF (ok_sending_slots A (k + 1)) hr (by rfl) A.h_sending_slots.gl A.h_sending_slots.fn.kp A.h_sending_slots.bi pass0 (qa_cons (po_v (pv 0)) (qa_cons (po_v (pv 7)) qa_nil)))) (g_name (i := 9) sc_row_with.nd rfl (.inr rfl))
    (z_seq (z_setLc (i := 10) (by rfl) sc_row_with.nd rfl rfl (sw_true rfl rfl rfl (by decide +kernel)) (c_v (pv 8)) (blkOk_by (own := [((PySem.Str.ofString "cell"), 12)]) (N := nm_row_with) (sc := (defScope s_row_with)) (scope := bs_row_with_1) (by decide +kernel)) rfl (fun _ _ _ _ _ => (g_name (i := 12) sc_row_with.nd rfl (.inl rfl))) (fun _ _ _ _ _ => (t_one (y_cmp (ov_le hr.units) (po_e (d_ixA (hu_of hr) (po_v (pv 1)) (po_v (pv 12)))) (po_v (pv 9)) (by rfl)))) (fun _ _ _ _ _ => (pe_v (pv 12))))
    (z_seq (z_set (i := 11) sc_row_with.nd rfl (.inl rfl) (d_ixA (hu_of hr) (po_v (pv 10)) (po_e (d_pop (pv 3)))))
    (z_seq (z_alt (z_stL (k' := 0) (pv 6) (pe_v (pv 11)) (pe_v (pv 9))) (z_stD (hu_of hr) (pv 6) (d_sh (pe_v (pv 11))) (pe_v (pv 9))))
    (z_one (z_drop (d_rem hr.units (pv 8) (pe_v (pv 11))))))))))))
    (z_one (z_ret (pe_mv (pv 6))))))))
theorem ok_own_slots (A : All K mg) (k : Nat) : FnOk P w K mg base CX0 (k + 1) A.f_own_slots A.fd_own_slots ["cells"] (spP K m_own_slots) :=
  fn_ok (N := nm_own_slots) A.h_own_slots.fn sc_own_slots 4 1 rfl rfl fun cdv B outer s H hr =>
    (z_one (z_ret (d_lc (by rfl) sc_own_slots.nd (c_v (pv 0)) (blkOk_by (own := [((PySem.Str.ofString "slot"), 1), ((PySem.Str.ofString "entry"), 2), ((PySem.Str.ofString "outlet"), 3)]) (N := nm_own_slots) (sc := (defScope s_own_slots)) (scope := bs_own_slots_0) (by decide +kernel)) rfl (fun _ _ _ _ _ => (g_tup (by rfl) (gs_cons (g_name (i := 1) sc_own_slots.nd rfl (.inl rfl)) (gs_cons (g_name (i := 2) sc_own_slots.nd rfl (.inl rfl)) (gs_cons (g_name (i := 3) sc_own_slots.nd rfl (.inl rfl)) gs_nil))))) (fun _ _ _ _ _ => t_nil) (fun _ _ _ _ _ => (pe_v (pv 1))))))
theorem ok_busy_count (A : All K mg) (k : Nat) : FnOk P w K mg base CX0 (k + 5) A.f_busy_count A.fd_busy_count ["size", "cells"] (spP K m_busy_count) :=
  fn_ok (N := nm_busy_count) A.h_busy_count.fn sc_busy_count 2 2 rfl rfl fun cdv B outer s H hr =>
    (z_seq (z_drop (d_callF (ok_need_cells A (k + 0)) hr (by rfl) A.h_need_cells.gl A.h_need_cells.fn.kp A.h_need_cells.bi pass0 (qa_cons (po_v (pv 0)) (qa_cons (po_v (pv 1)) qa_nil))))
    (z_one (z_ret (d_callF (ok_product_of A (k + 3)) hr (by rfl) A.h_product_of.gl A.h_product_of.fn.kp A.h_product_of.bi pass0 (qa_cons (po_e (d_callF (ok_choices_of A (k + 1)) hr (by rfl) A.h_choices_of.gl A.h_choices_of.fn.kp A.h_choices_of.bi pass0 (qa_cons (po_v (pv 1)) (qa_cons (po_e (d_callF (ok_own_slots A (k + 3)) hr (by rfl) A.h_own_slots.gl A.h_own_slots.fn.kp A.h_own_slots.bi pass0 (qa_cons (po_v (pv 1)) qa_nil))) qa_nil)))) qa_nil)))))
theorem ok_nth_busy (A : All K mg) (k : Nat) : FnOk P w K mg base CX0 (k + 5) A.f_nth_busy A.fd_nth_busy ["size", "cells", "index"] (spP K m_nth_busy) :=
  fn_ok (N := nm_nth_busy) A.h_nth_busy.fn sc_nth_busy 4 3 rfl rfl fun cdv B outer s H hr =>
    (z_seq (z_drop (d_callF (ok_need_cells A (k + 0)) hr (by rfl) A.h_need_cells.gl A.h_need_cells.fn.kp A.h_need_cells.bi pass0 (qa_cons (po_v (pv 0)) (qa_cons (po_v (pv 1)) qa_nil))))
    (z_seq (z_set (i := 3) sc_nth_busy.nd rfl (.inl rfl) (d_callF (ok_own_slots A (k + 3)) hr (by rfl) A.h_own_slots.gl A.h_own_slots.fn.kp A.h_own_slots.bi pass0 (qa_cons (po_v (pv 1)) qa_nil)))
    (z_seq (z_drop (d_call (ok_need_number A (k + 2)) hr (by rfl) A.h_need_number.gl A.h_need_number.fn.kp (A.h_need_number.bi 2 (by decide)).choose_spec.2 (A.h_need_number.bi 2 (by decide)).choose_spec.1 (fun _ => dfl_need_number_2 _) pass0 (qa_cons (po_v (pv 2)) (qa_cons (po_e d_int) (qa_cons (po_e (d_bin ov_sub (po_e (d_callF (ok_product_of A (k + 3)) hr (by rfl) A.h_product_of.gl A.h_product_of.fn.kp A.h_product_of.bi pass0 (qa_cons (po_e (d_callF (ok_choices_of A (k + 1)) hr (by rfl) A.h_choices_of.gl A.h_choices_of.fn.kp A.h_choices_of.bi pass0 (qa_cons (po_v (pv 1)) (qa_cons (po_v (pv 3)) qa_nil)))) qa_nil))) (po_e d_int))) qa_nil)))))
    (z_one (z_ret (d_callF (ok_row_with A (k + 0)) hr (by rfl) A.h_row_with.gl A.h_row_with.fn.kp A.h_row_with.bi pass0 (qa_cons (po_v (pv 1)) (qa_cons (po_v (pv 3)) (qa_cons (po_v (pv 2)) qa_nil)))))))))
theorem ok_need_speeds (A : All K mg) (k : Nat) : FnOk P w K mg base CX0 (k + 2) A.f_need_speeds A.fd_need_speeds ["speeds"] (spP K m_need_speeds) :=
  fn_ok (N := nm_need_speeds) A.h_need_speeds.fn sc_need_speeds 2 1 rfl rfl fun cdv B outer s H hr =>
    (z_seq (z_if (PW.pt (y_or (y_not (y_tru (po_e (d_isi (by rfl) A.z_isinstance (by rfl) A.z_tuple (by first | rfl | decide +kernel) (po_v (pv 0)))))) (y_or1 (y_cmp (ov_ne hr.units) (po_e (d_callB cv_len (by rfl) A.z_len (by first | rfl | decide +kernel) (qa_cons (po_v (pv 0)) qa_nil))) (po_e d_int) (by rfl)))))
    (z_one z_bad)
    z_nil)
    (z_one (z_if (y_not (y_tru (po_e (d_callB (cv_all (by rfl)) (by rfl) A.z_all (by first | rfl | decide +kernel) (qa_cons (po_e (d_lc (by rfl) sc_need_speeds.nd (c_v (pv 0)) (blkOk_by (own := [((PySem.Str.ofString "speed"), 1)]) (N := nm_need_speeds) (sc := (defScope s_need_speeds)) (scope := bs_need_speeds_0) (by decide +kernel)) rfl (fun _ _ _ _ _ => (g_name (i := 1) sc_need_speeds.nd rfl (.inl rfl))) (fun _ _ _ _ _ => t_nil) (fun _ _ _ _ _ => (d_call (ok_is_integer A (k + 0)) hr (by rfl) A.h_is_integer.gl A.h_is_integer.fn.kp (A.h_is_integer.bi 2 (by decide)).choose_spec.2 (A.h_is_integer.bi 2 (by decide)).choose_spec.1 (fun _ => dfl_is_integer_2 _) pass0 (qa_cons (po_v (pv 1)) (qa_cons (po_e d_int) (qa_cons (po_e (pe_c (v := V.int 60) (pe_glob (v := V.int 60) (by rfl) A.c_MOST_SPEED ⟨_, rfl⟩) fun _ => .int _)) qa_nil))))))) qa_nil)))))
    (z_one z_bad)
    z_nil)))
theorem ok_loads_of (A : All K mg) (k : Nat) : FnOk P w K mg base CX0 (k + 1) A.f_loads_of A.fd_loads_of ["cells", "crossings", "side"] (spP K m_loads_of) :=
  fn_ok (N := nm_loads_of) A.h_loads_of.fn sc_loads_of 7 3 rfl rfl fun cdv B outer s H hr =>
    (z_seq (z_set (i := 3) sc_loads_of.nd rfl (.inl rfl) d_dt)
    (z_seq (z_for PassesOwn.never (by rfl) (w_z2 (by rfl) A.z_zip (ql_cons (pe_v (pv 0)) (ql_cons (pe_v (pv 1)) ql_nil))) (g_tup (by rfl) (gs_cons (g_name (i := 4) sc_loads_of.nd rfl (.inl rfl)) (gs_cons (g_name (i := 5) sc_loads_of.nd rfl (.inl rfl)) gs_nil)))
    (z_seq (z_set (i := 6) sc_loads_of.nd rfl (.inl rfl) (d_tup (ql_cons (pe_v (pv 5)) (ql_cons (d_ixA (hu_of hr) (po_v (pv 4)) (po_v (pv 2))) ql_nil))))
    (z_one (z_stD (hu_of hr) (pv 3) (d_sh (pe_v (pv 6))) (d_bin ov_add (po_e (d_dget2 (hu_of hr) (po_v (pv 3)) (po_v (pv 6)) d_int ⟨rfl, rfl, rfl, rfl⟩)) (po_e d_int))))))
    (z_one (z_ret (pe_mv (pv 3))))))
theorem ok_crowded (A : All K mg) (k : Nat) : FnOk P w K mg base CX0 (k + 2) A.f_crowded A.fd_crowded ["cells", "slots", "side"] (spP K m_crowded) :=
  fn_ok (N := nm_crowded) A.h_crowded.fn sc_crowded 5 3 rfl rfl fun cdv B outer s H hr =>
    (z_one (z_ret (d_callB (cv_sorted hr.units) (by rfl) A.z_sorted (by first | rfl | decide +kernel) (qa_cons (po_e (d_lc (by rfl) sc_crowded.nd (c_i (w_it (d_callF (ok_loads_of A (k + 0)) hr (by rfl) A.h_loads_of.gl A.h_loads_of.fn.kp A.h_loads_of.bi pass0 (qa_cons (po_v (pv 0)) (qa_cons (po_v (pv 1)) (qa_cons (po_v (pv 2)) qa_nil)))))) (blkOk_by (own := [((PySem.Str.ofString "key"), 3), ((PySem.Str.ofString "many"), 4)]) (N := nm_crowded) (sc := (defScope s_crowded)) (scope := bs_crowded_0) (by decide +kernel)) rfl (fun _ _ _ _ _ => (g_tup (by rfl) (gs_cons (g_name (i := 3) sc_crowded.nd rfl (.inl rfl)) (gs_cons (g_name (i := 4) sc_crowded.nd rfl (.inl rfl)) gs_nil)))) (fun _ _ _ _ _ => (t_one (y_cmp (ov_gt hr.units) (po_v (pv 4)) (po_e d_int) (by rfl)))) (fun _ _ _ _ _ => (pe_v (pv 3))))) qa_nil))))
theorem ok_most_at_once (A : All K mg) (k : Nat) : FnOk P w K mg base CX0 (k + 2) A.f_most_at_once A.fd_most_at_once ["cells", "slots", "side"] (spP K m_most_at_once) :=
  fn_ok (N := nm_most_at_once) A.h_most_at_once.fn sc_most_at_once 3 3 rfl rfl fun cdv B outer s H hr =>
    (z_one (z_ret (d_maxV (fun _ => .int _) (by rfl) hr.units (by rfl) A.z_max (po_e (d_callF (ok_loads_of A (k + 0)) hr (by rfl) A.h_loads_of.gl A.h_loads_of.fn.kp A.h_loads_of.bi pass0 (qa_cons (po_v (pv 0)) (qa_cons (po_v (pv 1)) (qa_cons (po_v (pv 2)) qa_nil))))) pe_int)))
theorem ok_clashes (A : All K mg) (k : Nat) : FnOk P w K mg base CX0 (k + 6) A.f_clashes A.fd_clashes ["size", "cells", "row"] (spP K m_clashes) :=
  fn_ok (N := nm_clashes) A.h_clashes.fn sc_clashes 3 3 rfl rfl fun cdv B outer s H hr =>
    (z_seq (z_drop (d_callF (ok_need_row A (k + 0)) hr (by rfl) A.h_need_row.gl A.h_need_row.fn.kp A.h_need_row.bi pass0 (qa_cons (po_v (pv 0)) (qa_cons (po_v (pv 1)) (qa_cons (po_v (pv 2)) qa_nil)))))
    (z_one (z_ret (d_callF (ok_crowded A (k + 3)) hr (by rfl) A.h_crowded.gl A.h_crowded.fn.kp A.h_crowded.bi pass0 (qa_cons (po_v (pv 1)) (qa_cons (po_v (pv 2)) (qa_cons (po_e d_int) qa_nil)))))))
theorem ok_clash_number (A : All K mg) (k : Nat) : FnOk P w K mg base CX0 (k + 6) A.f_clash_number A.fd_clash_number ["size", "cells", "row"] (spP K m_clash_number) :=
  fn_ok (N := nm_clash_number) A.h_clash_number.fn sc_clash_number 3 3 rfl rfl fun cdv B outer s H hr =>
    (z_seq (z_drop (d_callF (ok_need_row A (k + 0)) hr (by rfl) A.h_need_row.gl A.h_need_row.fn.kp A.h_need_row.bi pass0 (qa_cons (po_v (pv 0)) (qa_cons (po_v (pv 1)) (qa_cons (po_v (pv 2)) qa_nil)))))
    (z_one (z_ret (d_callF (ok_most_at_once A (k + 3)) hr (by rfl) A.h_most_at_once.gl A.h_most_at_once.fn.kp A.h_most_at_once.bi pass0 (qa_cons (po_v (pv 1)) (qa_cons (po_v (pv 2)) (qa_cons (po_e d_int) qa_nil)))))))
theorem ok_plan_by_leaving (A : All K mg) (k : Nat) : FnOk P w K mg base CX0 (k + 7) A.f_plan_by_leaving A.fd_plan_by_leaving ["size", "cells", "row", "number"] (spP K m_plan_by_leaving) :=
  fn_ok (N := nm_plan_by_leaving) A.h_plan_by_leaving.fn sc_plan_by_leaving 4 4 rfl rfl fun cdv B outer s H hr =>
    (z_seq (z_drop (d_callF (ok_need_row A (k + 1)) hr (by rfl) A.h_need_row.gl A.h_need_row.fn.kp A.h_need_row.bi pass0 (qa_cons (po_v (pv 0)) (qa_cons (po_v (pv 1)) (qa_cons (po_v (pv 2)) qa_nil)))))
    (z_seq (z_drop (d_call (ok_need_number A (k + 4)) hr (by rfl) A.h_need_number.gl A.h_need_number.fn.kp (A.h_need_number.bi 1 (by decide)).choose_spec.2 (A.h_need_number.bi 1 (by decide)).choose_spec.1 (fun _ => dfl_need_number_1 _) pass0 (qa_cons (po_v (pv 3)) (qa_cons (po_e d_int) qa_nil))))
    (z_seq (z_drop (d_callF (ok_need_busy A (k + 0)) hr (by rfl) A.h_need_busy.gl A.h_need_busy.fn.kp A.h_need_busy.bi pass0 (qa_cons (po_v (pv 0)) (qa_cons (po_v (pv 1)) (qa_cons (po_v (pv 2)) qa_nil)))))
    (z_one (z_ret (d_if (y_cmp (ov_le hr.units) (po_e (d_callF (ok_most_at_once A (k + 4)) hr (by rfl) A.h_most_at_once.gl A.h_most_at_once.fn.kp A.h_most_at_once.bi pass0 (qa_cons (po_v (pv 1)) (qa_cons (po_v (pv 2)) (qa_cons (po_e d_int) qa_nil))))) (po_v (pv 3)) (by rfl)) (d_callT cv_list (by rfl) A.z_list (by first | rfl | decide +kernel) (qa_cons (po_v (pv 2)) qa_nil)) d_non))))))
theorem ok_check_few (A : All K mg) (k : Nat) : FnOk P w K mg base CX0 (k + 1) A.f_check_few A.fd_check_few ["cells", "row"] (spP K m_check_few) :=
  fn_ok (N := nm_check_few) A.h_check_few.fn sc_check_few 4 2 rfl rfl fun cdv B outer s H hr =>
    (z_one (z_if (PW.pt (y_or (y_cmp (ov_gt hr.units) (po_e (d_callB cv_len (by rfl) A.z_len (by first | rfl | decide +kernel) (qa_cons (po_v (pv 0)) qa_nil))) (po_e (pe_c (v := V.int 8) (pe_glob (v := V.int 8) (by rfl) A.c_MOST_FEW ⟨_, rfl⟩) fun _ => .int _)) (by rfl)) (y_or1 (y_tru (po_e (d_callB (cv_any (by rfl)) (by rfl) A.z_any (by first | rfl | decide +kernel) (qa_cons (po_e (d_lc (by rfl) sc_check_few.nd (c_i (w_z2 (by rfl) A.z_zip (ql_cons (pe_v (pv 0)) (ql_cons (pe_v (pv 1)) ql_nil)))) (blkOk_by (own := [((PySem.Str.ofString "cell"), 2), ((PySem.Str.ofString "end"), 3)]) (N := nm_check_few) (sc := (defScope s_check_few)) (scope := bs_check_few_0) (by decide +kernel)) rfl (fun _ _ _ _ _ => (g_tup (by rfl) (gs_cons (g_name (i := 2) sc_check_few.nd rfl (.inl rfl)) (gs_cons (g_name (i := 3) sc_check_few.nd rfl (.inl rfl)) gs_nil)))) (fun _ _ _ _ _ => t_nil) (fun _ _ _ _ _ => (d_cmp (ov_ge hr.units) (po_e (d_bin ov_sub (po_v (pv 3)) (po_e (d_ixA (hu_of hr) (po_v (pv 2)) (po_e d_int))))) (po_e (pe_c (v := V.int 8) (pe_glob (v := V.int 8) (by rfl) A.c_MOST_FEW ⟨_, rfl⟩) fun _ => .int _)) (by rfl))))) qa_nil)))))))
    (z_one z_bad)
    z_nil))
theorem ok_spans_of (A : All K mg) (k : Nat) : FnOk P w K mg base CX0 (k + 1) A.f_spans_of A.fd_spans_of ["cells", "row"] (spP K m_spans_of) :=
  fn_ok (N := nm_spans_of) A.h_spans_of.fn sc_spans_of 4 2 rfl rfl fun cdv B outer s H hr =>
    (z_one (z_ret (d_lc (by rfl) sc_spans_of.nd (c_i (w_z2 (by rfl) A.z_zip (ql_cons (pe_v (pv 0)) (ql_cons (pe_v (pv 1)) ql_nil)))) (blkOk_by (own := [((PySem.Str.ofString "cell"), 2), ((PySem.Str.ofString "end"), 3)]) (N := nm_spans_of) (sc := (defScope s_spans_of)) (scope := bs_spans_of_0) (by decide +kernel)) rfl (fun _ _ _ _ _ => (g_tup (by rfl) (gs_cons (g_name (i := 2) sc_spans_of.nd rfl (.inl rfl)) (gs_cons (g_name (i := 3) sc_spans_of.nd rfl (.inl rfl)) gs_nil)))) (fun _ _ _ _ _ => t_nil) (fun _ _ _ _ _ => (d_tup (ql_cons (d_ixA (hu_of hr) (po_v (pv 2)) (po_e d_int)) (ql_cons (pe_v (pv 3)) ql_nil)))))))
theorem ok_tight_ports (A : All K mg) (k : Nat) : FnOk P w K mg base CX0 (k + 1) A.f_tight_ports A.fd_tight_ports ["cells", "speeds"] (spP K m_tight_ports) :=
  fn_ok (N := nm_tight_ports) A.h_tight_ports.fn sc_tight_ports 7 2 rfl rfl fun cdv B outer s H hr =>
    (z_seq (z_set (i := 2) sc_tight_ports.nd rfl (.inl rfl) (d_lst ql_nil))
    (z_seq (z_for PassesOwn.never (by rfl) (w_e (pe_v (pv 0))) (g_name (i := 3) sc_tight_ports.nd rfl (.inr rfl))
    (z_seq (z_set (i := 4) sc_tight_ports.nd rfl (.inl rfl) (d_lst ql_nil))
    (z_seq (z_for PassesOwn.never (by rfl) (w_e (d_tup (ql_cons d_int (ql_cons d_int ql_nil)))) (g_name (i := 5) sc_tight_ports.nd rfl (.inr rfl))
    (z_one (z_if (y_cmp (ov_gt hr.units) (po_e (d_callB cv_len (by rfl) A.z_len (by first | rfl | decide +kernel) (qa_cons (po_e (d_lc (by rfl) sc_tight_ports.nd (c_v (pv 0)) (blkOk_by (own := [((PySem.Str.ofString "other"), 6)]) (N := nm_tight_ports) (sc := (defScope s_tight_ports)) (scope := bs_tight_ports_1) (by decide +kernel)) rfl (fun _ _ _ _ _ => (g_name (i := 6) sc_tight_ports.nd rfl (.inl rfl))) (fun _ _ _ _ _ => (t_one (y_cmp (ov_eq hr.units) (po_e (d_ixA (hu_of hr) (po_v (pv 6)) (po_v (pv 5)))) (po_e (d_ixA (hu_of hr) (po_v (pv 3)) (po_v (pv 5)))) (by rfl)))) (fun _ _ _ _ _ => (pe_v (pv 6))))) qa_nil))) (po_e (d_ixA (hu_of hr) (po_v (pv 1)) (po_e (d_bin ov_sub (po_v (pv 5)) (po_e d_int))))) (by rfl))
    (z_one (z_drop (d_app (pv 4) (d_tup (ql_cons (pe_v (pv 5)) (ql_cons (d_ixA (hu_of hr) (po_v (pv 3)) (po_v (pv 5))) ql_nil))))))
    z_nil)))
    (z_one (z_drop (d_app (pv 2) (pe_v (pv 4))))))))
    (z_one (z_ret (pe_mv (pv 2))))))
theorem ok_picks_in (A : All K mg) (k : Nat) : FnOk P w K mg base CX0 (k + 1) A.f_picks_in A.fd_picks_in ["ports", "speeds", "free", "due"] (spP K m_picks_in) :=
  fn_ok (N := nm_picks_in) A.h_picks_in.fn sc_picks_in 11 4 rfl rfl fun cdv B outer s H hr =>
    (z_seq (z_set (i := 4) sc_picks_in.nd rfl (.inl rfl) (d_lst (ql_cons (d_lst ql_nil) ql_nil)))
    (z_seq (z_for PassesOwn.never (by rfl) (w_e (pe_v (pv 2))) (g_name (i := 5) sc_picks_in.nd rfl (.inl rfl))
    (z_seq (z_set (i := 6) sc_picks_in.nd rfl (.inl rfl) (d_lst ql_nil))
    (z_seq (z_for PassesOwn.never (by rfl) (w_e (pe_v (pv 4))) (g_name (i := 7) sc_picks_in.nd rfl (.inl rfl))
    (z_seq (z_set (i := 8) sc_picks_in.nd rfl (.inr rfl) (d_lc2 (by rfl) sc_picks_in.nd (c_v (pv 7)) (blkOk_by (own := [((PySem.Str.ofString "other"), 9), ((PySem.Str.ofString "port"), 10)]) (N := nm_picks_in) (sc := (defScope s_picks_in)) (scope := bs_picks_in_1) (by decide +kernel)) rfl (by decide) (fun _ _ _ _ _ => (g_sub (by decide) (g_name (i := 9) sc_picks_in.nd rfl (.inl rfl)))) (fun _ _ _ _ _ => t_nil) (fun _ _ _ _ _ => (f_e (d_ixA (hu_of hr) (po_v (pv 0)) (po_v (pv 9))))) (fun _ _ _ _ _ => (g_name (i := 10) sc_picks_in.nd rfl (.inl rfl))) (fun _ _ _ _ _ => t_nil) (fun _ _ _ _ _ => (pe_v (pv 10)))))
    (z_one (z_if (y_tru (po_e (d_callB (cv_all (by rfl)) (by rfl) A.z_all (by first | rfl | decide +kernel) (qa_cons (po_e (d_lc (by rfl) sc_picks_in.nd (c_i (w_e (d_ixA (hu_of hr) (po_v (pv 0)) (po_v (pv 5))))) (blkOk_by (own := [((PySem.Str.ofString "port"), 10)]) (N := nm_picks_in) (sc := (defScope s_picks_in)) (scope := bs_picks_in_3) (by decide +kernel)) rfl (fun _ _ _ _ _ => (g_name (i := 10) sc_picks_in.nd rfl (.inl rfl))) (fun _ _ _ _ _ => t_nil) (fun _ _ _ _ _ => (d_cmp (ov_lt hr.units) (po_e (d_cnt hr.units (po_v (pv 8)) (po_v (pv 10)))) (po_e (d_ixA (hu_of hr) (po_v (pv 1)) (po_e (d_bin ov_sub (po_e (d_ixA (hu_of hr) (po_v (pv 10)) (po_e d_int))) (po_e d_int))))) (by rfl))))) qa_nil))))
    (z_one (z_drop (d_app (pv 6) (d_lst (ql_star (po_v (pv 7)) (ql_cons (pe_v (pv 5)) ql_nil))))))
    z_nil))))
    (z_one (z_set (i := 4) sc_picks_in.nd rfl (.inl rfl) (d_if (y_inA hr.units (po_v (pv 5)) (po_v (pv 3))) (pe_mv (pv 6)) (d_lst (ql_star (po_v (pv 4)) (ql_star (po_v (pv 6)) ql_nil)))))))))
    (z_one (z_ret (pe_mv (pv 4))))))
theorem ok_ways_with (A : All K mg) (k : Nat) : FnOk P w K mg base CX0 (k + 2) A.f_ways_with A.fd_ways_with ["ports", "spans", "speeds", "some"] (spP K m_ways_with) :=
  fn_ok (N := nm_ways_with) A.h_ways_with.fn sc_ways_with 16 4 rfl rfl fun cdv B outer s H hr =>
    (z_seq (z_set (i := 5) sc_ways_with.nd rfl (.inl rfl) (d_sset (by rfl) (by rfl) A.z_sorted (by rfl) A.z_set (po_e (d_lc2 (by rfl) sc_ways_with.nd (c_v (pv 3)) (blkOk_by (own := [((PySem.Str.ofString "index"), 15), ((PySem.Str.ofString "slot"), 4)]) (N := nm_ways_with) (sc := (defScope s_ways_with)) (scope := bs_ways_with_1) (by decide +kernel)) rfl (by decide) (fun _ _ _ _ _ => (g_sub (by decide) (g_name (i := 15) sc_ways_with.nd rfl (.inl rfl)))) (fun _ _ _ _ _ => t_nil) (fun _ _ _ _ _ => (f_rg2 (by rfl) A.z_range (ql_cons (d_ixA (hu_of hr) (po_e (d_ixA (hu_of hr) (po_v (pv 1)) (po_v (pv 15)))) (po_e d_int)) (ql_cons (d_bin ov_add (po_e (d_ixA (hu_of hr) (po_e (d_ixA (hu_of hr) (po_v (pv 1)) (po_v (pv 15)))) (po_e d_int))) (po_e d_int)) ql_nil)))) (fun _ _ _ _ _ => (g_name (i := 4) sc_ways_with.nd rfl (.inl rfl))) (fun _ _ _ _ _ => t_nil) (fun _ _ _ _ _ => (pe_v (pv 4)))))))
    (z_seq (z_set (i := 6) sc_ways_with.nd rfl (.inl rfl) d_d01)
    (z_seq (z_for PassesOwn.never (by rfl) (w_e (pe_v (pv 5))) (g_name (i := 4) sc_ways_with.nd rfl (.inr rfl))
    (z_seq (z_setLc (i := 7) (by rfl) sc_ways_with.nd rfl rfl (sw_true rfl rfl rfl (by decide +kernel)) (c_v (pv 3)) (blkOk_by (own := [((PySem.Str.ofString "index"), 15)]) (N := nm_ways_with) (sc := (defScope s_ways_with)) (scope := bs_ways_with_3) (by decide +kernel)) rfl (fun _ _ _ _ _ => (g_name (i := 15) sc_ways_with.nd rfl (.inl rfl))) (fun _ _ _ _ _ => (t_one (y_ch (ov_le hr.units) (ov_le hr.units) (po_e (d_ixA (hu_of hr) (po_e (d_ixA (hu_of hr) (po_v (pv 1)) (po_v (pv 15)))) (po_e d_int))) (po_v (pv 4)) (po_e (d_ixA (hu_of hr) (po_e (d_ixA (hu_of hr) (po_v (pv 1)) (po_v (pv 15)))) (po_e d_int)))))) (fun _ _ _ _ _ => (pe_v (pv 15))))
    (z_seq (z_setLc (i := 8) (by rfl) sc_ways_with.nd rfl rfl (sw_true rfl rfl rfl (by decide +kernel)) (c_v (pv 7)) (blkOk_by (own := [((PySem.Str.ofString "index"), 15)]) (N := nm_ways_with) (sc := (defScope s_ways_with)) (scope := bs_ways_with_3) (by decide +kernel)) rfl (fun _ _ _ _ _ => (g_name (i := 15) sc_ways_with.nd rfl (.inl rfl))) (fun _ _ _ _ _ => (t_one (y_cmp (ov_eq hr.units) (po_e (d_ixA (hu_of hr) (po_e (d_ixA (hu_of hr) (po_v (pv 1)) (po_v (pv 15)))) (po_e d_int))) (po_v (pv 4)) (by rfl)))) (fun _ _ _ _ _ => (pe_v (pv 15))))
    (z_seq (z_set (i := 9) sc_ways_with.nd rfl (.inl rfl) d_dk)
    (z_seq (z_for PassesOwn.never (by rfl) (w_it (pe_mv (pv 6))) (g_tup (by rfl) (gs_cons (g_name (i := 10) sc_ways_with.nd rfl (.inr rfl)) (gs_cons (g_name (i := 11) sc_ways_with.nd rfl (.inl rfl)) gs_nil)))
    (z_seq (z_setLc (i := 12) (by rfl) sc_ways_with.nd rfl rfl (sw_true rfl rfl rfl (by decide +kernel)) (c_v (pv 7)) (blkOk_by (own := [((PySem.Str.ofString "index"), 15)]) (N := nm_ways_with) (sc := (defScope s_ways_with)) (scope := bs_ways_with_5) (by decide +kernel)) rfl (fun _ _ _ _ _ => (g_name (i := 15) sc_ways_with.nd rfl (.inl rfl))) (fun _ _ _ _ _ => (t_one (y_cmp (ov_eq hr.units) (po_e (d_bin ov_band (po_e (d_bin ov_shr (po_v (pv 10)) (po_v (pv 15)))) (po_e d_int))) (po_e d_int) (by rfl)))) (fun _ _ _ _ _ => (pe_v (pv 15))))
    (z_one (z_for PassesOwn.never (by rfl) (w_e (d_callF (ok_picks_in A (k + 0)) hr (by rfl) A.h_picks_in.gl A.h_picks_in.fn.kp A.h_picks_in.bi pass0 (qa_cons (po_v (pv 0)) (qa_cons (po_v (pv 2)) (qa_cons (po_v (pv 12)) (qa_cons (po_v (pv 8)) qa_nil)))))) (g_name (i := 13) sc_ways_with.nd rfl (.inl rfl))
    (z_seq (z_set (i := 14) sc_ways_with.nd rfl (.inl rfl) (d_bin ov_add (po_v (pv 10)) (po_e (d_callB (cv_sum (by rfl)) (by rfl) A.z_sum (by first | rfl | decide +kernel) (qa_cons (po_e (d_lc (by rfl) sc_ways_with.nd (c_v (pv 13)) (blkOk_by (own := [((PySem.Str.ofString "index"), 15)]) (N := nm_ways_with) (sc := (defScope s_ways_with)) (scope := bs_ways_with_6) (by decide +kernel)) rfl (fun _ _ _ _ _ => (g_name (i := 15) sc_ways_with.nd rfl (.inl rfl))) (fun _ _ _ _ _ => t_nil) (fun _ _ _ _ _ => (d_bin ov_shl (po_e d_int) (po_v (pv 15)))))) qa_nil)))))
    (z_one (z_alt (z_stL (k' := 0) (pv 9) (pe_v (pv 14)) (d_bin ov_add (po_e (d_dget2 (hu_of hr) (po_v (pv 9)) (po_v (pv 14)) d_int ⟨rfl, rfl, rfl, rfl⟩)) (po_v (pv 11)))) (z_stD (hu_of hr) (pv 9) (d_sh (pe_v (pv 14))) (d_bin ov_add (po_e (d_dget2 (hu_of hr) (po_v (pv 9)) (po_v (pv 14)) d_int ⟨rfl, rfl, rfl, rfl⟩)) (po_v (pv 11)))))))))))
    (z_one (z_set (i := 6) sc_ways_with.nd rfl (.inl rfl) (pe_mv (pv 9)))))))))
    (z_one (z_ret (d_dget2 (hu_of hr) (po_v (pv 6)) (po_e (d_callB (cv_sum (by rfl)) (by rfl) A.z_sum (by first | rfl | decide +kernel) (qa_cons (po_e (d_lc (by rfl) sc_ways_with.nd (c_v (pv 3)) (blkOk_by (own := [((PySem.Str.ofString "index"), 15)]) (N := nm_ways_with) (sc := (defScope s_ways_with)) (scope := bs_ways_with_6) (by decide +kernel)) rfl (fun _ _ _ _ _ => (g_name (i := 15) sc_ways_with.nd rfl (.inl rfl))) (fun _ _ _ _ _ => t_nil) (fun _ _ _ _ _ => (d_bin ov_shl (po_e d_int) (po_v (pv 15)))))) qa_nil))) d_int ⟨rfl, rfl, rfl, rfl⟩))))))
theorem ok_parts_of (A : All K mg) (k : Nat) : FnOk P w K mg base CX0 (k + 1) A.f_parts_of A.fd_parts_of ["ports"] (spP K m_parts_of) :=
  fn_ok (N := nm_parts_of) A.h_parts_of.fn sc_parts_of 8 1 rfl rfl fun cdv B outer s H hr =>
    (z_seq (z_par2 (i := 1) (j := 2) (by rfl) sc_parts_of.nd rfl rfl (by decide) rfl rfl (qw_cons (d_lr1 (by rfl) (by rfl) A.z_list (by rfl) A.z_range (po_e (d_callB cv_len (by rfl) A.z_len (by first | rfl | decide +kernel) (qa_cons (po_v (pv 0)) qa_nil)))) (qw_cons (d_lst ql_nil) qw_nil)) (by rfl))
    (z_seq (z_while PassesOwn.never (y_cmp (ov_ne hr.units) (po_v (pv 1)) (po_e (d_lst ql_nil)) (by rfl))
    (z_seq (z_parT (n := 2) (by rfl) (qw_cons (d_lst (ql_cons (d_pop0 (pv 1)) ql_nil)) (qw_cons d_int qw_nil)) (p_cons (pg_name (i := 3) sc_parts_of.nd rfl (.inr rfl)) (p_cons (pg_name (i := 4) sc_parts_of.nd rfl (.inr rfl)) p_nil)) rfl (by decide))
    (z_seq (z_while PassesOwn.never (y_cmp (ov_lt hr.units) (po_v (pv 4)) (po_e (d_callB cv_len (by rfl) A.z_len (by first | rfl | decide +kernel) (qa_cons (po_v (pv 3)) qa_nil))) (by rfl))
    (z_seq (z_set (i := 5) sc_parts_of.nd rfl (.inr rfl) (d_lc (by rfl) sc_parts_of.nd (c_v (pv 1)) (blkOk_by (own := [((PySem.Str.ofString "index"), 6)]) (N := nm_parts_of) (sc := (defScope s_parts_of)) (scope := bs_parts_of_1) (by decide +kernel)) rfl (fun _ _ _ _ _ => (g_name (i := 6) sc_parts_of.nd rfl (.inl rfl))) (fun _ _ _ _ _ => (t_one (y_tru (po_e (d_callB (cv_any (by rfl)) (by rfl) A.z_any (by first | rfl | decide +kernel) (qa_cons (po_e (d_lc (by rfl) sc_parts_of.nd (c_i (w_e (d_ixA (hu_of hr) (po_v (pv 0)) (po_v (pv 6))))) (blkOk_by (own := [((PySem.Str.ofString "port"), 7)]) (N := nm_parts_of) (sc := bs_parts_of_0) (scope := bs_parts_of_3) (by decide +kernel)) rfl (fun _ _ _ _ _ => (g_name (i := 7) sc_parts_of.nd rfl (.inl rfl))) (fun _ _ _ _ _ => t_nil) (fun _ _ _ _ _ => (d_inA hr.units (po_v (pv 7)) (po_e (d_ixA (hu_of hr) (po_v (pv 0)) (po_e (d_ixA (hu_of hr) (po_v (pv 3)) (po_v (pv 4)))))))))) qa_nil)))))) (fun _ _ _ _ _ => (pe_v (pv 6)))))
    (z_seq (z_drop (d_ext (pv 3) (po_v (pv 5))))
    (z_seq (z_setLc (i := 1) (by rfl) sc_parts_of.nd rfl rfl (sw_true rfl rfl rfl (by decide +kernel)) (c_v (pv 1)) (blkOk_by (own := [((PySem.Str.ofString "index"), 6)]) (N := nm_parts_of) (sc := (defScope s_parts_of)) (scope := bs_parts_of_5) (by decide +kernel)) rfl (fun _ _ _ _ _ => (g_name (i := 6) sc_parts_of.nd rfl (.inl rfl))) (fun _ _ _ _ _ => (t_one (y_ninA hr.units (po_v (pv 6)) (po_v (pv 5))))) (fun _ _ _ _ _ => (pe_v (pv 6))))
    (z_one (z_aug (i := 4) sc_parts_of.nd rfl (.inr rfl) (po_e d_int) oi_add))))))
    (z_one (z_drop (d_app (pv 2) (d_callB (cv_sorted hr.units) (by rfl) A.z_sorted (by first | rfl | decide +kernel) (qa_cons (po_v (pv 3)) qa_nil))))))))
    (z_one (z_ret (pe_mv (pv 2))))))
theorem ok_count_with (A : All K mg) (k : Nat) : FnOk P w K mg base CX0 (k + 3) A.f_count_with A.fd_count_with ["cells", "spans", "speeds"] (spP K m_count_with) :=
  fn_ok (N := nm_count_with) A.h_count_with.fn sc_count_with 6 3 rfl rfl fun cdv B outer s H hr =>
    (z_seq (z_par2 (i := 3) (j := 4) (by rfl) sc_count_with.nd rfl rfl (by decide) rfl rfl (qw_cons (d_callF (ok_tight_ports A (k + 1)) hr (by rfl) A.h_tight_ports.gl A.h_tight_ports.fn.kp A.h_tight_ports.bi pass0 (qa_cons (po_v (pv 0)) (qa_cons (po_v (pv 2)) qa_nil))) (qw_cons d_int qw_nil)) (by rfl))
    (z_seq (z_for PassesOwn.never (by rfl) (w_e (d_callF (ok_parts_of A (k + 1)) hr (by rfl) A.h_parts_of.gl A.h_parts_of.fn.kp A.h_parts_of.bi pass0 (qa_cons (po_v (pv 3)) qa_nil))) (g_name (i := 5) sc_count_with.nd rfl (.inl rfl))
    (z_one (z_aug (i := 4) sc_count_with.nd rfl (.inl rfl) (po_e (d_callF (ok_ways_with A (k + 0)) hr (by rfl) A.h_ways_with.gl A.h_ways_with.fn.kp A.h_ways_with.bi pass0 (qa_cons (po_v (pv 3)) (qa_cons (po_v (pv 1)) (qa_cons (po_v (pv 2)) (qa_cons (po_v (pv 5)) qa_nil)))))) oi_mul)))
    (z_one (z_ret (pe_mv (pv 4))))))
theorem ok_need_few (A : All K mg) (k : Nat) : FnOk P w K mg base CX0 (k + 6) A.f_need_few A.fd_need_few ["size", "cells", "row", "speeds"] (spP K m_need_few) :=
  fn_ok (N := nm_need_few) A.h_need_few.fn sc_need_few 4 4 rfl rfl fun cdv B outer s H hr =>
    (z_seq (z_drop (d_callF (ok_need_row A (k + 0)) hr (by rfl) A.h_need_row.gl A.h_need_row.fn.kp A.h_need_row.bi pass0 (qa_cons (po_v (pv 0)) (qa_cons (po_v (pv 1)) (qa_cons (po_v (pv 2)) qa_nil)))))
    (z_seq (z_drop (d_callF (ok_need_speeds A (k + 3)) hr (by rfl) A.h_need_speeds.gl A.h_need_speeds.fn.kp A.h_need_speeds.bi pass0 (qa_cons (po_v (pv 3)) qa_nil)))
    (z_one (z_drop (d_callF (ok_check_few A (k + 4)) hr (by rfl) A.h_check_few.gl A.h_check_few.fn.kp A.h_check_few.bi pass0 (qa_cons (po_v (pv 1)) (qa_cons (po_v (pv 2)) qa_nil)))))))
theorem ok_has_plan (A : All K mg) (k : Nat) : FnOk P w K mg base CX0 (k + 7) A.f_has_plan A.fd_has_plan ["size", "cells", "row", "speeds"] (spP K m_has_plan) :=
  fn_ok (N := nm_has_plan) A.h_has_plan.fn sc_has_plan 4 4 rfl rfl fun cdv B outer s H hr =>
    (z_seq (z_drop (d_callF (ok_need_few A (k + 0)) hr (by rfl) A.h_need_few.gl A.h_need_few.fn.kp A.h_need_few.bi pass0 (qa_cons (po_v (pv 0)) (qa_cons (po_v (pv 1)) (qa_cons (po_v (pv 2)) (qa_cons (po_v (pv 3)) qa_nil))))))
    (z_one (z_ret (d_cmp (ov_gt hr.units) (po_e (d_callF (ok_count_with A (k + 3)) hr (by rfl) A.h_count_with.gl A.h_count_with.fn.kp A.h_count_with.bi pass0 (qa_cons (po_v (pv 1)) (qa_cons (po_e (d_callF (ok_spans_of A (k + 5)) hr (by rfl) A.h_spans_of.gl A.h_spans_of.fn.kp A.h_spans_of.bi pass0 (qa_cons (po_v (pv 1)) (qa_cons (po_v (pv 2)) qa_nil)))) (qa_cons (po_v (pv 3)) qa_nil))))) (po_e d_int) (by rfl)))))
theorem ok_plan_count (A : All K mg) (k : Nat) : FnOk P w K mg base CX0 (k + 7) A.f_plan_count A.fd_plan_count ["size", "cells", "row", "speeds"] (spP K m_plan_count) :=
  fn_ok (N := nm_plan_count) A.h_plan_count.fn sc_plan_count 4 4 rfl rfl fun cdv B outer s H hr =>
    (z_seq (z_drop (d_callF (ok_need_few A (k + 0)) hr (by rfl) A.h_need_few.gl A.h_need_few.fn.kp A.h_need_few.bi pass0 (qa_cons (po_v (pv 0)) (qa_cons (po_v (pv 1)) (qa_cons (po_v (pv 2)) (qa_cons (po_v (pv 3)) qa_nil))))))
    (z_one (z_ret (d_callF (ok_count_with A (k + 3)) hr (by rfl) A.h_count_with.gl A.h_count_with.fn.kp A.h_count_with.bi pass0 (qa_cons (po_v (pv 1)) (qa_cons (po_e (d_callF (ok_spans_of A (k + 5)) hr (by rfl) A.h_spans_of.gl A.h_spans_of.fn.kp A.h_spans_of.bi pass0 (qa_cons (po_v (pv 1)) (qa_cons (po_v (pv 2)) qa_nil)))) (qa_cons (po_v (pv 3)) qa_nil)))))))
theorem ok_nth_plan (A : All K mg) (k : Nat) : FnOk P w K mg base CX0 (k + 6) A.f_nth_plan A.fd_nth_plan ["size", "cells", "row", "speeds", "index"] (spP K m_nth_plan) :=
  fn_ok (N := nm_nth_plan) A.h_nth_plan.fn sc_nth_plan 11 5 rfl rfl fun cdv B outer s H hr =>
    (z_seq (z_drop (d_callF (ok_need_row A (k + 0)) hr (by rfl) A.h_need_row.gl A.h_need_row.fn.kp A.h_need_row.bi pass0 (qa_cons (po_v (pv 0)) (qa_cons (po_v (pv 1)) (qa_cons (po_v (pv 2)) qa_nil)))))
    (z_seq (z_drop (d_callF (ok_need_speeds A (k + 3)) hr (by rfl) A.h_need_speeds.gl A.h_need_speeds.fn.kp A.h_need_speeds.bi pass0 (qa_cons (po_v (pv 3)) qa_nil)))
    (z_seq (z_drop (d_call (ok_need_number A (k + 3)) hr (by rfl) A.h_need_number.gl A.h_need_number.fn.kp (A.h_need_number.bi 0 (by decide)).choose_spec.2 (A.h_need_number.bi 0 (by decide)).choose_spec.1 (fun _ => dfl_need_number_0 _) pass0 (qa_cons (po_v (pv 4)) qa_nil)))
    (z_seq (z_drop (d_callF (ok_check_few A (k + 4)) hr (by rfl) A.h_check_few.gl A.h_check_few.fn.kp A.h_check_few.bi pass0 (qa_cons (po_v (pv 1)) (qa_cons (po_v (pv 2)) qa_nil))))
    (z_seq (z_set (i := 5) sc_nth_plan.nd rfl (.inl rfl) (d_callF (ok_spans_of A (k + 4)) hr (by rfl) A.h_spans_of.gl A.h_spans_of.fn.kp A.h_spans_of.bi pass0 (qa_cons (po_v (pv 1)) (qa_cons (po_v (pv 2)) qa_nil))))
    (z_seq (z_drop (d_call (ok_need_number A (k + 3)) hr (by rfl) A.h_need_number.gl A.h_need_number.fn.kp (A.h_need_number.bi 2 (by decide)).choose_spec.2 (A.h_need_number.bi 2 (by decide)).choose_spec.1 (fun _ => dfl_need_number_2 _) pass0 (qa_cons (po_v (pv 4)) (qa_cons (po_e d_int) (qa_cons (po_e (d_bin ov_sub (po_e (d_callF (ok_count_with A (k + 2)) hr (by rfl) A.h_count_with.gl A.h_count_with.fn.kp A.h_count_with.bi pass0 (qa_cons (po_v (pv 1)) (qa_cons (po_v (pv 5)) (qa_cons (po_v (pv 3)) qa_nil))))) (po_e d_int))) qa_nil)))))
    (z_seq (z_for PassesOwn.never (by rfl) (w_rg1 (by rfl) A.z_range (ql_cons (d_callB cv_len (by rfl) A.z_len (by first | rfl | decide +kernel) (qa_cons (po_v (pv 1)) qa_nil)) ql_nil)) (g_name (i := 6) sc_nth_plan.nd rfl (.inl rfl))
    (z_seq (z_unp (d_sh (d_ixA (hu_of hr) (po_v (pv 5)) (po_v (pv 6)))) (g_tup (by rfl) (gs_cons (g_name (i := 7) sc_nth_plan.nd rfl (.inl rfl)) (gs_cons (g_name (i := 8) sc_nth_plan.nd rfl (.inl rfl)) gs_nil))))
    (z_one (z_for PassesOwn.never (by rfl) (w_rg2 (by rfl) A.z_range (ql_cons (pe_v (pv 7)) (ql_cons (d_bin ov_add (po_v (pv 8)) (po_e d_int)) ql_nil))) (g_name (i := 9) sc_nth_plan.nd rfl (.inl rfl))
    (z_seq (z_alt (z_stL (k' := 0) (pv 5) (pe_v (pv 6)) (d_tup (ql_cons (pe_v (pv 9)) (ql_cons (pe_v (pv 9)) ql_nil)))) (z_stD (hu_of hr) (pv 5) (d_sh (pe_v (pv 6))) (d_tup (ql_cons (pe_v (pv 9)) (ql_cons (pe_v (pv 9)) ql_nil)))))
    (z_seq (z_set (i := 10) sc_nth_plan.nd rfl (.inl rfl) (d_callF (ok_count_with A (k + 2)) hr (by rfl) A.h_count_with.gl A.h_count_with.fn.kp A.h_count_with.bi pass0 (qa_cons (po_v (pv 1)) (qa_cons (po_v (pv 5)) (qa_cons (po_v (pv 3)) qa_nil)))))
    (z_seq (z_if (y_cmp (ov_lt hr.units) (po_v (pv 4)) (po_v (pv 10)) (by rfl))
    (z_one z_brk)
    z_nil)
    (z_one (z_aug (i := 4) sc_nth_plan.nd rfl (.inl rfl) (po_v (pv 10)) oi_sub)))))))))
    (z_one (z_ret (d_lc (by rfl) sc_nth_plan.nd (c_v (pv 5)) (blkOk_by (own := [((PySem.Str.ofString "first"), 7), ((PySem.Str.ofString "last"), 8)]) (N := nm_nth_plan) (sc := (defScope s_nth_plan)) (scope := bs_nth_plan_0) (by decide +kernel)) rfl (fun _ _ _ _ _ => (g_tup (by rfl) (gs_cons (g_name (i := 7) sc_nth_plan.nd rfl (.inl rfl)) (gs_cons (g_name (i := 8) sc_nth_plan.nd rfl (.inl rfl)) gs_nil)))) (fun _ _ _ _ _ => t_nil) (fun _ _ _ _ _ => (pe_v (pv 7)))))))))))))
theorem ok__law_source (A : All K mg) (k : Nat) : FnOk P w K mg base CX0 (k + 1) A.f__law_source A.fd__law_source ["cell", "k"] (spP K m__law_source) :=
  fn_ok (N := nm__law_source) A.h__law_source.fn sc__law_source 3 2 rfl rfl fun cdv B outer s H hr =>
    (z_seq (z_set (i := 2) sc__law_source.nd rfl (.inl rfl) (d_callB cv_abs (by rfl) A.z_abs (by first | rfl | decide +kernel) (qa_cons (po_v (pv 0)) qa_nil)))
    (z_one (z_ret (d_lst (ql_cons (d_callB (cv_max2 (by rfl)) (by rfl) A.z_max (by first | rfl | decide +kernel) (qa_cons (po_e d_int) (qa_cons (po_e (d_bin ov_sub (po_v (pv 2)) (po_e (d_bin ov_pow (po_e d_int) (po_e d_int))))) qa_nil))) (ql_cons (d_bin ov_add (po_e (d_bin ov_add (po_e (d_bin ov_mul (po_e (d_bin ov_mod (po_e (d_callT cv_int (by rfl) A.z_int (by first | rfl | decide +kernel) (qa_cons (po_v (pv 2)) qa_nil))) (po_e (d_bin ov_add (po_e (d_bin ov_pow (po_e d_int) (po_e d_int))) (po_e d_int))))) (po_e d_int))) (po_e (d_bin ov_mul (po_e d_int) (po_v (pv 1)))))) (po_e (d_callT cv_int (by rfl) A.z_int (by first | rfl | decide +kernel) (qa_cons (po_e (d_cmp (ov_lt hr.units) (po_v (pv 0)) (po_e d_int) (by rfl))) qa_nil)))) (ql_cons d_int ql_nil)))))))
theorem ok__law_draw (A : All K mg) (k : Nat) : FnOk P w K mg base CX0 (k + 1) A.f__law_draw A.fd__law_draw ["source", "count"] (spI K m__law_draw) :=
  fnI_ok (N := nm__law_draw) A.h__law_draw.fn sc__law_draw 4 2 rfl rfl fun cdv B outer s H hr =>
    (z_seq (z_if (y_cmp (ov_gt hr.units) (po_e (d_ixA (hu_of hr) (po_v (pv 0)) (po_e d_int))) (po_e d_int) (by rfl))
    (z_seq (z_set (i := 2) sc__law_draw.nd rfl (.inl rfl) (d_bin ov_mod (po_e (d_callT cv_int (by rfl) A.z_int (by first | rfl | decide +kernel) (qa_cons (po_e (d_ixA (hu_of hr) (po_v (pv 0)) (po_e d_int))) qa_nil))) (po_v (pv 1))))
    (z_seq (z_alt (z_stL (k' := 0) (pv 0) d_int (d_bin ov_div (po_e (d_ixA (hu_of hr) (po_v (pv 0)) (po_e d_int))) (po_v (pv 1)))) (z_stD (hu_of hr) (pv 0) (d_sh d_int) (d_bin ov_div (po_e (d_ixA (hu_of hr) (po_v (pv 0)) (po_e d_int))) (po_v (pv 1)))))
    (z_one (z_ret (pe_mv (pv 2))))))
    z_nil)
    (z_seq (z_alt (z_stL (k' := 0) (pv 0) d_int (d_bin ov_add (po_e (d_ixA (hu_of hr) (po_v (pv 0)) (po_e d_int))) (po_e d_int))) (z_stD (hu_of hr) (pv 0) (d_sh d_int) (d_bin ov_add (po_e (d_ixA (hu_of hr) (po_v (pv 0)) (po_e d_int))) (po_e d_int))))
    (z_seq (z_set (i := 3) sc__law_draw.nd rfl (.inl rfl) (d_bin ov_mod (po_e (d_callT cv_int (by rfl) A.z_int (by first | rfl | decide +kernel) (qa_cons (po_e (d_bin ov_pow (po_e (d_bin ov_add (po_e (d_ixA (hu_of hr) (po_v (pv 0)) (po_e d_int))) (po_e (d_bin ov_mul (po_e d_int) (po_e (d_ixA (hu_of hr) (po_v (pv 0)) (po_e d_int))))))) (po_e d_int))) qa_nil))) (po_e (d_bin ov_add (po_e (d_bin ov_pow (po_e d_int) (po_e d_int))) (po_e d_int)))))
    (z_seq (z_set (i := 3) sc__law_draw.nd rfl (.inl rfl) (d_bin ov_mod (po_e (d_callT cv_int (by rfl) A.z_int (by first | rfl | decide +kernel) (qa_cons (po_e (d_bin ov_pow (po_e (d_bin ov_add (po_e (d_bin ov_mul (po_v (pv 3)) (po_e (d_ixA (hu_of hr) (po_v (pv 0)) (po_e d_int))))) (po_e d_int))) (po_e d_int))) qa_nil))) (po_e (d_bin ov_add (po_e (d_bin ov_pow (po_e d_int) (po_e d_int))) (po_e d_int)))))
    (z_one (z_ret (d_bin ov_mod (po_e (d_callT cv_int (by rfl) A.z_int (by first | rfl | decide +kernel) (qa_cons (po_e (d_bin ov_div (po_v (pv 3)) (po_e d_int))) qa_nil))) (po_v (pv 1)))))))))
theorem ok__law_few (A : All K mg) (k : Nat) : FnOk P w K mg base CX0 (k + 2) A.f__law_few A.fd__law_few ["source", "wide", "many"] (spI K m__law_few) :=
  fnI_ok (N := nm__law_few) A.h__law_few.fn sc__law_few 8 3 rfl rfl fun cdv B outer s H hr =>
    (z_seq (z_par3 (i := 3) (j := 4) (l := 5) (by rfl) sc__law_few.nd rfl rfl rfl (by decide) (by decide) (by decide) rfl rfl rfl (qw_cons (d_lst ql_nil) (qw_cons d_int (qw_cons (d_un ov_neg (po_e d_int)) qw_nil))) (by rfl))
    (z_seq (z_set (i := 6) sc__law_few.nd rfl (.inl rfl) (d_callIF (ok__law_draw A (k + 0)) hr (by rfl) A.h__law_draw.gl A.h__law_draw.fn.kp A.h__law_draw.bi pass0 (pv 0) (qa_cons (po_v (pv 1)) qa_nil)))
    (z_seq (z_while PassesOwn.never (y_cmp (ov_lt hr.units) (po_e (d_callB cv_len (by rfl) A.z_len (by first | rfl | decide +kernel) (qa_cons (po_v (pv 3)) qa_nil))) (po_v (pv 2)) (by rfl))
    (z_seq (z_set (i := 7) sc__law_few.nd rfl (.inl rfl) (d_and (d_cmp (ov_lt hr.units) (po_v (pv 5)) (po_e (d_bin ov_sub (po_v (pv 1)) (po_e d_int))) (by rfl)) (d_one (d_cmp (ov_gt hr.units) (po_e (d_callIF (ok__law_draw A (k + 0)) hr (by rfl) A.h__law_draw.gl A.h__law_draw.fn.kp A.h__law_draw.bi pass0 (pv 0) (qa_cons (po_e d_int) qa_nil))) (po_e d_int) (by rfl)))))
    (z_seq (z_unp (d_sh (d_if (y_tru (po_v (pv 7))) (d_tup (ql_cons (pe_v (pv 4)) (ql_cons (d_bin ov_add (po_v (pv 5)) (po_e d_int)) ql_nil))) (d_tup (ql_cons (d_bin ov_add (po_e (d_bin ov_add (po_v (pv 4)) (po_e d_int))) (po_e (d_callIF (ok__law_draw A (k + 0)) hr (by rfl) A.h__law_draw.gl A.h__law_draw.fn.kp A.h__law_draw.bi pass0 (pv 0) (qa_cons (po_e d_int) qa_nil)))) (ql_cons d_int ql_nil))))) (g_tup (by rfl) (gs_cons (g_name (i := 4) sc__law_few.nd rfl (.inl rfl)) (gs_cons (g_name (i := 5) sc__law_few.nd rfl (.inl rfl)) gs_nil))))
    (z_one (z_drop (d_app (pv 3) (d_tup (ql_cons (pe_v (pv 4)) (ql_cons (pe_v (pv 5)) (ql_cons (d_ixA (hu_of hr) (po_e (d_lst (ql_cons (pe_v (pv 6)) (ql_cons (d_callIF (ok__law_draw A (k + 0)) hr (by rfl) A.h__law_draw.gl A.h__law_draw.fn.kp A.h__law_draw.bi pass0 (pv 0) (qa_cons (po_v (pv 1)) qa_nil)) ql_nil)))) (po_e (d_callIF (ok__law_draw A (k + 0)) hr (by rfl) A.h__law_draw.gl A.h__law_draw.fn.kp A.h__law_draw.bi pass0 (pv 0) (qa_cons (po_e d_int) qa_nil)))) ql_nil))))))))))
    (z_one (z_ret (pe_mv (pv 3)))))))
theorem ok__law_right (A : All K mg) (k : Nat) : FnOk P w K mg base CX0 (k + 8) A.f__law_right A.fd__law_right ["wide", "lot", "line"] (spP K m__law_right) :=
  fn_ok (N := nm__law_right) A.h__law_right.fn sc__law_right 6 3 rfl rfl fun cdv B outer s H hr =>
    (z_seq (z_for PassesOwn.never (by rfl) (w_rg2 (by rfl) A.z_range (ql_cons d_int (ql_cons d_int ql_nil))) (g_name (i := 3) sc__law_right.nd rfl (.inl rfl))
    (z_seq (z_set (i := 4) sc__law_right.nd rfl (.inl rfl) (d_tup (ql_cons (pe_v (pv 3)) (ql_cons d_int ql_nil))))
    (z_seq (z_set (i := 5) sc__law_right.nd rfl (.inl rfl) (d_cmp (ov_le hr.units) (po_e (d_callF (ok_clash_number A (k + 1)) hr (by rfl) A.h_clash_number.gl A.h_clash_number.fn.kp A.h_clash_number.bi pass0 (qa_cons (po_v (pv 0)) (qa_cons (po_v (pv 1)) (qa_cons (po_v (pv 2)) qa_nil))))) (po_v (pv 3)) (by rfl)))
    (z_seq (z_if (PW.pt (y_or (y_cmp (ov_ne hr.units) (po_e (d_callF (ok_plan_count A (k + 0)) hr (by rfl) A.h_plan_count.gl A.h_plan_count.fn.kp A.h_plan_count.bi pass0 (qa_cons (po_v (pv 0)) (qa_cons (po_v (pv 1)) (qa_cons (po_v (pv 2)) (qa_cons (po_v (pv 4)) qa_nil)))))) (po_e (d_callT cv_int (by rfl) A.z_int (by first | rfl | decide +kernel) (qa_cons (po_v (pv 5)) qa_nil))) (by rfl)) (y_or1 (y_cmp (ov_ne hr.units) (po_e (d_callF (ok_has_plan A (k + 0)) hr (by rfl) A.h_has_plan.gl A.h_has_plan.fn.kp A.h_has_plan.bi pass0 (qa_cons (po_v (pv 0)) (qa_cons (po_v (pv 1)) (qa_cons (po_v (pv 2)) (qa_cons (po_v (pv 4)) qa_nil)))))) (po_v (pv 5)) (by rfl)))))
    (z_one (z_ret d_bl))
    z_nil)
    (z_seq (z_if (y_cmp (ov_ne hr.units) (po_e (d_callF (ok_plan_by_leaving A (k + 0)) hr (by rfl) A.h_plan_by_leaving.gl A.h_plan_by_leaving.fn.kp A.h_plan_by_leaving.bi pass0 (qa_cons (po_v (pv 0)) (qa_cons (po_v (pv 1)) (qa_cons (po_v (pv 2)) (qa_cons (po_v (pv 3)) qa_nil)))))) (po_e (d_if (y_tru (po_v (pv 5))) (pe_v (pv 2)) d_non)) (by rfl))
    (z_one (z_ret d_bl))
    z_nil)
    (z_seq (z_if (PW.pt (y_and (y_tru (po_v (pv 5))) (y_and1 (y_cmp (ov_ne hr.units) (po_e (d_callF (ok_nth_plan A (k + 1)) hr (by rfl) A.h_nth_plan.gl A.h_nth_plan.fn.kp A.h_nth_plan.bi pass0 (qa_cons (po_v (pv 0)) (qa_cons (po_v (pv 1)) (qa_cons (po_v (pv 2)) (qa_cons (po_v (pv 4)) (qa_cons (po_e d_int) qa_nil))))))) (po_v (pv 2)) (by rfl)))))
    (z_one (z_ret d_bl))
    z_nil)
    (z_one (z_if (y_cmp (ov_lt hr.units) (po_e (d_callF (ok_plan_count A (k + 0)) hr (by rfl) A.h_plan_count.gl A.h_plan_count.fn.kp A.h_plan_count.bi pass0 (qa_cons (po_v (pv 0)) (qa_cons (po_v (pv 1)) (qa_cons (po_v (pv 2)) (qa_cons (po_e (d_tup (ql_cons (pe_v (pv 3)) (ql_cons d_int ql_nil)))) qa_nil)))))) (po_e (d_callT cv_int (by rfl) A.z_int (by first | rfl | decide +kernel) (qa_cons (po_v (pv 5)) qa_nil))) (by rfl))
    (z_one (z_ret d_bl))
    z_nil))))))))
    (z_one (z_ret (d_cmp (ov_eq hr.units) (po_e (d_cmp (ov_eq hr.units) (po_e (d_callF (ok_clashes A (k + 1)) hr (by rfl) A.h_clashes.gl A.h_clashes.fn.kp A.h_clashes.bi pass0 (qa_cons (po_v (pv 0)) (qa_cons (po_v (pv 1)) (qa_cons (po_v (pv 2)) qa_nil))))) (po_e (d_lst ql_nil)) (by rfl))) (po_e (d_callF (ok_has_plan A (k + 0)) hr (by rfl) A.h_has_plan.gl A.h_has_plan.fn.kp A.h_has_plan.bi pass0 (qa_cons (po_v (pv 0)) (qa_cons (po_v (pv 1)) (qa_cons (po_v (pv 2)) (qa_cons (po_e (d_tup (ql_cons d_int (ql_cons d_int ql_nil)))) qa_nil)))))) (by rfl)))))
theorem ok_law (A : All K mg) (k : Nat) : FnOk P w K mg base CX0 (k + 9) A.f_law A.fd_law ["script"] (spP K m_law) :=
  fn_ok (N := nm_law) A.h_law.fn sc_law 7 1 rfl rfl fun cdv B outer s H hr =>
    (z_seq (z_for PassesOwn.never (by rfl) (w_en (by rfl) A.z_enumerate (ql_cons (d_sl (po_e (d_bin ov_add (po_v (pv 0)) (po_e (d_lst (ql_cons d_int ql_nil))))) p_no (p_ex (d_callB (cv_max2 (by rfl)) (by rfl) A.z_max (by first | rfl | decide +kernel) (qa_cons (po_e d_int) (qa_cons (po_e (d_callB (cv_min2 (by rfl)) (by rfl) A.z_min (by first | rfl | decide +kernel) (qa_cons (po_e (d_callB cv_len (by rfl) A.z_len (by first | rfl | decide +kernel) (qa_cons (po_v (pv 0)) qa_nil))) (qa_cons (po_e d_int) qa_nil)))) qa_nil))))) ql_nil)) (g_tup (by rfl) (gs_cons (g_name (i := 1) sc_law.nd rfl (.inl rfl)) (gs_cons (g_name (i := 2) sc_law.nd rfl (.inl rfl)) gs_nil)))
    (z_seq (z_set (i := 3) sc_law.nd rfl (.inl rfl) (d_callF (ok__law_source A (k + 7)) hr (by rfl) A.h__law_source.gl A.h__law_source.fn.kp A.h__law_source.bi pass0 (qa_cons (po_v (pv 2)) (qa_cons (po_v (pv 1)) qa_nil))))
    (z_seq (z_set (i := 4) sc_law.nd rfl (.inl rfl) (d_bin ov_add (po_e d_int) (po_e (d_callIF (ok__law_draw A (k + 7)) hr (by rfl) A.h__law_draw.gl A.h__law_draw.fn.kp A.h__law_draw.bi pass0 (pv 3) (qa_cons (po_e d_int) qa_nil)))))
    (z_seq (z_set (i := 5) sc_law.nd rfl (.inl rfl) (d_callIF (ok__law_few A (k + 6)) hr (by rfl) A.h__law_few.gl A.h__law_few.fn.kp A.h__law_few.bi pass0 (pv 3) (qa_cons (po_v (pv 4)) (qa_cons (po_e (d_callIF (ok__law_draw A (k + 7)) hr (by rfl) A.h__law_draw.gl A.h__law_draw.fn.kp A.h__law_draw.bi pass0 (pv 3) (qa_cons (po_e (d_ixA (hu_of hr) (po_e (d_lst (ql_cons d_int (ql_cons d_int ql_nil)))) (po_e (d_callT cv_int (by rfl) A.z_int (by first | rfl | decide +kernel) (qa_cons (po_e (d_cmp (ov_ne hr.units) (po_v (pv 0)) (po_e (d_lst ql_nil)) (by rfl))) qa_nil))))) qa_nil))) qa_nil))))
    (z_one (z_for PassesOwn.never (by rfl) (w_rg1 (by rfl) A.z_range (ql_cons d_int ql_nil)) (g_name (i := 6) sc_law.nd rfl (.inl rfl))
    (z_one (z_if (y_not (y_tru (po_e (d_callF (ok__law_right A (k + 0)) hr (by rfl) A.h__law_right.gl A.h__law_right.fn.kp A.h__law_right.bi pass0 (qa_cons (po_v (pv 4)) (qa_cons (po_v (pv 5)) (qa_cons (po_e (d_callF (ok_nth_busy A (k + 3)) hr (by rfl) A.h_nth_busy.gl A.h_nth_busy.fn.kp A.h_nth_busy.bi pass0 (qa_cons (po_v (pv 4)) (qa_cons (po_v (pv 5)) (qa_cons (po_e (d_callIF (ok__law_draw A (k + 7)) hr (by rfl) A.h__law_draw.gl A.h__law_draw.fn.kp A.h__law_draw.bi pass0 (pv 3) (qa_cons (po_e (d_callF (ok_busy_count A (k + 3)) hr (by rfl) A.h_busy_count.gl A.h_busy_count.fn.kp A.h_busy_count.bi pass0 (qa_cons (po_v (pv 4)) (qa_cons (po_v (pv 5)) qa_nil)))) qa_nil))) qa_nil))))) qa_nil)))))))
    (z_one (z_ret d_bl))
    z_nil))))))))
    (z_one (z_ret d_bl)))
end
end Gn
set_option maxHeartbeats 0
namespace Gn
open PySem PySem.Spec PyProof.Rows L2 Dd
theorem has_is_integer {K : PySem.W.Frag} {h : Heap} {mg : Str → Option Value} {f T : Addr} {od an Td : Option Addr} {sl Ts : Array (Option Value)} {oc kV dc pm cd ct To : Value} {Tn : Nat} {Ti : Array Value} (a : PySem.W.nsIn K mainGlobals "is_integer" = some (some (.ref f))) (l : K.lookup f = some ⟨oc, od, .func (PySem.W.fnOf "is_integer" "is_integer" (defArgs s_is_integer) (defBody s_is_integer) (defScope s_is_integer) (.ref T) kV dc pm an cd ct), sl⟩) (c : PySem.W.codeIn K cd "is_integer" = true) (k : PySem.W.keepIn K (.ref f) = true)
    (lT : K.lookup T = some ⟨To, Td, .seq Ti Tn, Ts⟩) (vT : Vals [V.non, V.non] Ti.toList) (X : K.In h) (G : h.Ns mainGlobals mg) : HasD K mg "is_integer" s_is_integer ["value", "low", "high"] [V.non, V.non] f (PySem.W.fnOf "is_integer" "is_integer" (defArgs s_is_integer) (defBody s_is_integer) (defScope s_is_integer) (.ref T) kV dc pm an cd ct) := by
  have F : FunD K "is_integer" "is_integer" (defArgs s_is_integer) (defBody s_is_integer) (defScope s_is_integer) [V.non, V.non] [] f _ := ⟨⟨oc, od, .ref T, kV, dc, pm, an, cd, ct, sl, rfl, l, c, .inr ⟨by decide, T, _, Ti.toList, Tn, rfl, lT, by rw [Array.toArray_toList], vT⟩, .inl rfl⟩, k⟩
  refine ⟨F, PySem.W.mg_of X G a, fun j hj => ?_⟩
  rcases (show j = 0 ∨ j = 1 ∨ j = 2 by simp at hj; omega) with rfl | rfl | rfl
  · exact F.binds1 1 0 (by decide) rfl fun _ _ _ _ _ _ _ us its hu hi => match us, hu, its, hi with | [_], _, [_, _], _ => ⟨_, rfl, rfl⟩
  · exact F.binds1 2 1 (by decide) rfl fun _ _ _ _ _ _ _ us its hu hi => match us, hu, its, hi with | [_, _], _, [_, _], _ => ⟨_, rfl, rfl⟩
  · exact F.binds1 3 2 (by decide) rfl fun _ _ _ _ _ _ _ us its hu hi => match us, hu, its, hi with | [_, _, _], _, [_, _], _ => ⟨_, rfl, rfl⟩
theorem has_need_number {K : PySem.W.Frag} {h : Heap} {mg : Str → Option Value} {f T : Addr} {od an Td : Option Addr} {sl Ts : Array (Option Value)} {oc kV dc pm cd ct To : Value} {Tn : Nat} {Ti : Array Value} (a : PySem.W.nsIn K mainGlobals "need_number" = some (some (.ref f))) (l : K.lookup f = some ⟨oc, od, .func (PySem.W.fnOf "need_number" "need_number" (defArgs s_need_number) (defBody s_need_number) (defScope s_need_number) (.ref T) kV dc pm an cd ct), sl⟩) (c : PySem.W.codeIn K cd "need_number" = true) (k : PySem.W.keepIn K (.ref f) = true)
    (lT : K.lookup T = some ⟨To, Td, .seq Ti Tn, Ts⟩) (vT : Vals [V.int 0, V.non] Ti.toList) (X : K.In h) (G : h.Ns mainGlobals mg) : HasD K mg "need_number" s_need_number ["number", "low", "high"] [V.int 0, V.non] f (PySem.W.fnOf "need_number" "need_number" (defArgs s_need_number) (defBody s_need_number) (defScope s_need_number) (.ref T) kV dc pm an cd ct) := by
  have F : FunD K "need_number" "need_number" (defArgs s_need_number) (defBody s_need_number) (defScope s_need_number) [V.int 0, V.non] [] f _ := ⟨⟨oc, od, .ref T, kV, dc, pm, an, cd, ct, sl, rfl, l, c, .inr ⟨by decide, T, _, Ti.toList, Tn, rfl, lT, by rw [Array.toArray_toList], vT⟩, .inl rfl⟩, k⟩
  refine ⟨F, PySem.W.mg_of X G a, fun j hj => ?_⟩
  rcases (show j = 0 ∨ j = 1 ∨ j = 2 by simp at hj; omega) with rfl | rfl | rfl
  · exact F.binds1 1 0 (by decide) rfl fun _ _ _ _ _ _ _ us its hu hi => match us, hu, its, hi with | [_], _, [_, _], _ => ⟨_, rfl, rfl⟩
  · exact F.binds1 2 1 (by decide) rfl fun _ _ _ _ _ _ _ us its hu hi => match us, hu, its, hi with | [_, _], _, [_, _], _ => ⟨_, rfl, rfl⟩
  · exact F.binds1 3 2 (by decide) rfl fun _ _ _ _ _ _ _ us its hu hi => match us, hu, its, hi with | [_, _, _], _, [_, _], _ => ⟨_, rfl, rfl⟩
theorem all_mk {w : World} {K : PySem.W.Frag} {h : Heap} {mg : Str → Option Value} {P : Program} {fa : Addr} (X : K.In h) (G : h.Ns mainGlobals mg) (hfa : mg "law" = some (.ref fa))
    {f_is_integer : Addr} {od_is_integer an_is_integer : Option Addr} {sl_is_integer : Array (Option Value)} {oc_is_integer kV_is_integer dc_is_integer pm_is_integer cd_is_integer ct_is_integer : Value}
    {T_is_integer : Addr} {To_is_integer : Value} {Td_is_integer : Option Addr} {Tn_is_integer : Nat} {Ts_is_integer : Array (Option Value)} {Ti_is_integer : Array Value}
    (a_is_integer : PySem.W.nsIn K mainGlobals "is_integer" = some (some (.ref f_is_integer))) (l_is_integer : K.lookup f_is_integer = some ⟨oc_is_integer, od_is_integer, .func (PySem.W.fnOf "is_integer" "is_integer" (defArgs s_is_integer) (defBody s_is_integer) (defScope s_is_integer) (.ref T_is_integer) kV_is_integer dc_is_integer pm_is_integer an_is_integer cd_is_integer ct_is_integer), sl_is_integer⟩) (c_is_integer : PySem.W.codeIn K cd_is_integer "is_integer" = true) (k_is_integer : PySem.W.keepIn K (.ref f_is_integer) = true)
    (lT_is_integer : K.lookup T_is_integer = some ⟨To_is_integer, Td_is_integer, .seq Ti_is_integer Tn_is_integer, Ts_is_integer⟩)
    (vT_is_integer : Vals [V.non, V.non] Ti_is_integer.toList)
    {f_need_size : Addr} {od_need_size an_need_size : Option Addr} {sl_need_size : Array (Option Value)} {oc_need_size kV_need_size dc_need_size pm_need_size cd_need_size ct_need_size : Value}
    (a_need_size : PySem.W.nsIn K mainGlobals "need_size" = some (some (.ref f_need_size))) (l_need_size : K.lookup f_need_size = some ⟨oc_need_size, od_need_size, .func (PySem.W.fnOf "need_size" "need_size" (defArgs s_need_size) (defBody s_need_size) (defScope s_need_size) .none kV_need_size dc_need_size pm_need_size an_need_size cd_need_size ct_need_size), sl_need_size⟩) (c_need_size : PySem.W.codeIn K cd_need_size "need_size" = true) (k_need_size : PySem.W.keepIn K (.ref f_need_size) = true)
    {f_is_cell : Addr} {od_is_cell an_is_cell : Option Addr} {sl_is_cell : Array (Option Value)} {oc_is_cell kV_is_cell dc_is_cell pm_is_cell cd_is_cell ct_is_cell : Value}
    (a_is_cell : PySem.W.nsIn K mainGlobals "is_cell" = some (some (.ref f_is_cell))) (l_is_cell : K.lookup f_is_cell = some ⟨oc_is_cell, od_is_cell, .func (PySem.W.fnOf "is_cell" "is_cell" (defArgs s_is_cell) (defBody s_is_cell) (defScope s_is_cell) .none kV_is_cell dc_is_cell pm_is_cell an_is_cell cd_is_cell ct_is_cell), sl_is_cell⟩) (c_is_cell : PySem.W.codeIn K cd_is_cell "is_cell" = true) (k_is_cell : PySem.W.keepIn K (.ref f_is_cell) = true)
    {f_cells_fault : Addr} {od_cells_fault an_cells_fault : Option Addr} {sl_cells_fault : Array (Option Value)} {oc_cells_fault kV_cells_fault dc_cells_fault pm_cells_fault cd_cells_fault ct_cells_fault : Value}
    (a_cells_fault : PySem.W.nsIn K mainGlobals "cells_fault" = some (some (.ref f_cells_fault))) (l_cells_fault : K.lookup f_cells_fault = some ⟨oc_cells_fault, od_cells_fault, .func (PySem.W.fnOf "cells_fault" "cells_fault" (defArgs s_cells_fault) (defBody s_cells_fault) (defScope s_cells_fault) .none kV_cells_fault dc_cells_fault pm_cells_fault an_cells_fault cd_cells_fault ct_cells_fault), sl_cells_fault⟩) (c_cells_fault : PySem.W.codeIn K cd_cells_fault "cells_fault" = true) (k_cells_fault : PySem.W.keepIn K (.ref f_cells_fault) = true)
    {f_need_cells : Addr} {od_need_cells an_need_cells : Option Addr} {sl_need_cells : Array (Option Value)} {oc_need_cells kV_need_cells dc_need_cells pm_need_cells cd_need_cells ct_need_cells : Value}
    (a_need_cells : PySem.W.nsIn K mainGlobals "need_cells" = some (some (.ref f_need_cells))) (l_need_cells : K.lookup f_need_cells = some ⟨oc_need_cells, od_need_cells, .func (PySem.W.fnOf "need_cells" "need_cells" (defArgs s_need_cells) (defBody s_need_cells) (defScope s_need_cells) .none kV_need_cells dc_need_cells pm_need_cells an_need_cells cd_need_cells ct_need_cells), sl_need_cells⟩) (c_need_cells : PySem.W.codeIn K cd_need_cells "need_cells" = true) (k_need_cells : PySem.W.keepIn K (.ref f_need_cells) = true)
    {f_row_fault : Addr} {od_row_fault an_row_fault : Option Addr} {sl_row_fault : Array (Option Value)} {oc_row_fault kV_row_fault dc_row_fault pm_row_fault cd_row_fault ct_row_fault : Value}
    (a_row_fault : PySem.W.nsIn K mainGlobals "row_fault" = some (some (.ref f_row_fault))) (l_row_fault : K.lookup f_row_fault = some ⟨oc_row_fault, od_row_fault, .func (PySem.W.fnOf "row_fault" "row_fault" (defArgs s_row_fault) (defBody s_row_fault) (defScope s_row_fault) .none kV_row_fault dc_row_fault pm_row_fault an_row_fault cd_row_fault ct_row_fault), sl_row_fault⟩) (c_row_fault : PySem.W.codeIn K cd_row_fault "row_fault" = true) (k_row_fault : PySem.W.keepIn K (.ref f_row_fault) = true)
    {f_need_row : Addr} {od_need_row an_need_row : Option Addr} {sl_need_row : Array (Option Value)} {oc_need_row kV_need_row dc_need_row pm_need_row cd_need_row ct_need_row : Value}
    (a_need_row : PySem.W.nsIn K mainGlobals "need_row" = some (some (.ref f_need_row))) (l_need_row : K.lookup f_need_row = some ⟨oc_need_row, od_need_row, .func (PySem.W.fnOf "need_row" "need_row" (defArgs s_need_row) (defBody s_need_row) (defScope s_need_row) .none kV_need_row dc_need_row pm_need_row an_need_row cd_need_row ct_need_row), sl_need_row⟩) (c_need_row : PySem.W.codeIn K cd_need_row "need_row" = true) (k_need_row : PySem.W.keepIn K (.ref f_need_row) = true)
    {f_need_number : Addr} {od_need_number an_need_number : Option Addr} {sl_need_number : Array (Option Value)} {oc_need_number kV_need_number dc_need_number pm_need_number cd_need_number ct_need_number : Value}
    {T_need_number : Addr} {To_need_number : Value} {Td_need_number : Option Addr} {Tn_need_number : Nat} {Ts_need_number : Array (Option Value)} {Ti_need_number : Array Value}
    (a_need_number : PySem.W.nsIn K mainGlobals "need_number" = some (some (.ref f_need_number))) (l_need_number : K.lookup f_need_number = some ⟨oc_need_number, od_need_number, .func (PySem.W.fnOf "need_number" "need_number" (defArgs s_need_number) (defBody s_need_number) (defScope s_need_number) (.ref T_need_number) kV_need_number dc_need_number pm_need_number an_need_number cd_need_number ct_need_number), sl_need_number⟩) (c_need_number : PySem.W.codeIn K cd_need_number "need_number" = true) (k_need_number : PySem.W.keepIn K (.ref f_need_number) = true)
    (lT_need_number : K.lookup T_need_number = some ⟨To_need_number, Td_need_number, .seq Ti_need_number Tn_need_number, Ts_need_number⟩)
    (vT_need_number : Vals [V.int 0, V.non] Ti_need_number.toList)
    {f_cells_to : Addr} {od_cells_to an_cells_to : Option Addr} {sl_cells_to : Array (Option Value)} {oc_cells_to kV_cells_to dc_cells_to pm_cells_to cd_cells_to ct_cells_to : Value}
    (a_cells_to : PySem.W.nsIn K mainGlobals "cells_to" = some (some (.ref f_cells_to))) (l_cells_to : K.lookup f_cells_to = some ⟨oc_cells_to, od_cells_to, .func (PySem.W.fnOf "cells_to" "cells_to" (defArgs s_cells_to) (defBody s_cells_to) (defScope s_cells_to) .none kV_cells_to dc_cells_to pm_cells_to an_cells_to cd_cells_to ct_cells_to), sl_cells_to⟩) (c_cells_to : PySem.W.codeIn K cd_cells_to "cells_to" = true) (k_cells_to : PySem.W.keepIn K (.ref f_cells_to) = true)
    {f_sending_slots : Addr} {od_sending_slots an_sending_slots : Option Addr} {sl_sending_slots : Array (Option Value)} {oc_sending_slots kV_sending_slots dc_sending_slots pm_sending_slots cd_sending_slots ct_sending_slots : Value}
    (a_sending_slots : PySem.W.nsIn K mainGlobals "sending_slots" = some (some (.ref f_sending_slots))) (l_sending_slots : K.lookup f_sending_slots = some ⟨oc_sending_slots, od_sending_slots, .func (PySem.W.fnOf "sending_slots" "sending_slots" (defArgs s_sending_slots) (defBody s_sending_slots) (defScope s_sending_slots) .none kV_sending_slots dc_sending_slots pm_sending_slots an_sending_slots cd_sending_slots ct_sending_slots), sl_sending_slots⟩) (c_sending_slots : PySem.W.codeIn K cd_sending_slots "sending_slots" = true) (k_sending_slots : PySem.W.keepIn K (.ref f_sending_slots) = true)
    {f_outlets_of : Addr} {od_outlets_of an_outlets_of : Option Addr} {sl_outlets_of : Array (Option Value)} {oc_outlets_of kV_outlets_of dc_outlets_of pm_outlets_of cd_outlets_of ct_outlets_of : Value}
    (a_outlets_of : PySem.W.nsIn K mainGlobals "outlets_of" = some (some (.ref f_outlets_of))) (l_outlets_of : K.lookup f_outlets_of = some ⟨oc_outlets_of, od_outlets_of, .func (PySem.W.fnOf "outlets_of" "outlets_of" (defArgs s_outlets_of) (defBody s_outlets_of) (defScope s_outlets_of) .none kV_outlets_of dc_outlets_of pm_outlets_of an_outlets_of cd_outlets_of ct_outlets_of), sl_outlets_of⟩) (c_outlets_of : PySem.W.codeIn K cd_outlets_of "outlets_of" = true) (k_outlets_of : PySem.W.keepIn K (.ref f_outlets_of) = true)
    {f_is_busy_row : Addr} {od_is_busy_row an_is_busy_row : Option Addr} {sl_is_busy_row : Array (Option Value)} {oc_is_busy_row kV_is_busy_row dc_is_busy_row pm_is_busy_row cd_is_busy_row ct_is_busy_row : Value}
    (a_is_busy_row : PySem.W.nsIn K mainGlobals "is_busy_row" = some (some (.ref f_is_busy_row))) (l_is_busy_row : K.lookup f_is_busy_row = some ⟨oc_is_busy_row, od_is_busy_row, .func (PySem.W.fnOf "is_busy_row" "is_busy_row" (defArgs s_is_busy_row) (defBody s_is_busy_row) (defScope s_is_busy_row) .none kV_is_busy_row dc_is_busy_row pm_is_busy_row an_is_busy_row cd_is_busy_row ct_is_busy_row), sl_is_busy_row⟩) (c_is_busy_row : PySem.W.codeIn K cd_is_busy_row "is_busy_row" = true) (k_is_busy_row : PySem.W.keepIn K (.ref f_is_busy_row) = true)
    {f_need_busy : Addr} {od_need_busy an_need_busy : Option Addr} {sl_need_busy : Array (Option Value)} {oc_need_busy kV_need_busy dc_need_busy pm_need_busy cd_need_busy ct_need_busy : Value}
    (a_need_busy : PySem.W.nsIn K mainGlobals "need_busy" = some (some (.ref f_need_busy))) (l_need_busy : K.lookup f_need_busy = some ⟨oc_need_busy, od_need_busy, .func (PySem.W.fnOf "need_busy" "need_busy" (defArgs s_need_busy) (defBody s_need_busy) (defScope s_need_busy) .none kV_need_busy dc_need_busy pm_need_busy an_need_busy cd_need_busy ct_need_busy), sl_need_busy⟩) (c_need_busy : PySem.W.codeIn K cd_need_busy "need_busy" = true) (k_need_busy : PySem.W.keepIn K (.ref f_need_busy) = true)
    {f_choices_of : Addr} {od_choices_of an_choices_of : Option Addr} {sl_choices_of : Array (Option Value)} {oc_choices_of kV_choices_of dc_choices_of pm_choices_of cd_choices_of ct_choices_of : Value}
    (a_choices_of : PySem.W.nsIn K mainGlobals "choices_of" = some (some (.ref f_choices_of))) (l_choices_of : K.lookup f_choices_of = some ⟨oc_choices_of, od_choices_of, .func (PySem.W.fnOf "choices_of" "choices_of" (defArgs s_choices_of) (defBody s_choices_of) (defScope s_choices_of) .none kV_choices_of dc_choices_of pm_choices_of an_choices_of cd_choices_of ct_choices_of), sl_choices_of⟩) (c_choices_of : PySem.W.codeIn K cd_choices_of "choices_of" = true) (k_choices_of : PySem.W.keepIn K (.ref f_choices_of) = true)
    {f_product_of : Addr} {od_product_of an_product_of : Option Addr} {sl_product_of : Array (Option Value)} {oc_product_of kV_product_of dc_product_of pm_product_of cd_product_of ct_product_of : Value}
    (a_product_of : PySem.W.nsIn K mainGlobals "product_of" = some (some (.ref f_product_of))) (l_product_of : K.lookup f_product_of = some ⟨oc_product_of, od_product_of, .func (PySem.W.fnOf "product_of" "product_of" (defArgs s_product_of) (defBody s_product_of) (defScope s_product_of) .none kV_product_of dc_product_of pm_product_of an_product_of cd_product_of ct_product_of), sl_product_of⟩) (c_product_of : PySem.W.codeIn K cd_product_of "product_of" = true) (k_product_of : PySem.W.keepIn K (.ref f_product_of) = true)
    {f_row_with : Addr} {od_row_with an_row_with : Option Addr} {sl_row_with : Array (Option Value)} {oc_row_with kV_row_with dc_row_with pm_row_with cd_row_with ct_row_with : Value}
    (a_row_with : PySem.W.nsIn K mainGlobals "row_with" = some (some (.ref f_row_with))) (l_row_with : K.lookup f_row_with = some ⟨oc_row_with, od_row_with, .func (PySem.W.fnOf "row_with" "row_with" (defArgs s_row_with) (defBody s_row_with) (defScope s_row_with) .none kV_row_with dc_row_with pm_row_with an_row_with cd_row_with ct_row_with), sl_row_with⟩) (c_row_with : PySem.W.codeIn K cd_row_with "row_with" = true) (k_row_with : PySem.W.keepIn K (.ref f_row_with) = true)
    {f_own_slots : Addr} {od_own_slots an_own_slots : Option Addr} {sl_own_slots : Array (Option Value)} {oc_own_slots kV_own_slots dc_own_slots pm_own_slots cd_own_slots ct_own_slots : Value}
    (a_own_slots : PySem.W.nsIn K mainGlobals "own_slots" = some (some (.ref f_own_slots))) (l_own_slots : K.lookup f_own_slots = some ⟨oc_own_slots, od_own_slots, .func (PySem.W.fnOf "own_slots" "own_slots" (defArgs s_own_slots) (defBody s_own_slots) (defScope s_own_slots) .none kV_own_slots dc_own_slots pm_own_slots an_own_slots cd_own_slots ct_own_slots), sl_own_slots⟩) (c_own_slots : PySem.W.codeIn K cd_own_slots "own_slots" = true) (k_own_slots : PySem.W.keepIn K (.ref f_own_slots) = true)
    {f_busy_count : Addr} {od_busy_count an_busy_count : Option Addr} {sl_busy_count : Array (Option Value)} {oc_busy_count kV_busy_count dc_busy_count pm_busy_count cd_busy_count ct_busy_count : Value}
    (a_busy_count : PySem.W.nsIn K mainGlobals "busy_count" = some (some (.ref f_busy_count))) (l_busy_count : K.lookup f_busy_count = some ⟨oc_busy_count, od_busy_count, .func (PySem.W.fnOf "busy_count" "busy_count" (defArgs s_busy_count) (defBody s_busy_count) (defScope s_busy_count) .none kV_busy_count dc_busy_count pm_busy_count an_busy_count cd_busy_count ct_busy_count), sl_busy_count⟩) (c_busy_count : PySem.W.codeIn K cd_busy_count "busy_count" = true) (k_busy_count : PySem.W.keepIn K (.ref f_busy_count) = true)
    {f_nth_busy : Addr} {od_nth_busy an_nth_busy : Option Addr} {sl_nth_busy : Array (Option Value)} {oc_nth_busy kV_nth_busy dc_nth_busy pm_nth_busy cd_nth_busy ct_nth_busy : Value}
    (a_nth_busy : PySem.W.nsIn K mainGlobals "nth_busy" = some (some (.ref f_nth_busy))) (l_nth_busy : K.lookup f_nth_busy = some ⟨oc_nth_busy, od_nth_busy, .func (PySem.W.fnOf "nth_busy" "nth_busy" (defArgs s_nth_busy) (defBody s_nth_busy) (defScope s_nth_busy) .none kV_nth_busy dc_nth_busy pm_nth_busy an_nth_busy cd_nth_busy ct_nth_busy), sl_nth_busy⟩) (c_nth_busy : PySem.W.codeIn K cd_nth_busy "nth_busy" = true) (k_nth_busy : PySem.W.keepIn K (.ref f_nth_busy) = true)
    {f_need_speeds : Addr} {od_need_speeds an_need_speeds : Option Addr} {sl_need_speeds : Array (Option Value)} {oc_need_speeds kV_need_speeds dc_need_speeds pm_need_speeds cd_need_speeds ct_need_speeds : Value}
    (a_need_speeds : PySem.W.nsIn K mainGlobals "need_speeds" = some (some (.ref f_need_speeds))) (l_need_speeds : K.lookup f_need_speeds = some ⟨oc_need_speeds, od_need_speeds, .func (PySem.W.fnOf "need_speeds" "need_speeds" (defArgs s_need_speeds) (defBody s_need_speeds) (defScope s_need_speeds) .none kV_need_speeds dc_need_speeds pm_need_speeds an_need_speeds cd_need_speeds ct_need_speeds), sl_need_speeds⟩) (c_need_speeds : PySem.W.codeIn K cd_need_speeds "need_speeds" = true) (k_need_speeds : PySem.W.keepIn K (.ref f_need_speeds) = true)
    {f_loads_of : Addr} {od_loads_of an_loads_of : Option Addr} {sl_loads_of : Array (Option Value)} {oc_loads_of kV_loads_of dc_loads_of pm_loads_of cd_loads_of ct_loads_of : Value}
    (a_loads_of : PySem.W.nsIn K mainGlobals "loads_of" = some (some (.ref f_loads_of))) (l_loads_of : K.lookup f_loads_of = some ⟨oc_loads_of, od_loads_of, .func (PySem.W.fnOf "loads_of" "loads_of" (defArgs s_loads_of) (defBody s_loads_of) (defScope s_loads_of) .none kV_loads_of dc_loads_of pm_loads_of an_loads_of cd_loads_of ct_loads_of), sl_loads_of⟩) (c_loads_of : PySem.W.codeIn K cd_loads_of "loads_of" = true) (k_loads_of : PySem.W.keepIn K (.ref f_loads_of) = true)
    {f_crowded : Addr} {od_crowded an_crowded : Option Addr} {sl_crowded : Array (Option Value)} {oc_crowded kV_crowded dc_crowded pm_crowded cd_crowded ct_crowded : Value}
    (a_crowded : PySem.W.nsIn K mainGlobals "crowded" = some (some (.ref f_crowded))) (l_crowded : K.lookup f_crowded = some ⟨oc_crowded, od_crowded, .func (PySem.W.fnOf "crowded" "crowded" (defArgs s_crowded) (defBody s_crowded) (defScope s_crowded) .none kV_crowded dc_crowded pm_crowded an_crowded cd_crowded ct_crowded), sl_crowded⟩) (c_crowded : PySem.W.codeIn K cd_crowded "crowded" = true) (k_crowded : PySem.W.keepIn K (.ref f_crowded) = true)
    {f_most_at_once : Addr} {od_most_at_once an_most_at_once : Option Addr} {sl_most_at_once : Array (Option Value)} {oc_most_at_once kV_most_at_once dc_most_at_once pm_most_at_once cd_most_at_once ct_most_at_once : Value}
    (a_most_at_once : PySem.W.nsIn K mainGlobals "most_at_once" = some (some (.ref f_most_at_once))) (l_most_at_once : K.lookup f_most_at_once = some ⟨oc_most_at_once, od_most_at_once, .func (PySem.W.fnOf "most_at_once" "most_at_once" (defArgs s_most_at_once) (defBody s_most_at_once) (defScope s_most_at_once) .none kV_most_at_once dc_most_at_once pm_most_at_once an_most_at_once cd_most_at_once ct_most_at_once), sl_most_at_once⟩) (c_most_at_once : PySem.W.codeIn K cd_most_at_once "most_at_once" = true) (k_most_at_once : PySem.W.keepIn K (.ref f_most_at_once) = true)
    {f_clashes : Addr} {od_clashes an_clashes : Option Addr} {sl_clashes : Array (Option Value)} {oc_clashes kV_clashes dc_clashes pm_clashes cd_clashes ct_clashes : Value}
    (a_clashes : PySem.W.nsIn K mainGlobals "clashes" = some (some (.ref f_clashes))) (l_clashes : K.lookup f_clashes = some ⟨oc_clashes, od_clashes, .func (PySem.W.fnOf "clashes" "clashes" (defArgs s_clashes) (defBody s_clashes) (defScope s_clashes) .none kV_clashes dc_clashes pm_clashes an_clashes cd_clashes ct_clashes), sl_clashes⟩) (c_clashes : PySem.W.codeIn K cd_clashes "clashes" = true) (k_clashes : PySem.W.keepIn K (.ref f_clashes) = true)
    {f_clash_number : Addr} {od_clash_number an_clash_number : Option Addr} {sl_clash_number : Array (Option Value)} {oc_clash_number kV_clash_number dc_clash_number pm_clash_number cd_clash_number ct_clash_number : Value}
    (a_clash_number : PySem.W.nsIn K mainGlobals "clash_number" = some (some (.ref f_clash_number))) (l_clash_number : K.lookup f_clash_number = some ⟨oc_clash_number, od_clash_number, .func (PySem.W.fnOf "clash_number" "clash_number" (defArgs s_clash_number) (defBody s_clash_number) (defScope s_clash_number) .none kV_clash_number dc_clash_number pm_clash_number an_clash_number cd_clash_number ct_clash_number), sl_clash_number⟩) (c_clash_number : PySem.W.codeIn K cd_clash_number "clash_number" = true) (k_clash_number : PySem.W.keepIn K (.ref f_clash_number) = true)
    {f_plan_by_leaving : Addr} {od_plan_by_leaving an_plan_by_leaving : Option Addr} {sl_plan_by_leaving : Array (Option Value)} {oc_plan_by_leaving kV_plan_by_leaving dc_plan_by_leaving pm_plan_by_leaving cd_plan_by_leaving ct_plan_by_leaving : Value}
    (a_plan_by_leaving : PySem.W.nsIn K mainGlobals "plan_by_leaving" = some (some (.ref f_plan_by_leaving))) (l_plan_by_leaving : K.lookup f_plan_by_leaving = some ⟨oc_plan_by_leaving, od_plan_by_leaving, .func (PySem.W.fnOf "plan_by_leaving" "plan_by_leaving" (defArgs s_plan_by_leaving) (defBody s_plan_by_leaving) (defScope s_plan_by_leaving) .none kV_plan_by_leaving dc_plan_by_leaving pm_plan_by_leaving an_plan_by_leaving cd_plan_by_leaving ct_plan_by_leaving), sl_plan_by_leaving⟩) (c_plan_by_leaving : PySem.W.codeIn K cd_plan_by_leaving "plan_by_leaving" = true) (k_plan_by_leaving : PySem.W.keepIn K (.ref f_plan_by_leaving) = true)
    {f_check_few : Addr} {od_check_few an_check_few : Option Addr} {sl_check_few : Array (Option Value)} {oc_check_few kV_check_few dc_check_few pm_check_few cd_check_few ct_check_few : Value}
    (a_check_few : PySem.W.nsIn K mainGlobals "check_few" = some (some (.ref f_check_few))) (l_check_few : K.lookup f_check_few = some ⟨oc_check_few, od_check_few, .func (PySem.W.fnOf "check_few" "check_few" (defArgs s_check_few) (defBody s_check_few) (defScope s_check_few) .none kV_check_few dc_check_few pm_check_few an_check_few cd_check_few ct_check_few), sl_check_few⟩) (c_check_few : PySem.W.codeIn K cd_check_few "check_few" = true) (k_check_few : PySem.W.keepIn K (.ref f_check_few) = true)
    {f_spans_of : Addr} {od_spans_of an_spans_of : Option Addr} {sl_spans_of : Array (Option Value)} {oc_spans_of kV_spans_of dc_spans_of pm_spans_of cd_spans_of ct_spans_of : Value}
    (a_spans_of : PySem.W.nsIn K mainGlobals "spans_of" = some (some (.ref f_spans_of))) (l_spans_of : K.lookup f_spans_of = some ⟨oc_spans_of, od_spans_of, .func (PySem.W.fnOf "spans_of" "spans_of" (defArgs s_spans_of) (defBody s_spans_of) (defScope s_spans_of) .none kV_spans_of dc_spans_of pm_spans_of an_spans_of cd_spans_of ct_spans_of), sl_spans_of⟩) (c_spans_of : PySem.W.codeIn K cd_spans_of "spans_of" = true) (k_spans_of : PySem.W.keepIn K (.ref f_spans_of) = true)
    {f_tight_ports : Addr} {od_tight_ports an_tight_ports : Option Addr} {sl_tight_ports : Array (Option Value)} {oc_tight_ports kV_tight_ports dc_tight_ports pm_tight_ports cd_tight_ports ct_tight_ports : Value}
    (a_tight_ports : PySem.W.nsIn K mainGlobals "tight_ports" = some (some (.ref f_tight_ports))) (l_tight_ports : K.lookup f_tight_ports = some ⟨oc_tight_ports, od_tight_ports, .func (PySem.W.fnOf "tight_ports" "tight_ports" (defArgs s_tight_ports) (defBody s_tight_ports) (defScope s_tight_ports) .none kV_tight_ports dc_tight_ports pm_tight_ports an_tight_ports cd_tight_ports ct_tight_ports), sl_tight_ports⟩) (c_tight_ports : PySem.W.codeIn K cd_tight_ports "tight_ports" = true) (k_tight_ports : PySem.W.keepIn K (.ref f_tight_ports) = true)
    {f_picks_in : Addr} {od_picks_in an_picks_in : Option Addr} {sl_picks_in : Array (Option Value)} {oc_picks_in kV_picks_in dc_picks_in pm_picks_in cd_picks_in ct_picks_in : Value}
    (a_picks_in : PySem.W.nsIn K mainGlobals "picks_in" = some (some (.ref f_picks_in))) (l_picks_in : K.lookup f_picks_in = some ⟨oc_picks_in, od_picks_in, .func (PySem.W.fnOf "picks_in" "picks_in" (defArgs s_picks_in) (defBody s_picks_in) (defScope s_picks_in) .none kV_picks_in dc_picks_in pm_picks_in an_picks_in cd_picks_in ct_picks_in), sl_picks_in⟩) (c_picks_in : PySem.W.codeIn K cd_picks_in "picks_in" = true) (k_picks_in : PySem.W.keepIn K (.ref f_picks_in) = true)
    {f_ways_with : Addr} {od_ways_with an_ways_with : Option Addr} {sl_ways_with : Array (Option Value)} {oc_ways_with kV_ways_with dc_ways_with pm_ways_with cd_ways_with ct_ways_with : Value}
    (a_ways_with : PySem.W.nsIn K mainGlobals "ways_with" = some (some (.ref f_ways_with))) (l_ways_with : K.lookup f_ways_with = some ⟨oc_ways_with, od_ways_with, .func (PySem.W.fnOf "ways_with" "ways_with" (defArgs s_ways_with) (defBody s_ways_with) (defScope s_ways_with) .none kV_ways_with dc_ways_with pm_ways_with an_ways_with cd_ways_with ct_ways_with), sl_ways_with⟩) (c_ways_with : PySem.W.codeIn K cd_ways_with "ways_with" = true) (k_ways_with : PySem.W.keepIn K (.ref f_ways_with) = true)
    {f_parts_of : Addr} {od_parts_of an_parts_of : Option Addr} {sl_parts_of : Array (Option Value)} {oc_parts_of kV_parts_of dc_parts_of pm_parts_of cd_parts_of ct_parts_of : Value}
    (a_parts_of : PySem.W.nsIn K mainGlobals "parts_of" = some (some (.ref f_parts_of))) (l_parts_of : K.lookup f_parts_of = some ⟨oc_parts_of, od_parts_of, .func (PySem.W.fnOf "parts_of" "parts_of" (defArgs s_parts_of) (defBody s_parts_of) (defScope s_parts_of) .none kV_parts_of dc_parts_of pm_parts_of an_parts_of cd_parts_of ct_parts_of), sl_parts_of⟩) (c_parts_of : PySem.W.codeIn K cd_parts_of "parts_of" = true) (k_parts_of : PySem.W.keepIn K (.ref f_parts_of) = true)
    {f_count_with : Addr} {od_count_with an_count_with : Option Addr} {sl_count_with : Array (Option Value)} {oc_count_with kV_count_with dc_count_with pm_count_with cd_count_with ct_count_with : Value}
    (a_count_with : PySem.W.nsIn K mainGlobals "count_with" = some (some (.ref f_count_with))) (l_count_with : K.lookup f_count_with = some ⟨oc_count_with, od_count_with, .func (PySem.W.fnOf "count_with" "count_with" (defArgs s_count_with) (defBody s_count_with) (defScope s_count_with) .none kV_count_with dc_count_with pm_count_with an_count_with cd_count_with ct_count_with), sl_count_with⟩) (c_count_with : PySem.W.codeIn K cd_count_with "count_with" = true) (k_count_with : PySem.W.keepIn K (.ref f_count_with) = true)
    {f_need_few : Addr} {od_need_few an_need_few : Option Addr} {sl_need_few : Array (Option Value)} {oc_need_few kV_need_few dc_need_few pm_need_few cd_need_few ct_need_few : Value}
    (a_need_few : PySem.W.nsIn K mainGlobals "need_few" = some (some (.ref f_need_few))) (l_need_few : K.lookup f_need_few = some ⟨oc_need_few, od_need_few, .func (PySem.W.fnOf "need_few" "need_few" (defArgs s_need_few) (defBody s_need_few) (defScope s_need_few) .none kV_need_few dc_need_few pm_need_few an_need_few cd_need_few ct_need_few), sl_need_few⟩) (c_need_few : PySem.W.codeIn K cd_need_few "need_few" = true) (k_need_few : PySem.W.keepIn K (.ref f_need_few) = true)
    {f_has_plan : Addr} {od_has_plan an_has_plan : Option Addr} {sl_has_plan : Array (Option Value)} {oc_has_plan kV_has_plan dc_has_plan pm_has_plan cd_has_plan ct_has_plan : Value}
    (a_has_plan : PySem.W.nsIn K mainGlobals "has_plan" = some (some (.ref f_has_plan))) (l_has_plan : K.lookup f_has_plan = some ⟨oc_has_plan, od_has_plan, .func (PySem.W.fnOf "has_plan" "has_plan" (defArgs s_has_plan) (defBody s_has_plan) (defScope s_has_plan) .none kV_has_plan dc_has_plan pm_has_plan an_has_plan cd_has_plan ct_has_plan), sl_has_plan⟩) (c_has_plan : PySem.W.codeIn K cd_has_plan "has_plan" = true) (k_has_plan : PySem.W.keepIn K (.ref f_has_plan) = true)
    {f_plan_count : Addr} {od_plan_count an_plan_count : Option Addr} {sl_plan_count : Array (Option Value)} {oc_plan_count kV_plan_count dc_plan_count pm_plan_count cd_plan_count ct_plan_count : Value}
    (a_plan_count : PySem.W.nsIn K mainGlobals "plan_count" = some (some (.ref f_plan_count))) (l_plan_count : K.lookup f_plan_count = some ⟨oc_plan_count, od_plan_count, .func (PySem.W.fnOf "plan_count" "plan_count" (defArgs s_plan_count) (defBody s_plan_count) (defScope s_plan_count) .none kV_plan_count dc_plan_count pm_plan_count an_plan_count cd_plan_count ct_plan_count), sl_plan_count⟩) (c_plan_count : PySem.W.codeIn K cd_plan_count "plan_count" = true) (k_plan_count : PySem.W.keepIn K (.ref f_plan_count) = true)
    {f_nth_plan : Addr} {od_nth_plan an_nth_plan : Option Addr} {sl_nth_plan : Array (Option Value)} {oc_nth_plan kV_nth_plan dc_nth_plan pm_nth_plan cd_nth_plan ct_nth_plan : Value}
    (a_nth_plan : PySem.W.nsIn K mainGlobals "nth_plan" = some (some (.ref f_nth_plan))) (l_nth_plan : K.lookup f_nth_plan = some ⟨oc_nth_plan, od_nth_plan, .func (PySem.W.fnOf "nth_plan" "nth_plan" (defArgs s_nth_plan) (defBody s_nth_plan) (defScope s_nth_plan) .none kV_nth_plan dc_nth_plan pm_nth_plan an_nth_plan cd_nth_plan ct_nth_plan), sl_nth_plan⟩) (c_nth_plan : PySem.W.codeIn K cd_nth_plan "nth_plan" = true) (k_nth_plan : PySem.W.keepIn K (.ref f_nth_plan) = true)
    {f__law_source : Addr} {od__law_source an__law_source : Option Addr} {sl__law_source : Array (Option Value)} {oc__law_source kV__law_source dc__law_source pm__law_source cd__law_source ct__law_source : Value}
    (a__law_source : PySem.W.nsIn K mainGlobals "_law_source" = some (some (.ref f__law_source))) (l__law_source : K.lookup f__law_source = some ⟨oc__law_source, od__law_source, .func (PySem.W.fnOf "_law_source" "_law_source" (defArgs s__law_source) (defBody s__law_source) (defScope s__law_source) .none kV__law_source dc__law_source pm__law_source an__law_source cd__law_source ct__law_source), sl__law_source⟩) (c__law_source : PySem.W.codeIn K cd__law_source "_law_source" = true) (k__law_source : PySem.W.keepIn K (.ref f__law_source) = true)
    {f__law_draw : Addr} {od__law_draw an__law_draw : Option Addr} {sl__law_draw : Array (Option Value)} {oc__law_draw kV__law_draw dc__law_draw pm__law_draw cd__law_draw ct__law_draw : Value}
    (a__law_draw : PySem.W.nsIn K mainGlobals "_law_draw" = some (some (.ref f__law_draw))) (l__law_draw : K.lookup f__law_draw = some ⟨oc__law_draw, od__law_draw, .func (PySem.W.fnOf "_law_draw" "_law_draw" (defArgs s__law_draw) (defBody s__law_draw) (defScope s__law_draw) .none kV__law_draw dc__law_draw pm__law_draw an__law_draw cd__law_draw ct__law_draw), sl__law_draw⟩) (c__law_draw : PySem.W.codeIn K cd__law_draw "_law_draw" = true) (k__law_draw : PySem.W.keepIn K (.ref f__law_draw) = true)
    {f__law_few : Addr} {od__law_few an__law_few : Option Addr} {sl__law_few : Array (Option Value)} {oc__law_few kV__law_few dc__law_few pm__law_few cd__law_few ct__law_few : Value}
    (a__law_few : PySem.W.nsIn K mainGlobals "_law_few" = some (some (.ref f__law_few))) (l__law_few : K.lookup f__law_few = some ⟨oc__law_few, od__law_few, .func (PySem.W.fnOf "_law_few" "_law_few" (defArgs s__law_few) (defBody s__law_few) (defScope s__law_few) .none kV__law_few dc__law_few pm__law_few an__law_few cd__law_few ct__law_few), sl__law_few⟩) (c__law_few : PySem.W.codeIn K cd__law_few "_law_few" = true) (k__law_few : PySem.W.keepIn K (.ref f__law_few) = true)
    {f__law_right : Addr} {od__law_right an__law_right : Option Addr} {sl__law_right : Array (Option Value)} {oc__law_right kV__law_right dc__law_right pm__law_right cd__law_right ct__law_right : Value}
    (a__law_right : PySem.W.nsIn K mainGlobals "_law_right" = some (some (.ref f__law_right))) (l__law_right : K.lookup f__law_right = some ⟨oc__law_right, od__law_right, .func (PySem.W.fnOf "_law_right" "_law_right" (defArgs s__law_right) (defBody s__law_right) (defScope s__law_right) .none kV__law_right dc__law_right pm__law_right an__law_right cd__law_right ct__law_right), sl__law_right⟩) (c__law_right : PySem.W.codeIn K cd__law_right "_law_right" = true) (k__law_right : PySem.W.keepIn K (.ref f__law_right) = true)
    {f_law : Addr} {od_law an_law : Option Addr} {sl_law : Array (Option Value)} {oc_law kV_law dc_law pm_law cd_law ct_law : Value}
    (a_law : PySem.W.nsIn K mainGlobals "law" = some (some (.ref f_law))) (l_law : K.lookup f_law = some ⟨oc_law, od_law, .func (PySem.W.fnOf "law" "law" (defArgs s_law) (defBody s_law) (defScope s_law) .none kV_law dc_law pm_law an_law cd_law ct_law), sl_law⟩) (c_law : PySem.W.codeIn K cd_law "law" = true) (k_law : PySem.W.keepIn K (.ref f_law) = true)
    (z_abs : PySem.W.nsIn K mainGlobals "abs" = some none)
    (z_all : PySem.W.nsIn K mainGlobals "all" = some none)
    (z_any : PySem.W.nsIn K mainGlobals "any" = some none)
    (z_bool : PySem.W.nsIn K mainGlobals "bool" = some none)
    (z_divmod : PySem.W.nsIn K mainGlobals "divmod" = some none)
    (z_enumerate : PySem.W.nsIn K mainGlobals "enumerate" = some none)
    (z_int : PySem.W.nsIn K mainGlobals "int" = some none)
    (z_isinstance : PySem.W.nsIn K mainGlobals "isinstance" = some none)
    (z_len : PySem.W.nsIn K mainGlobals "len" = some none)
    (z_list : PySem.W.nsIn K mainGlobals "list" = some none)
    (z_max : PySem.W.nsIn K mainGlobals "max" = some none)
    (z_min : PySem.W.nsIn K mainGlobals "min" = some none)
    (z_range : PySem.W.nsIn K mainGlobals "range" = some none)
    (z_set : PySem.W.nsIn K mainGlobals "set" = some none)
    (z_sorted : PySem.W.nsIn K mainGlobals "sorted" = some none)
    (z_sum : PySem.W.nsIn K mainGlobals "sum" = some none)
    (z_tuple : PySem.W.nsIn K mainGlobals "tuple" = some none)
    (z_zip : PySem.W.nsIn K mainGlobals "zip" = some none)
    {t_MOST_CELLS : Tok} (c_MOST_CELLS : PySem.W.nsIn K mainGlobals "MOST_CELLS" = some (some (.int 60 t_MOST_CELLS)))
    {t_MOST_FEW : Tok} (c_MOST_FEW : PySem.W.nsIn K mainGlobals "MOST_FEW" = some (some (.int 8 t_MOST_FEW)))
    {t_MOST_LEAVING : Tok} (c_MOST_LEAVING : PySem.W.nsIn K mainGlobals "MOST_LEAVING" = some (some (.int 9999999999999999999999999999999 t_MOST_LEAVING)))
    {t_MOST_SIZE : Tok} (c_MOST_SIZE : PySem.W.nsIn K mainGlobals "MOST_SIZE" = some (some (.int 8 t_MOST_SIZE)))
    {t_MOST_SLOT : Tok} (c_MOST_SLOT : PySem.W.nsIn K mainGlobals "MOST_SLOT" = some (some (.int 999999999999999999999999999999 t_MOST_SLOT)))
    {t_MOST_SPEED : Tok} (c_MOST_SPEED : PySem.W.nsIn K mainGlobals "MOST_SPEED" = some (some (.int 60 t_MOST_SPEED)))
    : ∃ fd : FuncData, (∀ (s : Shared) (v : Value), BindsTo s fd ⟨[v], []⟩ [("script", v)]) ∧ ∀ base : Heap, K.In base → base.Ns mainGlobals mg → FnOk P w K mg base CX0 9 fa fd ["script"] (spP K m_law) := by
  have e := hfa.symm.trans (PySem.W.mg_of X G a_law)
  cases e
  have F_need_size := fun_mk (st := s_need_size) l_need_size c_need_size k_need_size
  have F_is_cell := fun_mk (st := s_is_cell) l_is_cell c_is_cell k_is_cell
  have F_cells_fault := fun_mk (st := s_cells_fault) l_cells_fault c_cells_fault k_cells_fault
  have F_need_cells := fun_mk (st := s_need_cells) l_need_cells c_need_cells k_need_cells
  have F_row_fault := fun_mk (st := s_row_fault) l_row_fault c_row_fault k_row_fault
  have F_need_row := fun_mk (st := s_need_row) l_need_row c_need_row k_need_row
  have F_cells_to := fun_mk (st := s_cells_to) l_cells_to c_cells_to k_cells_to
  have F_sending_slots := fun_mk (st := s_sending_slots) l_sending_slots c_sending_slots k_sending_slots
  have F_outlets_of := fun_mk (st := s_outlets_of) l_outlets_of c_outlets_of k_outlets_of
  have F_is_busy_row := fun_mk (st := s_is_busy_row) l_is_busy_row c_is_busy_row k_is_busy_row
  have F_need_busy := fun_mk (st := s_need_busy) l_need_busy c_need_busy k_need_busy
  have F_choices_of := fun_mk (st := s_choices_of) l_choices_of c_choices_of k_choices_of
  have F_product_of := fun_mk (st := s_product_of) l_product_of c_product_of k_product_of
  have F_row_with := fun_mk (st := s_row_with) l_row_with c_row_with k_row_with
  have F_own_slots := fun_mk (st := s_own_slots) l_own_slots c_own_slots k_own_slots
  have F_busy_count := fun_mk (st := s_busy_count) l_busy_count c_busy_count k_busy_count
  have F_nth_busy := fun_mk (st := s_nth_busy) l_nth_busy c_nth_busy k_nth_busy
  have F_need_speeds := fun_mk (st := s_need_speeds) l_need_speeds c_need_speeds k_need_speeds
  have F_loads_of := fun_mk (st := s_loads_of) l_loads_of c_loads_of k_loads_of
  have F_crowded := fun_mk (st := s_crowded) l_crowded c_crowded k_crowded
  have F_most_at_once := fun_mk (st := s_most_at_once) l_most_at_once c_most_at_once k_most_at_once
  have F_clashes := fun_mk (st := s_clashes) l_clashes c_clashes k_clashes
  have F_clash_number := fun_mk (st := s_clash_number) l_clash_number c_clash_number k_clash_number
  have F_plan_by_leaving := fun_mk (st := s_plan_by_leaving) l_plan_by_leaving c_plan_by_leaving k_plan_by_leaving
  have F_check_few := fun_mk (st := s_check_few) l_check_few c_check_few k_check_few
  have F_spans_of := fun_mk (st := s_spans_of) l_spans_of c_spans_of k_spans_of
  have F_tight_ports := fun_mk (st := s_tight_ports) l_tight_ports c_tight_ports k_tight_ports
  have F_picks_in := fun_mk (st := s_picks_in) l_picks_in c_picks_in k_picks_in
  have F_ways_with := fun_mk (st := s_ways_with) l_ways_with c_ways_with k_ways_with
  have F_parts_of := fun_mk (st := s_parts_of) l_parts_of c_parts_of k_parts_of
  have F_count_with := fun_mk (st := s_count_with) l_count_with c_count_with k_count_with
  have F_need_few := fun_mk (st := s_need_few) l_need_few c_need_few k_need_few
  have F_has_plan := fun_mk (st := s_has_plan) l_has_plan c_has_plan k_has_plan
  have F_plan_count := fun_mk (st := s_plan_count) l_plan_count c_plan_count k_plan_count
  have F_nth_plan := fun_mk (st := s_nth_plan) l_nth_plan c_nth_plan k_nth_plan
  have F__law_source := fun_mk (st := s__law_source) l__law_source c__law_source k__law_source
  have F__law_draw := fun_mk (st := s__law_draw) l__law_draw c__law_draw k__law_draw
  have F__law_few := fun_mk (st := s__law_few) l__law_few c__law_few k__law_few
  have F__law_right := fun_mk (st := s__law_right) l__law_right c__law_right k__law_right
  have F_law := fun_mk (st := s_law) l_law c_law k_law
  let A : All K mg := {
    f_is_integer := f_is_integer, fd_is_integer := _, h_is_integer := has_is_integer a_is_integer l_is_integer c_is_integer k_is_integer lT_is_integer vT_is_integer X G
    f_need_size := f_need_size, fd_need_size := _, h_need_size := ⟨F_need_size, PySem.W.mg_of X G a_need_size, F_need_size.binds fun _ _ _ _ _ _ us hl => match us, hl with | [_], _ => rfl⟩
    f_is_cell := f_is_cell, fd_is_cell := _, h_is_cell := ⟨F_is_cell, PySem.W.mg_of X G a_is_cell, F_is_cell.binds fun _ _ _ _ _ _ us hl => match us, hl with | [_, _], _ => rfl⟩
    f_cells_fault := f_cells_fault, fd_cells_fault := _, h_cells_fault := ⟨F_cells_fault, PySem.W.mg_of X G a_cells_fault, F_cells_fault.binds fun _ _ _ _ _ _ us hl => match us, hl with | [_, _], _ => rfl⟩
    f_need_cells := f_need_cells, fd_need_cells := _, h_need_cells := ⟨F_need_cells, PySem.W.mg_of X G a_need_cells, F_need_cells.binds fun _ _ _ _ _ _ us hl => match us, hl with | [_, _], _ => rfl⟩
    f_row_fault := f_row_fault, fd_row_fault := _, h_row_fault := ⟨F_row_fault, PySem.W.mg_of X G a_row_fault, F_row_fault.binds fun _ _ _ _ _ _ us hl => match us, hl with | [_, _], _ => rfl⟩
    f_need_row := f_need_row, fd_need_row := _, h_need_row := ⟨F_need_row, PySem.W.mg_of X G a_need_row, F_need_row.binds fun _ _ _ _ _ _ us hl => match us, hl with | [_, _, _], _ => rfl⟩
    f_need_number := f_need_number, fd_need_number := _, h_need_number := has_need_number a_need_number l_need_number c_need_number k_need_number lT_need_number vT_need_number X G
    f_cells_to := f_cells_to, fd_cells_to := _, h_cells_to := ⟨F_cells_to, PySem.W.mg_of X G a_cells_to, F_cells_to.binds fun _ _ _ _ _ _ us hl => match us, hl with | [_, _], _ => rfl⟩
    f_sending_slots := f_sending_slots, fd_sending_slots := _, h_sending_slots := ⟨F_sending_slots, PySem.W.mg_of X G a_sending_slots, F_sending_slots.binds fun _ _ _ _ _ _ us hl => match us, hl with | [_, _], _ => rfl⟩
    f_outlets_of := f_outlets_of, fd_outlets_of := _, h_outlets_of := ⟨F_outlets_of, PySem.W.mg_of X G a_outlets_of, F_outlets_of.binds fun _ _ _ _ _ _ us hl => match us, hl with | [_], _ => rfl⟩
    f_is_busy_row := f_is_busy_row, fd_is_busy_row := _, h_is_busy_row := ⟨F_is_busy_row, PySem.W.mg_of X G a_is_busy_row, F_is_busy_row.binds fun _ _ _ _ _ _ us hl => match us, hl with | [_, _], _ => rfl⟩
    f_need_busy := f_need_busy, fd_need_busy := _, h_need_busy := ⟨F_need_busy, PySem.W.mg_of X G a_need_busy, F_need_busy.binds fun _ _ _ _ _ _ us hl => match us, hl with | [_, _, _], _ => rfl⟩
    f_choices_of := f_choices_of, fd_choices_of := _, h_choices_of := ⟨F_choices_of, PySem.W.mg_of X G a_choices_of, F_choices_of.binds fun _ _ _ _ _ _ us hl => match us, hl with | [_, _], _ => rfl⟩
    f_product_of := f_product_of, fd_product_of := _, h_product_of := ⟨F_product_of, PySem.W.mg_of X G a_product_of, F_product_of.binds fun _ _ _ _ _ _ us hl => match us, hl with | [_], _ => rfl⟩
    f_row_with := f_row_with, fd_row_with := _, h_row_with := ⟨F_row_with, PySem.W.mg_of X G a_row_with, F_row_with.binds fun _ _ _ _ _ _ us hl => match us, hl with | [_, _, _], _ => rfl⟩
    f_own_slots := f_own_slots, fd_own_slots := _, h_own_slots := ⟨F_own_slots, PySem.W.mg_of X G a_own_slots, F_own_slots.binds fun _ _ _ _ _ _ us hl => match us, hl with | [_], _ => rfl⟩
    f_busy_count := f_busy_count, fd_busy_count := _, h_busy_count := ⟨F_busy_count, PySem.W.mg_of X G a_busy_count, F_busy_count.binds fun _ _ _ _ _ _ us hl => match us, hl with | [_, _], _ => rfl⟩
    f_nth_busy := f_nth_busy, fd_nth_busy := _, h_nth_busy := ⟨F_nth_busy, PySem.W.mg_of X G a_nth_busy, F_nth_busy.binds fun _ _ _ _ _ _ us hl => match us, hl with | [_, _, _], _ => rfl⟩
    f_need_speeds := f_need_speeds, fd_need_speeds := _, h_need_speeds := ⟨F_need_speeds, PySem.W.mg_of X G a_need_speeds, F_need_speeds.binds fun _ _ _ _ _ _ us hl => match us, hl with | [_], _ => rfl⟩
    f_loads_of := f_loads_of, fd_loads_of := _, h_loads_of := ⟨F_loads_of, PySem.W.mg_of X G a_loads_of, F_loads_of.binds fun _ _ _ _ _ _ us hl => match us, hl with | [_, _, _], _ => rfl⟩
    f_crowded := f_crowded, fd_crowded := _, h_crowded := ⟨F_crowded, PySem.W.mg_of X G a_crowded, F_crowded.binds fun _ _ _ _ _ _ us hl => match us, hl with | [_, _, _], _ => rfl⟩
    f_most_at_once := f_most_at_once, fd_most_at_once := _, h_most_at_once := ⟨F_most_at_once, PySem.W.mg_of X G a_most_at_once, F_most_at_once.binds fun _ _ _ _ _ _ us hl => match us, hl with | [_, _, _], _ => rfl⟩
    f_clashes := f_clashes, fd_clashes := _, h_clashes := ⟨F_clashes, PySem.W.mg_of X G a_clashes, F_clashes.binds fun _ _ _ _ _ _ us hl => match us, hl with | [_, _, _], _ => rfl⟩
    f_clash_number := f_clash_number, fd_clash_number := _, h_clash_number := ⟨F_clash_number, PySem.W.mg_of X G a_clash_number, F_clash_number.binds fun _ _ _ _ _ _ us hl => match us, hl with | [_, _, _], _ => rfl⟩
    f_plan_by_leaving := f_plan_by_leaving, fd_plan_by_leaving := _, h_plan_by_leaving := ⟨F_plan_by_leaving, PySem.W.mg_of X G a_plan_by_leaving, F_plan_by_leaving.binds fun _ _ _ _ _ _ us hl => match us, hl with | [_, _, _, _], _ => rfl⟩
    f_check_few := f_check_few, fd_check_few := _, h_check_few := ⟨F_check_few, PySem.W.mg_of X G a_check_few, F_check_few.binds fun _ _ _ _ _ _ us hl => match us, hl with | [_, _], _ => rfl⟩
    f_spans_of := f_spans_of, fd_spans_of := _, h_spans_of := ⟨F_spans_of, PySem.W.mg_of X G a_spans_of, F_spans_of.binds fun _ _ _ _ _ _ us hl => match us, hl with | [_, _], _ => rfl⟩
    f_tight_ports := f_tight_ports, fd_tight_ports := _, h_tight_ports := ⟨F_tight_ports, PySem.W.mg_of X G a_tight_ports, F_tight_ports.binds fun _ _ _ _ _ _ us hl => match us, hl with | [_, _], _ => rfl⟩
    f_picks_in := f_picks_in, fd_picks_in := _, h_picks_in := ⟨F_picks_in, PySem.W.mg_of X G a_picks_in, F_picks_in.binds fun _ _ _ _ _ _ us hl => match us, hl with | [_, _, _, _], _ => rfl⟩
    f_ways_with := f_ways_with, fd_ways_with := _, h_ways_with := ⟨F_ways_with, PySem.W.mg_of X G a_ways_with, F_ways_with.binds fun _ _ _ _ _ _ us hl => match us, hl with | [_, _, _, _], _ => rfl⟩
    f_parts_of := f_parts_of, fd_parts_of := _, h_parts_of := ⟨F_parts_of, PySem.W.mg_of X G a_parts_of, F_parts_of.binds fun _ _ _ _ _ _ us hl => match us, hl with | [_], _ => rfl⟩
    f_count_with := f_count_with, fd_count_with := _, h_count_with := ⟨F_count_with, PySem.W.mg_of X G a_count_with, F_count_with.binds fun _ _ _ _ _ _ us hl => match us, hl with | [_, _, _], _ => rfl⟩
    f_need_few := f_need_few, fd_need_few := _, h_need_few := ⟨F_need_few, PySem.W.mg_of X G a_need_few, F_need_few.binds fun _ _ _ _ _ _ us hl => match us, hl with | [_, _, _, _], _ => rfl⟩
    f_has_plan := f_has_plan, fd_has_plan := _, h_has_plan := ⟨F_has_plan, PySem.W.mg_of X G a_has_plan, F_has_plan.binds fun _ _ _ _ _ _ us hl => match us, hl with | [_, _, _, _], _ => rfl⟩
    f_plan_count := f_plan_count, fd_plan_count := _, h_plan_count := ⟨F_plan_count, PySem.W.mg_of X G a_plan_count, F_plan_count.binds fun _ _ _ _ _ _ us hl => match us, hl with | [_, _, _, _], _ => rfl⟩
    f_nth_plan := f_nth_plan, fd_nth_plan := _, h_nth_plan := ⟨F_nth_plan, PySem.W.mg_of X G a_nth_plan, F_nth_plan.binds fun _ _ _ _ _ _ us hl => match us, hl with | [_, _, _, _, _], _ => rfl⟩
    f__law_source := f__law_source, fd__law_source := _, h__law_source := ⟨F__law_source, PySem.W.mg_of X G a__law_source, F__law_source.binds fun _ _ _ _ _ _ us hl => match us, hl with | [_, _], _ => rfl⟩
    f__law_draw := f__law_draw, fd__law_draw := _, h__law_draw := ⟨F__law_draw, PySem.W.mg_of X G a__law_draw, F__law_draw.binds fun _ _ _ _ _ _ us hl => match us, hl with | [_, _], _ => rfl⟩
    f__law_few := f__law_few, fd__law_few := _, h__law_few := ⟨F__law_few, PySem.W.mg_of X G a__law_few, F__law_few.binds fun _ _ _ _ _ _ us hl => match us, hl with | [_, _, _], _ => rfl⟩
    f__law_right := f__law_right, fd__law_right := _, h__law_right := ⟨F__law_right, PySem.W.mg_of X G a__law_right, F__law_right.binds fun _ _ _ _ _ _ us hl => match us, hl with | [_, _, _], _ => rfl⟩
    f_law := fa, fd_law := _, h_law := ⟨F_law, PySem.W.mg_of X G a_law, F_law.binds fun _ _ _ _ _ _ us hl => match us, hl with | [_], _ => rfl⟩
    z_abs := PySem.W.mg_none_of X G z_abs
    z_all := PySem.W.mg_none_of X G z_all
    z_any := PySem.W.mg_none_of X G z_any
    z_bool := PySem.W.mg_none_of X G z_bool
    z_divmod := PySem.W.mg_none_of X G z_divmod
    z_enumerate := PySem.W.mg_none_of X G z_enumerate
    z_int := PySem.W.mg_none_of X G z_int
    z_isinstance := PySem.W.mg_none_of X G z_isinstance
    z_len := PySem.W.mg_none_of X G z_len
    z_list := PySem.W.mg_none_of X G z_list
    z_max := PySem.W.mg_none_of X G z_max
    z_min := PySem.W.mg_none_of X G z_min
    z_range := PySem.W.mg_none_of X G z_range
    z_set := PySem.W.mg_none_of X G z_set
    z_sorted := PySem.W.mg_none_of X G z_sorted
    z_sum := PySem.W.mg_none_of X G z_sum
    z_tuple := PySem.W.mg_none_of X G z_tuple
    z_zip := PySem.W.mg_none_of X G z_zip
    t_MOST_CELLS := _, c_MOST_CELLS := PySem.W.mg_of X G c_MOST_CELLS
    t_MOST_FEW := _, c_MOST_FEW := PySem.W.mg_of X G c_MOST_FEW
    t_MOST_LEAVING := _, c_MOST_LEAVING := PySem.W.mg_of X G c_MOST_LEAVING
    t_MOST_SIZE := _, c_MOST_SIZE := PySem.W.mg_of X G c_MOST_SIZE
    t_MOST_SLOT := _, c_MOST_SLOT := PySem.W.mg_of X G c_MOST_SLOT
    t_MOST_SPEED := _, c_MOST_SPEED := PySem.W.mg_of X G c_MOST_SPEED
  }
  exact ⟨A.fd_law, fun s v => .of_eq rfl, fun base _ _ => ok_law A 0⟩
end Gn
namespace Dd
open PySem PySem.Spec PyProof.Rows L2
theorem dataLt_2 (a b c d : Int) : PySem.W.dataLt (.tuple [.int a, .int b]) (.tuple [.int c, .int d]) = decide (a < c ∨ (a = c ∧ b < d)) := by
  have h := congrFun (congrFun (PySem.W.dataLe_ii (β := Int × Int) (fun p => p.1) (fun p => p.2)) (c, d)) (a, b)
  rw [PySem.W.dataLe_eq] at h
  simp only [cond_false] at h
  have h2 : PySem.W.dataLt (.tuple [.int a, .int b]) (.tuple [.int c, .int d]) = !decide (c < a ∨ (c = a ∧ d ≤ b)) := by
    rw [← h]; simp
  rw [h2]
  by_cases k : a < c ∨ (a = c ∧ b < d)
  · rw [decide_eq_true k]
    simp
    omega
  · rw [decide_eq_false k]
    simp
    omega
@[simp] theorem dGe_2 {a b c d : Int} : dGe (.tuple [.int a, .int b]) (.tuple [.int c, .int d]) = some (.bool (!decide (a < c ∨ (a = c ∧ b < d))), .sh) := by
  have h : dGe (.tuple [.int a, .int b]) (.tuple [.int c, .int d]) = some (.bool (!PySem.W.dataLt (.tuple [.int a, .int b]) (.tuple [.int c, .int d])), .sh) := rfl
  rw [h, dataLt_2]
theorem ixA_l {xs : List D} {i : Nat} {d : D} (h : xs[i]? = some d) : dIxA (.list xs) (.int (i : Int)) = some (d, .sh) := by
  have h2 : dIx (.list xs) (.int (i : Int)) = some (d, .sh) := by
    unfold dIx
    simp only [atI_nat h, Option.map_some]
  unfold dIxA alt2
  rw [h2]
theorem ixA_t {xs : List D} {i : Nat} {d : D} (h : xs[i]? = some d) : dIxA (.tuple xs) (.int (i : Int)) = some (d, .sh) := by
  have h2 : dIx (.tuple xs) (.int (i : Int)) = some (d, .sh) := by
    unfold dIx
    simp only [atI_nat h, Option.map_some]
  unfold dIxA alt2
  rw [h2]
@[simp] theorem ixA_t0 {a : D} {r : List D} : dIxA (.tuple (a :: r)) (.int 0) = some (a, .sh) := ixA_t (i := 0) rfl
@[simp] theorem ixA_t1 {a b : D} {r : List D} : dIxA (.tuple (a :: b :: r)) (.int 1) = some (b, .sh) := ixA_t (i := 1) rfl
@[simp] theorem ixA_t2 {a b c : D} {r : List D} : dIxA (.tuple (a :: b :: c :: r)) (.int 2) = some (c, .sh) := ixA_t (i := 2) rfl
@[simp] theorem sl_2 {a b c : D} : dSl (.tuple [a, b, c]) none (some 2) = some (.tuple [a, b], .sh) := rfl
@[simp] theorem dEq_t0 : dEq (.tuple []) (.tuple []) = some (.bool true, .sh) := rfl
@[simp] theorem dNe_t0 : dNe (.tuple []) (.tuple []) = some (.bool false, .sh) := rfl
end Dd
namespace Gn
open PySem PySem.Spec PyProof.Rows L2 Dd
@[simp] theorem is_integer_3 (v lo hi : Int) : m_is_integer [.int v, .int lo, .int hi] = some (.bool (decide (lo ≤ v) && decide (v ≤ hi)), .sh) := by
  simp [m_is_integer]
  split <;> simp [*]
@[simp] theorem is_integer_2 (v lo : Int) : m_is_integer [.int v, .int lo, .none] = some (.bool (decide (lo ≤ v)), .sh) := by
  simp [m_is_integer]
  split <;> simp [*]
@[simp] theorem need_size_1 (v : Int) (h : 1 ≤ v ∧ v ≤ 8) : m_need_size [.int v] = some (.none, .sh) := by
  simp [m_need_size, h.1, h.2]
abbrev Cell := Int × Int × Int
def cD (c : Cell) : D := .tuple [.int c.1, .int c.2.1, .int c.2.2]
/-- a cell of a switch of n ports -/
def CellOk (n : Int) (c : Cell) : Prop := (0 ≤ c.1 ∧ c.1 ≤ 10 ^ 30 - 1) ∧ (0 ≤ c.2.1 ∧ c.2.1 ≤ n - 1) ∧ 0 ≤ c.2.2 ∧ c.2.2 ≤ n - 1
theorem is_cell_ok {n : Int} {c : Cell} (h : CellOk n c) : m_is_cell [.int n, cD c] = some (.bool true, .sh) := by
  obtain ⟨h1, h2, h3, h4⟩ := h
  simp [m_is_cell, cD, h2, h3, h4]
  omega
/-- cells in order: by slot, then by input -/
def Asc (a b : Cell) : Prop := a.1 < b.1 ∨ (a.1 = b.1 ∧ a.2.1 < b.2.1)
structure CellsOk (n : Int) (cs : List Cell) : Prop where
  few : cs.length ≤ 60
  each : ∀ c ∈ cs, CellOk n c
  asc : ∀ (i : Nat) a b, cs[i]? = some a → cs[i + 1]? = some b → Asc a b
theorem enumD_from (ds : List D) (k : Nat) (h : k < ds.length) : (ds.zipIdx.map fun p => PyData.tuple [.int (p.2 : Int), p.1]).drop k = .tuple [.int (k : Int), ds[k]] :: (ds.zipIdx.map fun p => PyData.tuple [.int (p.2 : Int), p.1]).drop (k + 1) := by
  rw [List.drop_eq_getElem_cons (by simpa using h)]
  simp
theorem cells_fault_ok {n : Int} {cs : List Cell} (h : CellsOk n cs) : m_cells_fault [.int n, .list (cs.map cD)] = some (.tuple [], .sh) := by
  have hl : ((cs.map cD).length : Int) ≤ 60 := by
    rw [List.length_map]
    have := h.few
    omega
  have hl2 : ¬ (60 : Int) < (cs.length : Int) := by
    have := h.few
    omega
  -- the loop from its k-th turn on
  have loop : ∀ (m k : Nat), k + m = cs.length → ∀ j2 j3, Jk j2 → Jk j3 → ∃ q2 q3, fl (gT (gsC (gN 2) (gsC (gN 3) gsN)) 2) b0_cells_fault
      ((enumD (cs.map cD)).drop k) [some (.int n, .sh), some (.list (cs.map cD), .sh), j2, j3] = some (.nx [some (.int n, .sh), some (.list (cs.map cD), .sh), q2, q3]) := by
    intro m
    induction m with
    | zero =>
      intro k hk j2 j3 q2 q3
      refine ⟨j2, j3, ?_⟩
      rw [List.drop_eq_nil_of_le (by simp [enumD]; omega)]
      rfl
    | succ m ih =>
      intro k hk j2 j3 q2 q3
      have hk2 : k < cs.length := by omega
      obtain ⟨r2, r3, ih⟩ := ih (k + 1) (by omega) (some (.int (k : Int), .sh)) (some (cD cs[k], .sh)) jk_h jk_h
      refine ⟨r2, r3, ?_⟩
      unfold enumD at ih ⊢
      rw [enumD_from _ k (by simpa using hk2), fl_cons]
      have hc := is_cell_ok (h.each cs[k] (List.getElem_mem hk2))
      have hg : (cs.map cD)[k]'(by simpa using hk2) = cD cs[k] := by simp
      have hb : b0_cells_fault [some (.int n, .sh), some (.list (cs.map cD), .sh), some (.int (k : Int), .sh), some (cD cs[k], .sh)] = some (.nx [some (.int n, .sh), some (.list (cs.map cD), .sh), some (.int (k : Int), .sh), some (cD cs[k], .sh)]) := by
        cases k with
        | zero => simp [b0_cells_fault, hc]
        | succ k =>
          have hx : dIxA (.list (cs.map cD)) (.int (k : Int)) = some (cD cs[k], .sh) := ixA_l (by simp [show k < cs.length by omega])
          have ha := h.asc k cs[k] cs[k + 1] (List.getElem?_eq_getElem _) (List.getElem?_eq_getElem _)
          unfold Asc at ha
          simp only [cD] at hx hc
          simp [b0_cells_fault, hc, hx, cD, ha]
      simp [put_j q2, put_j q3, hg, hb]
      exact ih
  obtain ⟨q2, q3, hf⟩ := loop cs.length 0 (by omega) none none jk_n jk_n
  simp only [List.drop_zero] at hf
  simp [m_cells_fault, hl2, hf, lim]
theorem need_cells_ok {n : Int} {cs : List Cell} (hn : 1 ≤ n ∧ n ≤ 8) (h : CellsOk n cs) : m_need_cells [.int n, .list (cs.map cD)] = some (.none, .sh) := by
  simp [m_need_cells, need_size_1 n hn, cells_fault_ok h]
end Gn
namespace Dd
open PySem PySem.Spec PyProof.Rows L2
@[simp] theorem inA_T {a b : Int} {ds : List (D × D)} : dInA (.tuple [.int a, .int b]) (.dict ((.none, .none) :: ds)) = some (.bool (tGet unT ds [.inl a, .inl b]).isSome, .sh) := rfl
@[simp] theorem put_T {a b : Int} {d : D} {ds : List (D × D)} : dPut (.dict ((.none, .none) :: ds)) (.tuple [.int a, .int b]) d = if ds.length < lim then some (.dict ((.none, .none) :: tPut unT ds (.tuple [.int a, .int b]) [.inl a, .inl b] d)) else none := rfl
@[simp] theorem fAll_ints {bs : List Bool} : fAll [.list (bs.map PyData.bool)] = some (.bool (bs.all id), .sh) := by
  show (boolsD (bs.map PyData.bool)).map _ = _
  rw [boolsD_map]
  rfl
@[simp] theorem fAny_ints {bs : List Bool} : fAny [.list (bs.map PyData.bool)] = some (.bool (bs.any id), .sh) := by
  show (boolsD (bs.map PyData.bool)).map _ = _
  rw [boolsD_map]
  rfl
end Dd
namespace Gn
open PySem PySem.Spec PyProof.Rows L2 Dd
/-- the row of a dict of taken places -/
def kD2 (p : Cell × Int) : D × D := (.tuple [.int p.1.2.2, .int p.2], .bool true)
theorem tget_no {o s : Int} : ∀ {l : List (Cell × Int)}, (∀ p ∈ l, ¬ (p.1.2.2 = o ∧ p.2 = s)) → tGet unT (l.map kD2) [.inl o, .inl s] = none
  | [], _ => rfl
  | p :: l, h => by
    have ih := tget_no (l := l) fun q hq => h q (List.mem_cons_of_mem _ hq)
    have hp := h p List.mem_cons_self
    unfold tGet at ih ⊢
    have e : decide (unT (kD2 p).1 = some [.inl o, .inl s]) = false := by
      rw [show unT (kD2 p).1 = some [.inl p.1.2.2, .inl p.2] from rfl]
      simpa using hp
    rw [List.map_cons, List.find?_cons, e]
    exact ih
theorem tput_no {o s : Int} {l : List (Cell × Int)} (h : ∀ p ∈ l, ¬ (p.1.2.2 = o ∧ p.2 = s)) {k d : D} : tPut unT (l.map kD2) k [.inl o, .inl s] d = l.map kD2 ++ [(k, d)] := by
  unfold tPut
  rw [if_neg]
  rw [List.any_eq_true]
  rintro ⟨q, hq, e⟩
  obtain ⟨p, hp, rfl⟩ := List.mem_map.mp hq
  have e2 := of_decide_eq_true e
  rw [show unT (kD2 p).1 = some [.inl p.1.2.2, .inl p.2] from rfl] at e2
  simp at e2
  exact h p hp e2
structure RowOk (cs : List Cell) (row : List Int) : Prop where
  len : row.length = cs.length
  each : ∀ (i : Nat) c s, cs[i]? = some c → row[i]? = some s → c.1 ≤ s ∧ s ≤ 10 ^ 31 - 1
  one : ∀ (i j : Nat) c d s t, i < j → cs[i]? = some c → cs[j]? = some d → row[i]? = some s → row[j]? = some t → ¬ (c.2.2 = d.2.2 ∧ s = t)
theorem row_fault_ok {cs : List Cell} {row : List Int} (hf : cs.length ≤ 60) (h : RowOk cs row) : m_row_fault [.list (cs.map cD), .list (row.map PyData.int)] = some (.tuple [], .sh) := by
  have hlen := h.len
  have loop : ∀ (m k : Nat), k + m = cs.length → ∀ j3 j4 j5 j6 j7, Jk j3 → Jk j4 → Jk j5 → Jk j6 → Jk j7 → ∃ q2 q3 q4 q5 q6 q7, fl (gT (gsC (gN 3) (gsC (gN 4) gsN)) 2) b0_row_fault
      ((enumD (row.map PyData.int)).drop k) [some (.list (cs.map cD), .sh), some (.list (row.map PyData.int), .sh), some (.dict ((.none, .none) :: ((cs.zip row).take k).map kD2), .ow), j3, j4, j5, j6, j7] = some (.nx [some (.list (cs.map cD), .sh), some (.list (row.map PyData.int), .sh), q2, q3, q4, q5, q6, q7]) := by
    intro m
    induction m with
    | zero =>
      intro k hk j3 j4 j5 j6 j7 _ _ _ _ _
      rw [List.drop_eq_nil_of_le (by simp [enumD]; omega)]
      exact ⟨_, _, _, _, _, _, rfl⟩
    | succ m ih =>
      intro k hk j3 j4 j5 j6 j7 h3 h4 h5 h6 h7
      have hk2 : k < cs.length := by omega
      have hk3 : k < row.length := by omega
      obtain ⟨r2, r3, r4, r5, r6, r7, ih⟩ := ih (k + 1) (by omega) (some (.int (k : Int), .sh)) (some (.int row[k], .sh)) (some (.int cs[k].1, .sh)) (some (.int cs[k].2.1, .sh)) (some (.int cs[k].2.2, .sh)) jk_h jk_h jk_h jk_h jk_h
      refine ⟨r2, r3, r4, r5, r6, r7, ?_⟩
      unfold enumD at ih ⊢
      rw [enumD_from _ k (by simpa using hk3), fl_cons]
      have hg : (row.map PyData.int)[k]'(by simpa using hk3) = .int row[k] := by simp
      have hx : dIxA (.list (cs.map cD)) (.int (k : Int)) = some (cD cs[k], .sh) := ixA_l (by simp [hk2])
      obtain ⟨g1, g2⟩ := h.each k cs[k] row[k] (List.getElem?_eq_getElem _) (List.getElem?_eq_getElem _)
      have hno : ∀ p ∈ (cs.zip row).take k, ¬ (p.1.2.2 = cs[k].2.2 ∧ p.2 = row[k]) := fun p hp => by
        obtain ⟨i, hi⟩ := List.mem_iff_getElem?.mp hp
        rw [List.getElem?_take] at hi
        split at hi
        · rename_i hik
          rw [List.getElem?_zip_eq_some] at hi
          exact h.one i k p.1 cs[k] p.2 row[k] hik hi.1 (List.getElem?_eq_getElem _) hi.2 (List.getElem?_eq_getElem _)
        · cases hi
      have htake : (cs.zip row).take (k + 1) = (cs.zip row).take k ++ [(cs[k], row[k])] := by
        rw [List.take_add_one, List.getElem?_eq_getElem (by simp; omega)]
        simp
      have hll : ((cs.zip row).take k).length < lim := by
        simp [lim]
        omega
      have g3 : ¬ (9999999999999999999999999999999 : Int) < row[k] := by omega
      rw [htake] at ih
      clear htake
      generalize (cs.zip row).take k = T at *
      have hb : b0_row_fault [some (.list (cs.map cD), .sh), some (.list (row.map PyData.int), .sh), some (.dict ((.none, .none) :: T.map kD2), .ow), some (.int (k : Int), .sh), some (.int row[k], .sh), j5, j6, j7] =
          some (.nx [some (.list (cs.map cD), .sh), some (.list (row.map PyData.int), .sh), some (.dict ((.none, .none) :: (T ++ [(cs[k], row[k])]).map kD2), .ow), some (.int (k : Int), .sh), some (.int row[k], .sh), some (.int cs[k].1, .sh), some (.int cs[k].2.1, .sh), some (.int cs[k].2.2, .sh)]) := by
        simp only [cD] at hx
        simp [b0_row_fault, hx, put_j h5, put_j h6, put_j h7, g1, g3, tget_no hno, tput_no hno, hll, kD2, show 2 ≤ lim by decide]
      simp [put_j h3, put_j h4, hg, hb]
      rw [List.map_append] at ih
      exact ih
  obtain ⟨q2, q3, q4, q5, q6, q7, hl⟩ := loop cs.length 0 (by omega) none none none none none jk_n jk_n jk_n jk_n jk_n
  simp only [List.drop_zero, List.take_zero, List.map_nil] at hl
  simp [m_row_fault, hlen, hl, lim, eDt]
structure Good (n : Int) (cs : List Cell) (row : List Int) : Prop where
  size : 1 ≤ n ∧ n ≤ 8
  cells : CellsOk n cs
  row : RowOk cs row
theorem need_row_ok {n : Int} {cs : List Cell} {row : List Int} (h : Good n cs row) : m_need_row [.int n, .list (cs.map cD), .list (row.map PyData.int)] = some (.none, .sh) := by
  simp [m_need_row, need_cells_ok h.size h.cells, row_fault_ok h.cells.few h.row]
theorem is_row_ok {n : Int} {cs : List Cell} {row : List Int} (h : Good n cs row) : m_is_row [.int n, .list (cs.map cD), .list (row.map PyData.int)] = some (.bool true, .sh) := by
  simp [m_is_row, need_cells_ok h.size h.cells, row_fault_ok h.cells.few h.row]
/-- speeds -/
def SpeedsOk (p q : Int) : Prop := (1 ≤ p ∧ p ≤ 60) ∧ 1 ≤ q ∧ q ≤ 60
theorem need_speeds_ok {p q : Int} (h : SpeedsOk p q) : m_need_speeds [.tuple [.int p, .int q]] = some (.none, .sh) := by
  obtain ⟨⟨h1, h2⟩, h3, h4⟩ := h
  have hl : lcl [1] (gN 1) tT (eCall m_is_integer (aC (oV 1) (aC (oE (eC (.int 1))) (aC (oE (eC (.int 60))) aN)))) [.int p, .int q] [some (.tuple [.int p, .int q], .sh), none] = some ([.bool true, .bool true], [some (.tuple [.int p, .int q], .sh), none]) := by
    simp [lcl_cons, wipeE, h1, h2, h3, h4]
  have ha : fAll [.list [.bool true, .bool true]] = some (.bool true, .sh) := rfl
  simp [m_need_speeds, eLc, cV, wipeE, backE, bkH, hl, lim, ha]
abbrev iD (xs : List Int) : D := .list (xs.map PyData.int)
abbrev csD (cs : List Cell) : D := .list (cs.map cD)
def pD (p : Int × Int) : D := .tuple [.int p.1, .int p.2]
/-- the spans of a row -/
def spans (cs : List Cell) (row : List Int) : List (Int × Int) := List.zipWith (fun c s => (c.1, s)) cs row
theorem zipD_map {α β : Type} (f : α → D) (g : β → D) (xs : List α) (ys : List β) : zipD (xs.map f) (ys.map g) = (xs.zip ys).map fun p => .tuple [f p.1, g p.2] := by
  unfold zipD
  rw [List.zipWith_map, List.zip, List.map_zipWith]
theorem spans_of_ok (cs : List Cell) (row : List Int) (h : cs.length ≤ 60) : m_spans_of [csD cs, iD row] = some (.list ((spans cs row).map pD), .ow) := by
  have hl := lcl_all (enc := fun p : Cell × Int => PyData.tuple [cD p.1, .int p.2]) (vs := [2, 3]) (g := gT (gsC (gN 2) (gsC (gN 3) gsN)) 2) (m := eTup (lC (eSh (e2 dIxA (oV 2) (oE (eC (.int 0))))) (lC (eSh (eV 3)) lN))) (e := [some (csD cs, .sh), some (iD row, .sh), none, none]) (fun p => pD (p.1.1, p.2)) (cs.zip row) fun p _ => by
    refine ⟨_, .sh, _, by simp [cD]; rfl, by simp [cD, pD, lim]; rfl, by simp⟩
  have hz : (cs.zip row).map (fun p => pD (p.1.1, p.2)) = (spans cs row).map pD := by
    simp [spans, List.zip, List.map_zipWith]
  rw [hz] at hl
  have hlen : (spans cs row).length ≤ lim := by
    simp [spans, lim]
    omega
  simp [m_spans_of, eLc, zipD_map, hl, hlen]
end Gn
namespace Dd
open PySem PySem.Spec PyProof.Rows L2
@[simp] theorem eApp_x {i : Nat} {m : EM} {e : Ev} : eApp i m e = (match own i e with
  | some (.list _, _) => (eSh m e).bind fun x => match own i x.2.2 with
    | some (.list ds, t) => if ds.length < lim then some (.none, .sh, x.2.2.set i (some (.list (ds ++ [x.1]), t))) else none
    | _ => none
  | _ => none) := rfl
/-- a loop that never leaves early: P relates what has been walked to the state -/
theorem fl_pre {α : Type} {enc : α → D} {g : GM} {b : SM} (P : List α → Ev → Prop) {cs : List α} (hs : ∀ pre c post, cs = pre ++ c :: post → ∀ e, P pre e → ∃ e1 e2, g (enc c) e = some e1 ∧ b e1 = some (.nx e2) ∧ P (pre ++ [c]) e2) :
    ∀ (post pre : List α), cs = pre ++ post → ∀ e, P pre e → ∃ e', fl g b (post.map enc) e = some (.nx e') ∧ P cs e'
  | [], pre, hc, e, h => ⟨e, rfl, by rw [hc, List.append_nil]; exact h⟩
  | c :: post, pre, hc, e, h => by
    obtain ⟨e1, e2, h1, h2, h3⟩ := hs pre c post hc e h
    obtain ⟨e', h4, h5⟩ := fl_pre P hs post (pre ++ [c]) (by rw [hc]; simp) e2 h3
    refine ⟨e', ?_, h5⟩
    rw [List.map_cons, fl_cons, h1]
    simp only [Option.bind_some, h2, h4]
end Dd
namespace Gn
open PySem PySem.Spec PyProof.Rows L2 Dd
/-- a cell's port at a side -/
def portAt (c : Cell) (side : Nat) : Int := if side = 1 then c.2.1 else c.2.2
def portsAt (cs : List Cell) (p q : Int) (c : Cell) : List (Int × Int) :=
  (if p < ((cs.filter fun d => d.2.1 = c.2.1).length : Int) then [(1, c.2.1)] else []) ++ (if q < ((cs.filter fun d => d.2.2 = c.2.2).length : Int) then [(2, c.2.2)] else [])
abbrev psD (ps : List (Int × Int)) : D := .list (ps.map pD)
theorem ix_side (d : Cell) {side : Nat} (hs : side = 1 ∨ side = 2) : dIxA (cD d) (.int (side : Int)) = some (.int (portAt d side), .sh) := by
  rcases hs with rfl | rfl
  · exact ixA_t (i := 1) rfl
  · exact ixA_t (i := 2) rfl
/-- one side of one cell -/
theorem b0_tight_ok {cs : List Cell} {c : Cell} {p q : Int} {found : Option (D × Tg)} {ps : List (Int × Int)} (hc : cs.length ≤ 60) (hl : ps.length ≤ 1) {side : Nat} (hs : side = 1 ∨ side = 2) :
    b0_tight_ports [some (csD cs, .sh), some (.tuple [.int p, .int q], .sh), found, some (cD c, .sh), some (psD ps, .ow), some (.int (side : Int), .sh), none] =
      some (.nx [some (csD cs, .sh), some (.tuple [.int p, .int q], .sh), found, some (cD c, .sh), some (psD (ps ++ if (if side = 1 then p else q) < ((cs.filter fun d => decide (portAt d side = portAt c side)).length : Int) then [((side : Int), portAt c side)] else []), .ow), some (.int (side : Int), .sh), none]) := by
  have hl1 := lcl_map (enc := cD) (vs := [6]) (g := gN 6) (t := tB (e2 dEq (oE (e2 dIxA (oV 6) (oV 5))) (oE (e2 dIxA (oV 3) (oV 5))))) (m := eV 6) (e := [some (csD cs, .sh), some (.tuple [.int p, .int q], .sh), found, some (cD c, .sh), some (psD ps, .ow), some (.int (side : Int), .sh), none])
    (fun d => decide (portAt d side = portAt c side)) cD cs fun d _ => by
      refine ⟨_, by simp; rfl, _, by simp [ix_side _ hs]; rfl, by simp, fun _ => ⟨.sh, _, by simp; rfl, by simp⟩⟩
  have hlen : ((cs.filter fun d => decide (portAt d side = portAt c side)).map cD).length ≤ lim := by
    rw [List.length_map]
    have := List.length_filter_le (fun d => decide (portAt d side = portAt c side)) cs
    unfold lim
    omega
  have hsp : dIxA (.tuple [.int p, .int q]) (.int ((side : Int) - 1)) = some (.int (if side = 1 then p else q), .sh) := by
    rcases hs with rfl | rfl
    · exact ixA_t (i := 0) rfl
    · exact ixA_t (i := 1) rfl
  have hlp : ps.length < lim := by unfold lim; omega
  rw [List.length_map] at hlen
  by_cases hk : (if side = 1 then p else q) < ((cs.filter fun d => decide (portAt d side = portAt c side)).length : Int)
  · simp [b0_tight_ports, eLc, cV, hl1, hlen, hsp, hk, ix_side _ hs, psD, pD, hlp, show 2 ≤ lim by decide]
  · simp [b0_tight_ports, eLc, cV, hl1, hlen, hsp, hk]
theorem foldl_app {α β : Type} (f : α → β) : ∀ (xs : List α) (acc : List β), xs.foldl (fun a x => a ++ [f x]) acc = acc ++ xs.map f
  | [], acc => by simp
  | x :: xs, acc => by rw [List.foldl_cons, foldl_app f xs]; simp
theorem b1_tight_ok {cs : List Cell} {c : Cell} {p q : Int} (hc : cs.length ≤ 60) {acc : List (List (Int × Int))} (ha : acc.length ≤ 60) {j4 j5 : Option (D × Tg)} (h4 : Jk j4) (h5 : Jk j5) :
    b1_tight_ports [some (csD cs, .sh), some (.tuple [.int p, .int q], .sh), some (.list (acc.map psD), .ow), some (cD c, .sh), j4, j5, none] =
      some (.nx [some (csD cs, .sh), some (.tuple [.int p, .int q], .sh), some (.list ((acc ++ [portsAt cs p q c]).map psD), .ow), some (cD c, .sh), some (psD (portsAt cs p q c), .sh), some (.int 2, .sh), none]) := by
  have k1 := b0_tight_ok (c := c) (p := p) (q := q) (found := some (.list (acc.map psD), .ow)) (ps := []) hc (by simp) (side := 1) (.inl rfl)
  have e1 : ([] ++ if (if (1 : Nat) = 1 then p else q) < ((cs.filter fun d => decide (portAt d 1 = portAt c 1)).length : Int) then [(((1 : Nat) : Int), portAt c 1)] else []) = if p < ((cs.filter fun d => d.2.1 = c.2.1).length : Int) then [((1 : Int), c.2.1)] else [] := by
    simp [portAt]
  rw [e1] at k1
  have hl : (if p < ((cs.filter fun d => d.2.1 = c.2.1).length : Int) then [((1 : Int), c.2.1)] else []).length ≤ 1 := by split <;> simp
  have k2 := b0_tight_ok (c := c) (p := p) (q := q) (found := some (.list (acc.map psD), .ow)) (ps := if p < ((cs.filter fun d => d.2.1 = c.2.1).length : Int) then [((1 : Int), c.2.1)] else []) hc hl (side := 2) (.inr rfl)
  have e2 : ((if p < ((cs.filter fun d => d.2.1 = c.2.1).length : Int) then [((1 : Int), c.2.1)] else []) ++ if (if (2 : Nat) = 1 then p else q) < ((cs.filter fun d => decide (portAt d 2 = portAt c 2)).length : Int) then [(((2 : Nat) : Int), portAt c 2)] else []) = portsAt cs p q c := by
    simp [portAt, portsAt]
  rw [e2] at k2
  have hlim : acc.length < lim := by unfold lim; omega
  have k1' : b0_tight_ports [some (csD cs, .sh), some (.tuple [.int p, .int q], .sh), some (.list (acc.map psD), .ow), some (cD c, .sh), some (.list [], .ow), some (.int 1, .sh), none] = _ := k1
  have k2' : b0_tight_ports [some (csD cs, .sh), some (.tuple [.int p, .int q], .sh), some (.list (acc.map psD), .ow), some (cD c, .sh), _, some (.int 2, .sh), none] = _ := k2
  simp [b1_tight_ports, put_j h4, put_j h5, fl_cons, k1', k2', hlim, show 2 ≤ lim by decide]
theorem tight_ports_ok {cs : List Cell} {p q : Int} (hc : cs.length ≤ 60) : m_tight_ports [csD cs, .tuple [.int p, .int q]] = some (.list ((cs.map (portsAt cs p q)).map psD), .ow) := by
  obtain ⟨e', h1, j3, j4, j5, q3, q4, q5, rfl⟩ := fl_pre (enc := cD) (g := gN 3) (b := b1_tight_ports) (cs := cs) (fun pre (e : Ev) => ∃ j3 j4 j5, Jk j3 ∧ Jk j4 ∧ Jk j5 ∧ e = [some (csD cs, .sh), some (.tuple [.int p, .int q], .sh), some (.list ((pre.map (portsAt cs p q)).map psD), .ow), j3, j4, j5, none])
    (fun pre c post he e ⟨j3, j4, j5, q3, q4, q5, h⟩ => by
      subst h
      have hl : pre.length ≤ 60 := by rw [he, List.length_append] at hc; omega
      have hb := b1_tight_ok (p := p) (q := q) (c := c) (acc := pre.map (portsAt cs p q)) hc (by rw [List.length_map]; exact hl) q4 q5
      refine ⟨_, _, by simp [put_j q3], hb, some (cD c, .sh), some (psD (portsAt cs p q c), .sh), some (.int 2, .sh), jk_h, jk_h, jk_h, by simp⟩) cs [] rfl _ ⟨none, none, none, jk_n, jk_n, jk_n, rfl⟩
  have h1' : fl (gN 3) b1_tight_ports (cs.map cD) [some (csD cs, .sh), some (.tuple [.int p, .int q], .sh), some (.list [], .ow), none, none, none, none] = _ := h1
  simp [m_tight_ports, h1']
end Gn
namespace Dd
open PySem PySem.Spec PyProof.Rows L2
/-- a comprehension of two clauses whose parts give up nothing -/
theorem lcl2_all {α : Type} {enc : α → D} {vs vs1 : List Nat} {g g1 : GM} {im1 : IM} {m : EM} {e : Ev} (f : α → List D) : ∀ (xs : List α), (∀ x ∈ xs, ∃ e1 ds e2 e3, g (enc x) e = some e1 ∧ im1 e1 = some (ds, e2) ∧ lcl vs1 g1 tT m ds (wipeE e2 vs1) = some (f x, e3) ∧ wipeE e3 vs = e) →
    lcl2 vs vs1 g tT im1 g1 tT m (xs.map enc) e = some (xs.flatMap f, e)
  | [], _ => rfl
  | x :: xs, h => by
    obtain ⟨e1, ds, e2, e3, h1, h2, h3, h4⟩ := h x List.mem_cons_self
    have ih := lcl2_all (g := g) (g1 := g1) (im1 := im1) (m := m) (vs := vs) (vs1 := vs1) f xs fun y hy => h y (List.mem_cons_of_mem _ hy)
    rw [List.map_cons, List.flatMap_cons]
    unfold lcl2
    rw [h1]
    simp only [Option.bind_some, tT, if_true]
    rw [h2]
    simp only [Option.bind_some]
    rw [h3]
    simp only [Option.bind_some]
    rw [h4, ih]
    rfl
theorem okD_r {x y : D} (h1 : x.plain = true) (h2 : y.plain = true) (h3 : y.depth ≤ 60) : okD x y = true := by
  unfold okD
  rw [h1, h2]
  simp only [Bool.and_self, Bool.true_and, decide_eq_true_eq]
  exact Nat.le_trans (Nat.min_le_right _ _) h3
theorem plainAll_map {α : Type} {enc : α → D} (h : ∀ a, (enc a).plain = true) : ∀ l : List α, PyData.plainAll (l.map enc) = true
  | [] => rfl
  | a :: l => by
    rw [List.map_cons]
    unfold PyData.plainAll
    rw [h a, plainAll_map h l]
    rfl
theorem depthAll_map {α : Type} {enc : α → D} {k : Nat} (h : ∀ a, (enc a).depth ≤ k) : ∀ l : List α, PyData.depthAll (l.map enc) ≤ k
  | [] => Nat.zero_le _
  | a :: l => by
    rw [List.map_cons]
    unfold PyData.depthAll
    exact Nat.max_le.mpr ⟨h a, depthAll_map h l⟩
theorem eqvAll_map {α : Type} [DecidableEq α] {enc : α → D} (h : ∀ a b, PyData.eqv (enc a) (enc b) = decide (a = b)) : ∀ l m : List α, PyData.eqvAll (l.map enc) (m.map enc) = decide (l = m)
  | [], [] => rfl
  | [], _ :: _ => rfl
  | _ :: _, [] => rfl
  | a :: l, b :: m => by
    rw [List.map_cons, List.map_cons]
    unfold PyData.eqvAll
    rw [h a b, eqvAll_map h l m, ← Bool.decide_and]
    simp
end Dd
namespace Gn
open PySem PySem.Spec PyProof.Rows L2 Dd
abbrev nD (i : Nat) : D := .int (i : Int)
abbrev nsD (l : List Nat) : D := .list (l.map nD)
abbrev Ports := List (Int × Int)
def prt (ports : List Ports) (i : Nat) : Ports := ports[i]?.getD []
theorem ports_ix {ports : List Ports} {i : Nat} (h : i < ports.length) : dIxA (.list (ports.map psD)) (nD i) = some (psD (prt ports i), .sh) := by
  refine ixA_l ?_
  unfold prt
  rw [List.getElem?_map, List.getElem?_eq_getElem h]
  rfl
theorem eqv_pD (a b : Int × Int) : PyData.eqv (pD a) (pD b) = decide (a = b) := by
  rcases a with ⟨a, a'⟩
  rcases b with ⟨b, b'⟩
  show (decide (a = b) && (decide (a' = b') && true)) = _
  rw [Bool.and_true, ← Bool.decide_and]
  simp
theorem plain_pD (a : Int × Int) : (pD a).plain = true := rfl
theorem depth_pD (a : Int × Int) : (pD a).depth = 1 := rfl
theorem plain_psD (l : Ports) : (psD l).plain = true := plainAll_map (enc := pD) plain_pD l
theorem cnt_ps (a : Int × Int) (l : Ports) : dCnt (psD l) (pD a) = some (.int (l.count a : Int), .sh) := by
  show (if okD (psD l) (pD a) = true then some (PyData.int ((l.map pD).countP fun z => PyData.eqv z (pD a) : Nat), Tg.sh) else none) = _
  rw [if_pos (okD_r (plain_psD l) (plain_pD a) (by rw [depth_pD]; decide)), List.countP_map, List.count]
  have e : ((fun z => PyData.eqv z (pD a)) ∘ pD) = fun x => x == a := by
    funext z
    show PyData.eqv (pD z) (pD a) = _
    rw [eqv_pD z a]
    by_cases h : z = a <;> simp [h]
  rw [e]
/-- the ports that are in use -/
def usedBy (ports : List Ports) (row : List Nat) : Ports := row.flatMap fun o => prt ports o
def spd (p q : Int) (side : Int) : Int := if side = 1 then p else q
def fits (ports : List Ports) (p q : Int) (i : Nat) (row : List Nat) : Bool := (prt ports i).all fun pt => decide (((usedBy ports row).count pt : Int) < spd p q pt.1)
def SidesOk (ports : List Ports) : Prop := ∀ r ∈ ports, r.length ≤ 2 ∧ ∀ pt ∈ r, pt.1 = 1 ∨ pt.1 = 2
theorem spd_ix {p q side : Int} (h : side = 1 ∨ side = 2) : dIxA (.tuple [.int p, .int q]) (.int (side - 1)) = some (.int (spd p q side), .sh) := by
  rcases h with rfl | rfl
  · exact ixA_t (i := 0) rfl
  · exact ixA_t (i := 1) rfl
theorem used_len {ports : List Ports} (h : SidesOk ports) : ∀ row : List Nat, (usedBy ports row).length ≤ 2 * row.length
  | [] => by simp [usedBy]
  | o :: row => by
    have ih := used_len h row
    have ho : (prt ports o).length ≤ 2 := by
      unfold prt
      rcases hp : ports[o]? with _ | r
      · simp
      · exact (h r (List.mem_of_getElem? hp)).1
    unfold usedBy at ih ⊢
    rw [List.flatMap_cons, List.length_append, List.length_cons]
    omega
theorem b0_picks_ok {ports : List Ports} (hp : SidesOk ports) {p q : Int} {free due rows : Option (D × Tg)} {i : Nat} (hi : i < ports.length) {row : List Nat} (hr : ∀ o ∈ row, o < ports.length) (hrl : row.length ≤ 60) {acc : List (List Nat)} (ha : acc.length < lim) {j8 : Option (D × Tg)} (h8 : Jk j8) :
    b0_picks_in [some (.list (ports.map psD), .sh), some (.tuple [.int p, .int q], .sh), free, due, rows, some (nD i, .sh), some (.list (acc.map nsD), .ow), some (nsD row, .sh), j8, none, none] =
      some (.nx [some (.list (ports.map psD), .sh), some (.tuple [.int p, .int q], .sh), free, due, rows, some (nD i, .sh), some (.list ((acc ++ if fits ports p q i row then [row ++ [i]] else []).map nsD), .ow), some (nsD row, .sh), some (psD (usedBy ports row), .ow), none, none]) := by
  have hu : usedBy ports row = row.flatMap fun o => prt ports o := rfl
  have h2 := lcl2_all (enc := nD) (vs := [9, 10]) (vs1 := [10]) (g := gN 9) (g1 := gN 10) (im1 := jF (e2 dIxA (oV 0) (oV 9))) (m := eV 10) (e := [some (.list (ports.map psD), .sh), some (.tuple [.int p, .int q], .sh), free, due, rows, some (nD i, .sh), some (.list (acc.map nsD), .ow), some (nsD row, .sh), j8, none, none])
    (fun o => (prt ports o).map pD) row fun o ho => by
      have hx := ports_ix (ports := ports) (hr o ho)
      have h3 := lcl_all (enc := pD) (vs := [10]) (g := gN 10) (m := eV 10) (e := [some (.list (ports.map psD), .sh), some (.tuple [.int p, .int q], .sh), free, due, rows, some (nD i, .sh), some (.list (acc.map nsD), .ow), some (nsD row, .sh), j8, some (nD o, .sh), none]) pD (prt ports o) fun x _ => ⟨_, .sh, _, by simp; rfl, by simp; rfl, by simp⟩
      iterate 4 apply Exists.intro
      refine ⟨?_, ?_, ?_, ?_⟩
      · simp
        rfl
      · simp [hx]
        exact ⟨rfl, rfl⟩
      · exact h3
      · simp
  have hul : ((row.flatMap fun o => (prt ports o).map pD)).length ≤ lim := by
    have := used_len hp row
    rw [hu, List.length_flatMap] at this
    simp only [List.length_flatMap, List.length_map]
    unfold lim
    omega
  have hum : (row.flatMap fun o => (prt ports o).map pD) = (usedBy ports row).map pD := by
    rw [hu, List.map_flatMap]
  rw [hum] at h2 hul
  have hsd : ∀ pt ∈ prt ports i, pt.1 = 1 ∨ pt.1 = 2 := fun pt hpt => by
    unfold prt at hpt
    rw [List.getElem?_eq_getElem hi] at hpt
    exact (hp _ (List.getElem_mem hi)).2 pt hpt
  have hx := ports_ix (ports := ports) hi
  have h5 := lcl_all (enc := pD) (vs := [10]) (g := gN 10) (m := e2 dLt (oE (eMth isLst dCnt (oV 8) (oV 10))) (oE (e2 dIxA (oV 1) (oE (e2 dSub (oE (e2 dIxA (oV 10) (oE (eC (.int 0))))) (oE (eC (.int 1)))))))) (e := [some (.list (ports.map psD), .sh), some (.tuple [.int p, .int q], .sh), free, due, rows, some (nD i, .sh), some (.list (acc.map nsD), .ow), some (nsD row, .sh), some (psD (usedBy ports row), .ow), none, none])
    (fun pt => .bool (decide (((usedBy ports row).count pt : Int) < spd p q pt.1))) (prt ports i) fun pt hpt => by
      have hc := cnt_ps pt (usedBy ports row)
      have hsx := spd_ix (p := p) (q := q) (hsd pt hpt)
      iterate 3 apply Exists.intro
      refine ⟨?_, ?_, ?_⟩
      · simp
        rfl
      · simp [isLst, hc]
        simp [pD, hsx]
        exact ⟨rfl, rfl⟩
      · simp
  have hpl : (prt ports i).length ≤ lim := by
    unfold prt
    rw [List.getElem?_eq_getElem hi]
    have := (hp _ (List.getElem_mem hi)).1
    unfold lim
    exact Nat.le_trans this (by decide)
  rw [List.length_map] at hul
  have hm : ((prt ports i).map fun pt => PyData.bool (decide (((usedBy ports row).count pt : Int) < spd p q pt.1))) = ((prt ports i).map fun pt => decide (((usedBy ports row).count pt : Int) < spd p q pt.1)).map PyData.bool := by
    rw [List.map_map]
    rfl
  rw [hm] at h5
  have hf : ((prt ports i).map fun pt => decide (((usedBy ports row).count pt : Int) < spd p q pt.1)).all id = fits ports p q i row := by
    rw [List.all_map]
    rfl
  have hbl : ((prt ports i).map fun pt => decide (((usedBy ports row).count pt : Int) < spd p q pt.1)).length ≤ lim := by
    rw [List.length_map]
    exact hpl
  generalize ((prt ports i).map fun pt => decide (((usedBy ports row).count pt : Int) < spd p q pt.1)) = bs at h5 hf hbl
  have hrl2 : row.length + 1 ≤ lim := by unfold lim; omega
  cases hk : fits ports p q i row with
  | true =>
    rw [hk] at hf
    simp [b0_picks_in, eLc, cV, h2, hul, put_j h8, hx, h5, hbl, hf, ha, hrl2]
  | false =>
    rw [hk] at hf
    simp [b0_picks_in, eLc, cV, h2, hul, put_j h8, hx, h5, hbl, hf]
end Gn
namespace Gn
open PySem PySem.Spec PyProof.Rows L2 Dd
theorem eqv_nD (a b : Nat) : PyData.eqv (nD a) (nD b) = decide (a = b) := by
  show decide ((a : Int) = (b : Int)) = _
  by_cases h : a = b
  · simp [h]
  · rw [decide_eq_false h, decide_eq_false (by omega)]
theorem inA_map {α : Type} [DecidableEq α] {enc : α → D} (h : ∀ a b, PyData.eqv (enc a) (enc b) = decide (a = b)) (hp : ∀ a, (enc a).plain = true) (hd : ∀ a, (enc a).depth ≤ 60) (a : α) (l : List α) : dInA (enc a) (.list (l.map enc)) = some (.bool (decide (a ∈ l)), .sh) := by
  have h2 : hasD (enc a) (.list (l.map enc)) = some (decide (a ∈ l)) := by
    show (if (PyData.plainAll (l.map enc) && (enc a).plain && decide (min (PyData.depthAll (l.map enc)) (enc a).depth ≤ 60)) = true then some ((l.map enc).any fun y => PyData.eqv y (enc a)) else none) = _
    rw [plainAll_map hp, hp a, decide_eq_true (Nat.le_trans (Nat.min_le_right _ _) (hd a))]
    simp only [Bool.and_self, if_true, Option.some.injEq]
    rw [List.any_map, Bool.eq_iff_iff, List.any_eq_true, decide_eq_true_eq]
    refine ⟨fun ⟨b, hb, e⟩ => ?_, fun m => ⟨a, m, ?_⟩⟩
    · have e2 : PyData.eqv (enc b) (enc a) = true := e
      rw [h b a, decide_eq_true_eq] at e2
      exact e2 ▸ hb
    · show PyData.eqv (enc a) (enc a) = true
      rw [h a a, decide_eq_true_eq]
  unfold dInA alt2 dIn
  rw [h2]
  rfl
theorem in_ns (i : Nat) (l : List Nat) : dInA (nD i) (nsD l) = some (.bool (decide (i ∈ l)), .sh) := inA_map eqv_nD (fun _ => rfl) (fun _ => by show (0 : Nat) ≤ 60; decide) i l
def plus (ports : List Ports) (p q : Int) (i : Nat) (row : List Nat) : List (List Nat) := if fits ports p q i row then [row ++ [i]] else []
def longer (ports : List Ports) (p q : Int) (i : Nat) (rows : List (List Nat)) : List (List Nat) := rows.flatMap (plus ports p q i)
theorem longer_snoc (ports : List Ports) (p q : Int) (i : Nat) (pre : List (List Nat)) (c : List Nat) : longer ports p q i (pre ++ [c]) = longer ports p q i pre ++ if fits ports p q i c then [c ++ [i]] else [] := by
  unfold longer
  rw [List.flatMap_append]
  simp [plus]
theorem longer_len (ports : List Ports) (p q : Int) (i : Nat) : ∀ pre : List (List Nat), (longer ports p q i pre).length ≤ pre.length
  | [] => Nat.le_refl _
  | a :: pre => by
    have ih := longer_len ports p q i pre
    unfold longer at ih ⊢
    rw [List.flatMap_cons, List.length_append, List.length_cons]
    unfold plus at ih ⊢
    split
    · rw [List.length_singleton]
      omega
    · rw [List.length_nil]
      omega
theorem b1_picks_ok {ports : List Ports} (hp : SidesOk ports) {p q : Int} {free : Option (D × Tg)} {due : List Nat} {i : Nat} (hi : i < ports.length) {rows : List (List Nat)} (hr : ∀ row ∈ rows, (∀ o ∈ row, o < ports.length) ∧ row.length ≤ 60) (hl : rows.length ≤ 128) {j6 j7 j8 : Option (D × Tg)} (h6 : Jk j6) (h7 : Jk j7) (h8 : Jk j8) :
    ∃ k6 k7 k8, Jk k6 ∧ Jk k7 ∧ Jk k8 ∧ b1_picks_in [some (.list (ports.map psD), .sh), some (.tuple [.int p, .int q], .sh), free, some (nsD due, .sh), some (.list (rows.map nsD), .ow), some (nD i, .sh), j6, j7, j8, none, none] =
      some (.nx [some (.list (ports.map psD), .sh), some (.tuple [.int p, .int q], .sh), free, some (nsD due, .sh), some (.list ((if i ∈ due then longer ports p q i rows else rows ++ longer ports p q i rows).map nsD), .ow), some (nD i, .sh), k6, k7, k8, none, none]) := by
  obtain ⟨e', h1, k7, k8, q7, q8, rfl⟩ := fl_pre (enc := nsD) (g := gN 7) (b := b0_picks_in) (cs := rows) (fun pre (e : Ev) => ∃ j7 j8, Jk j7 ∧ Jk j8 ∧ e = [some (.list (ports.map psD), .sh), some (.tuple [.int p, .int q], .sh), free, some (nsD due, .sh), some (.list (rows.map nsD), .sh), some (nD i, .sh), some (.list ((longer ports p q i pre).map nsD), .ow), j7, j8, none, none])
    (fun pre c post he e ⟨j7, j8, q7, q8, h⟩ => by
      subst h
      have hl2 := longer_len ports p q i pre
      have hl3 : pre.length ≤ 128 := by rw [he, List.length_append] at hl; omega
      have hc := hr c (by rw [he]; simp)
      have hb := b0_picks_ok hp (p := p) (q := q) (free := free) (due := some (nsD due, .sh)) (rows := some (.list (rows.map nsD), .sh)) hi hc.1 hc.2 (acc := longer ports p q i pre) (by unfold lim; omega) q8
      refine ⟨_, _, by simp [put_j q7], hb, some (nsD c, .sh), some (psD (usedBy ports c), .ow), jk_h, jk_w, by rw [longer_snoc]⟩) rows [] rfl [some (.list (ports.map psD), .sh), some (.tuple [.int p, .int q], .sh), free, some (nsD due, .sh), some (.list (rows.map nsD), .sh), some (nD i, .sh), some (.list [], .ow), j7, j8, none, none] ⟨j7, j8, h7, h8, rfl⟩
  have hin := in_ns i due
  have hll := longer_len ports p q i rows
  generalize (longer ports p q i rows) = longer at h1 hll ⊢
  by_cases hd : i ∈ due
  · refine ⟨none, k7, k8, jk_n, q7, q8, ?_⟩
    simp [b1_picks_in, put_j h6, h1, hin, hd]
  · have hlim : rows.length + longer.length ≤ lim := by unfold lim; omega
    refine ⟨some (.list (longer.map nsD), .ow), k7, k8, jk_w, q7, q8, ?_⟩
    simp [b1_picks_in, put_j h6, h1, hin, hd, hlim]
/-- what picks_in gives -/
def picksStep (ports : List Ports) (p q : Int) (due : List Nat) (rows : List (List Nat)) (i : Nat) : List (List Nat) := if i ∈ due then longer ports p q i rows else rows ++ longer ports p q i rows
def picks (ports : List Ports) (p q : Int) (free due : List Nat) : List (List Nat) := free.foldl (picksStep ports p q due) [[]]
theorem picks_len (ports : List Ports) (p q : Int) (due : List Nat) : ∀ (free : List Nat) (rows : List (List Nat)), (free.foldl (picksStep ports p q due) rows).length ≤ rows.length * 2 ^ free.length
  | [], rows => by simp
  | i :: free, rows => by
    have ih := picks_len ports p q due free (picksStep ports p q due rows i)
    have h1 := longer_len ports p q i rows
    have h2 : (picksStep ports p q due rows i).length ≤ rows.length * 2 := by
      unfold picksStep
      split
      · omega
      · rw [List.length_append]
        omega
    rw [List.foldl_cons, List.length_cons, Nat.pow_succ]
    refine Nat.le_trans ih ?_
    rw [show rows.length * (2 ^ free.length * 2) = rows.length * 2 * 2 ^ free.length by rw [Nat.mul_assoc, Nat.mul_comm 2]]
    exact Nat.mul_le_mul_right _ h2
theorem picks_mem (ports : List Ports) (p q : Int) (due : List Nat) : ∀ (free : List Nat) (rows : List (List Nat)) (k : Nat), (∀ row ∈ rows, row.length ≤ k ∧ ∀ o ∈ row, o < ports.length) → (∀ i ∈ free, i < ports.length) → ∀ row ∈ free.foldl (picksStep ports p q due) rows, row.length ≤ k + free.length ∧ ∀ o ∈ row, o < ports.length
  | [], rows, k, h, _, row, hr => h row hr
  | i :: free, rows, k, h, hf, row, hr => by
    rw [List.foldl_cons] at hr
    have h2 : ∀ row ∈ longer ports p q i rows, row.length ≤ k + 1 ∧ ∀ o ∈ row, o < ports.length := fun r hr => by
      obtain ⟨r0, h0, h1⟩ := List.mem_flatMap.mp hr
      unfold plus at h1
      split at h1
      · rw [List.mem_singleton] at h1
        subst h1
        obtain ⟨g1, g2⟩ := h r0 h0
        rw [List.length_append, List.length_singleton]
        refine ⟨by omega, fun o ho => ?_⟩
        rcases List.mem_append.mp ho with ho | ho
        · exact g2 o ho
        · rw [List.mem_singleton] at ho
          exact ho ▸ hf i List.mem_cons_self
      · cases h1
    obtain ⟨g1, g2⟩ := picks_mem ports p q due free (picksStep ports p q due rows i) (k + 1) (fun r hr => by
      unfold picksStep at hr
      split at hr
      · exact h2 r hr
      · rcases List.mem_append.mp hr with hr | hr
        · exact ⟨Nat.le_succ_of_le (h r hr).1, (h r hr).2⟩
        · exact h2 r hr) (fun j hj => hf j (List.mem_cons_of_mem _ hj)) row hr
    rw [List.length_cons]
    exact ⟨by omega, g2⟩
theorem picks_in_ok {ports : List Ports} (hp : SidesOk ports) {p q : Int} {free due : List Nat} (hf : ∀ i ∈ free, i < ports.length) (hl : free.length ≤ 8) :
    m_picks_in [.list (ports.map psD), .tuple [.int p, .int q], nsD free, nsD due] = some (.list ((picks ports p q free due).map nsD), .ow) := by
  obtain ⟨e', h1, j5, j6, j7, j8, q5, q6, q7, q8, rfl⟩ := fl_pre (enc := nD) (g := gN 5) (b := b1_picks_in) (cs := free) (fun pre (e : Ev) => ∃ j5 j6 j7 j8, Jk j5 ∧ Jk j6 ∧ Jk j7 ∧ Jk j8 ∧ e = [some (.list (ports.map psD), .sh), some (.tuple [.int p, .int q], .sh), some (nsD free, .sh), some (nsD due, .sh), some (.list ((picks ports p q pre due).map nsD), .ow), j5, j6, j7, j8, none, none])
    (fun pre c post he e ⟨j5, j6, j7, j8, q5, q6, q7, q8, h⟩ => by
      subst h
      have hpl : pre.length ≤ 7 := by rw [he, List.length_append, List.length_cons] at hl; omega
      have hpf : ∀ i ∈ pre, i < ports.length := fun i hi => hf i (by rw [he]; exact List.mem_append_left _ hi)
      have hlen : (picks ports p q pre due).length ≤ 128 := by
        have h := picks_len ports p q due pre [[]]
        rw [List.length_singleton, Nat.one_mul] at h
        exact Nat.le_trans h (Nat.pow_le_pow_right (by decide) hpl)
      have hrows : ∀ row ∈ picks ports p q pre due, (∀ o ∈ row, o < ports.length) ∧ row.length ≤ 60 := fun row hr => by
        have := picks_mem ports p q due pre [[]] 0 (by simp) hpf row hr
        exact ⟨this.2, by omega⟩
      obtain ⟨k6, k7, k8, r6, r7, r8, hb⟩ := b1_picks_ok hp (p := p) (q := q) (free := some (nsD free, .sh)) (due := due) (hf c (by rw [he]; simp)) hrows hlen q6 q7 q8
      refine ⟨_, _, by simp [put_j q5], hb, some (nD c, .sh), k6, k7, k8, jk_h, r6, r7, r8, ?_⟩
      unfold picks picksStep
      rw [List.foldl_append]
      rfl) free [] rfl [some (.list (ports.map psD), .sh), some (.tuple [.int p, .int q], .sh), some (nsD free, .sh), some (nsD due, .sh), some (.list [.list []], .ow), none, none, none, none, none, none] ⟨none, none, none, none, jk_n, jk_n, jk_n, jk_n, rfl⟩
  simp [m_picks_in, h1, show ¬ lim = 0 by decide]
end Gn
namespace Gn
open PySem PySem.Spec PyProof.Rows L2 Dd
/-- a dict of numbers by numbers -/
def wrow (e : Nat × Nat) : D × D := (.int (e.1 : Int), .int (e.2 : Int))
abbrev wD (w : List (Nat × Nat)) : D := .dict (w.map wrow)
def wval (w : List (Nat × Nat)) (k : Nat) : Nat := ((w.find? fun e => decide (e.1 = k)).map (·.2)).getD 0
def wadd (w : List (Nat × Nat)) (k c : Nat) : List (Nat × Nat) := if (w.any fun e => decide (e.1 = k)) = true then w.map (fun e => if e.1 = k then (e.1, wval w k + c) else e) else w ++ [(k, wval w k + c)]
theorem unK_row (e : Nat × Nat) (k : Nat) : (unK (wrow e).1 = some (.inl (k : Int))) = (e.1 = k) := by
  show (some (Sum.inl (e.1 : Int) : Key) = some (Sum.inl (k : Int))) = _
  rw [eq_iff_iff]
  refine ⟨fun q => ?_, fun q => by rw [q]⟩
  have q2 := Sum.inl.inj (Option.some.inj q)
  omega
theorem tget_w (w : List (Nat × Nat)) (k : Nat) : tGet unK (w.map wrow) (.inl (k : Int)) = (w.find? fun e => decide (e.1 = k)).map fun e => .int (e.2 : Int) := by
  unfold tGet
  rw [List.find?_map]
  have e : ((fun p : D × D => decide (unK p.1 = some (.inl (k : Int)))) ∘ wrow) = fun e => decide (e.1 = k) := by
    funext z
    show decide (unK (wrow z).1 = some (.inl (k : Int))) = _
    simp only [unK_row]
  rw [e, Option.map_map]
  rfl
theorem tput_w (w : List (Nat × Nat)) (k c : Nat) : tPut unK (w.map wrow) (.int (k : Int)) (.inl (k : Int)) (.int ((wval w k : Int) + (c : Int))) = (wadd w k c).map wrow := by
  unfold tPut wadd
  rw [List.any_map]
  have e : ((fun p : D × D => decide (unK p.1 = some (.inl (k : Int)))) ∘ wrow) = fun e => decide (e.1 = k) := by
    funext z
    show decide (unK (wrow z).1 = some (.inl (k : Int))) = _
    simp only [unK_row]
  rw [e]
  split
  · rw [List.map_map, List.map_map]
    refine List.map_congr_left fun z _ => ?_
    show (if unK (wrow z).1 = some (.inl (k : Int)) then ((wrow z).1, PyData.int ((wval w k : Int) + (c : Int))) else wrow z) = wrow (if z.1 = k then (z.1, wval w k + c) else z)
    simp only [unK_row]
    split
    · rfl
    · rfl
  · rw [List.map_append]
    simp [wrow]
theorem dget_w (w : List (Nat × Nat)) (k : Nat) : dGet (wD w) (.int (k : Int)) = some ((w.find? fun e => decide (e.1 = k)).map fun e => .int (e.2 : Int)) := by
  have h : dGet (wD w) (.int (k : Int)) = some (tGet unK (w.map wrow) (.inl (k : Int))) := by
    cases w <;> rfl
  rw [h, tget_w]
theorem dget_w0 (w : List (Nat × Nat)) (k : Nat) : ((w.find? fun e => decide (e.1 = k)).map fun e => PyData.int (e.2 : Int)).getD (.int 0) = .int (wval w k : Int) := by
  unfold wval
  cases w.find? fun e => decide (e.1 = k) <;> rfl
theorem dput_w {w : List (Nat × Nat)} (k c : Nat) (h : w.length < lim) : dPut (wD w) (.int (k : Int)) (.int ((wval w k : Int) + (c : Int))) = some (wD (wadd w k c)) := by
  have h2 : dPut (wD w) (.int (k : Int)) (.int ((wval w k : Int) + (c : Int))) = if (w.map wrow).length < lim then some (.dict (tPut unK (w.map wrow) (.int (k : Int)) (.inl (k : Int)) (.int ((wval w k : Int) + (c : Int))))) else none := by
    cases w <;> rfl
  rw [h2, List.length_map, if_pos h, tput_w]
/-- the bits of picks -/
def maskOf (l : List Nat) : Nat := (l.map fun i => 2 ^ i).sum
theorem sum_mask (l : List Nat) : (l.map fun i : Nat => (1 : Int) * 2 ^ i).sum = (maskOf l : Int) := by
  unfold maskOf
  induction l with
  | nil => rfl
  | cons a l ih =>
    rw [List.map_cons, List.sum_cons, ih, List.map_cons, List.sum_cons]
    simp
theorem fSum_ints {ns : List Int} : fSum [.list (ns.map PyData.int)] = some (.int ns.sum, .sh) := by
  show (intsD (ns.map PyData.int)).map _ = _
  rw [intsD_map]
  rfl
theorem shl_n {i : Nat} (h : i ≤ 100) : dShl (.int 1) (nD i) = some (.int (1 * 2 ^ i), .sh) := by
  show (if 0 ≤ (i : Int) ∧ (i : Int) ≤ 1000000 ∧ (1 : Int).natAbs < 18446744073709551616 then (some (PyData.int ((1 : Int) * 2 ^ (i : Int).toNat), Tg.sh) : Option Res) else none) = _
  rw [if_pos ⟨by omega, by omega, by decide⟩]
  rfl
theorem b0_ways_ok {x0 x1 x2 x3 x4 x5 x6 x7 x8 x11 x12 : Option (D × Tg)} {m c : Nat} {P : List Nat} (hP : ∀ i ∈ P, i ≤ 100) (hl : P.length ≤ 60) {w : List (Nat × Nat)} (hw : w.length < lim) {j14 : Option (D × Tg)} (h14 : Jk j14) :
    b0_ways_with [x0, x1, x2, x3, x4, x5, x6, x7, x8, some (wD w, .ow), some (nD m, .sh), some (nD c, .sh), x12, some (nsD P, .sh), j14, none] =
      some (.nx [x0, x1, x2, x3, x4, x5, x6, x7, x8, some (wD (wadd w (m + maskOf P) c), .ow), some (nD m, .sh), some (nD c, .sh), x12, some (nsD P, .sh), some (nD (m + maskOf P), .sh), none]) := by
  have h1 := lcl_all (enc := nD) (vs := [15]) (g := gN 15) (m := e2 dShl (oE (eC (.int 1))) (oV 15)) (e := [x0, x1, x2, x3, x4, x5, x6, x7, x8, some (wD w, .ow), some (nD m, .sh), some (nD c, .sh), x12, some (nsD P, .sh), j14, none])
    (fun i => .int (1 * 2 ^ i)) P fun i hi => by
      have hs := shl_n (hP i hi)
      iterate 3 apply Exists.intro
      refine ⟨?_, ?_, ?_⟩
      · simp
        rfl
      · simp [hs]
        exact ⟨rfl, rfl⟩
      · simp
  have hm : (P.map fun i : Nat => PyData.int (1 * 2 ^ i)) = (P.map fun i : Nat => (1 : Int) * 2 ^ i).map PyData.int := by
    rw [List.map_map]
    rfl
  rw [hm] at h1
  have hsum := sum_mask P
  have hbl : (P.map fun i : Nat => (1 : Int) * 2 ^ i).length ≤ lim := by
    rw [List.length_map]
    unfold lim
    omega
  generalize (P.map fun i : Nat => (1 : Int) * 2 ^ i) = bs at h1 hsum hbl
  have hs2 := fSum_ints (ns := bs)
  rw [hsum] at hs2
  have hput := dput_w (m + maskOf P) c hw
  have hget := dget_w w (m + maskOf P)
  have hg0 := dget_w0 w (m + maskOf P)
  have hc : ((m : Int) + (maskOf P : Int)) = ((m + maskOf P : Nat) : Int) := by omega
  generalize m + maskOf P = k at hput hget hg0 hc ⊢
  simp [b0_ways_with, altS, sStL, eLc, cV, h1, hbl, hs2, put_j h14, hc, hget, hg0, hput, isDic]
end Gn
namespace Gn
open PySem PySem.Spec PyProof.Rows L2 Dd
def freeOf (here : List Nat) (m : Nat) : List Nat := here.filter fun i => !m.testBit i
def putAll (w : List (Nat × Nat)) (m c : Nat) (rows : List (List Nat)) : List (Nat × Nat) := rows.foldl (fun w P => wadd w (m + maskOf P) c) w
theorem bit_free (m i : Nat) : decide (Builtin.bitAnd ((m : Int) / 2 ^ i) 1 = 0) = !m.testBit i := by
  have e : (m : Int) / 2 ^ i = ((m / 2 ^ i : Nat) : Int) := by simp
  have e2 : Builtin.bitAnd ((m / 2 ^ i : Nat) : Int) 1 = (((m / 2 ^ i) &&& 1 : Nat) : Int) := by
    unfold Builtin.bitAnd
    rw [decide_eq_true (Int.natCast_nonneg _)]
    rfl
  rw [e, e2, Nat.and_one_is_mod, Nat.testBit_eq_decide_div_mod_eq]
  have h : m / 2 ^ i % 2 < 2 := Nat.mod_lt _ (by decide)
  by_cases q : m / 2 ^ i % 2 = 1
  · simp [q]
  · have q0 : m / 2 ^ i % 2 = 0 := by omega
    simp [q0]
theorem wadd_len (w : List (Nat × Nat)) (k c : Nat) : (wadd w k c).length ≤ w.length + 1 := by
  unfold wadd
  split
  · rw [List.length_map]
    omega
  · simp
theorem putAll_len (m c : Nat) : ∀ (rows : List (List Nat)) (w : List (Nat × Nat)), (putAll w m c rows).length ≤ w.length + rows.length
  | [], w => Nat.le_refl _
  | P :: rows, w => by
    have ih := putAll_len m c rows (wadd w (m + maskOf P) c)
    have := wadd_len w (m + maskOf P) c
    unfold putAll at ih ⊢
    rw [List.foldl_cons, List.length_cons]
    omega
theorem picks_len1 (ports : List Ports) (p q : Int) (due free : List Nat) (h : free.length ≤ 8) : (picks ports p q free due).length ≤ 256 := by
  have h1 := picks_len ports p q due free [[]]
  rw [List.length_singleton, Nat.one_mul] at h1
  exact Nat.le_trans h1 (Nat.pow_le_pow_right (by decide) h)
theorem b1_ways_ok {ports : List Ports} (hp : SidesOk ports) (hpl : ports.length ≤ 60) {p q : Int} {x1 x3 x4 x5 x6 : Option (D × Tg)} {here due : List Nat} {t8 : Tg} (ht : t8 = .ow ∨ t8 = .sh) (hh : ∀ i ∈ here, i < ports.length) (hhl : here.length ≤ 8) {m c : Nat} {w : List (Nat × Nat)} (hw : w.length ≤ 1000) {j12 j13 j14 : Option (D × Tg)} (h12 : Jk j12) (h13 : Jk j13) (h14 : Jk j14) :
    ∃ k12 k13 k14, Jk k12 ∧ Jk k13 ∧ Jk k14 ∧ b1_ways_with [some (.list (ports.map psD), .sh), x1, some (.tuple [.int p, .int q], .sh), x3, x4, x5, x6, some (nsD here, .ow), some (nsD due, t8), some (wD w, .ow), some (nD m, .sh), some (nD c, .sh), j12, j13, j14, none] =
      some (.nx [some (.list (ports.map psD), .sh), x1, some (.tuple [.int p, .int q], .sh), x3, x4, x5, x6, some (nsD here, .ow), some (nsD due, .sh), some (wD (putAll w m c (picks ports p q (freeOf here m) due)), .ow), some (nD m, .sh), some (nD c, .sh), k12, k13, k14, none]) := by
  have hfl : (freeOf here m).length ≤ 8 := Nat.le_trans (List.length_filter_le _ _) hhl
  have hff : ∀ i ∈ freeOf here m, i < ports.length := fun i hi => hh i (List.mem_filter.mp hi).1
  have hpk := picks_in_ok hp (p := p) (q := q) (due := due) hff hfl
  have hkl := picks_len1 ports p q due (freeOf here m) hfl
  have hkm : ∀ row ∈ picks ports p q (freeOf here m) due, row.length ≤ 60 ∧ ∀ i ∈ row, i ≤ 100 := fun row hr => by
    obtain ⟨a, b⟩ := picks_mem ports p q due (freeOf here m) [[]] 0 (by simp) hff row hr
    exact ⟨by omega, fun i hi => by have := b i hi; omega⟩
  have h1 := lcl_map (enc := nD) (vs := [15]) (g := gN 15) (t := tB (e2 dEq (oE (e2 dBand (oE (e2 dShr (oV 10) (oV 15))) (oE (eC (.int 1))))) (oE (eC (.int 0))))) (m := eV 15) (e := [some (.list (ports.map psD), .sh), x1, some (.tuple [.int p, .int q], .sh), x3, x4, x5, x6, none, some (nsD due, t8), some (wD w, .ow), some (nD m, .sh), some (nD c, .sh), j12, j13, j14, none])
    (fun i => !m.testBit i) nD here fun i hi => by
      have hb := bit_free m i
      iterate 1 apply Exists.intro
      refine ⟨?_, ?_⟩
      · simp
        rfl
      iterate 1 apply Exists.intro
      refine ⟨?_, ?_, ?_⟩
      · simp [hb, dShr, dBand]
        rfl
      · simp
      · intro _
        iterate 2 apply Exists.intro
        refine ⟨?_, ?_⟩
        · simp
          exact ⟨rfl, rfl⟩
        · simp
  have hnl : (freeOf here m).length ≤ lim := by unfold lim; omega
  have hw0 : w.length < lim := by unfold lim; omega
  obtain ⟨e', h2, k13, k14, q13, q14, rfl⟩ := fl_pre (enc := nsD) (g := gN 13) (b := b0_ways_with) (cs := picks ports p q (freeOf here m) due) (fun pre (e : Ev) => ∃ j13 j14, Jk j13 ∧ Jk j14 ∧ e = [some (.list (ports.map psD), .sh), x1, some (.tuple [.int p, .int q], .sh), x3, x4, x5, x6, some (nsD here, .ow), some (nsD due, .sh), some (wD (putAll w m c pre), .ow), some (nD m, .sh), some (nD c, .sh), some (nsD (freeOf here m), .sh), j13, j14, none])
    (fun pre P post he e ⟨j13, j14, q13, q14, h⟩ => by
      subst h
      have hP := hkm P (by rw [he]; simp)
      have hb := putAll_len m c pre w
      have hpre : pre.length ≤ 256 := by rw [he, List.length_append] at hkl; omega
      have hb0 := b0_ways_ok (x0 := some (.list (ports.map psD), .sh)) (x1 := x1) (x2 := some (.tuple [.int p, .int q], .sh)) (x3 := x3) (x4 := x4) (x5 := x5) (x6 := x6) (x7 := some (nsD here, .ow)) (x8 := some (nsD due, .sh)) (x11 := some (nD c, .sh)) (x12 := some (nsD (freeOf here m), .sh)) (m := m) (c := c) hP.2 hP.1 (w := putAll w m c pre) (by unfold lim; omega) q14
      refine ⟨_, _, by simp [put_j q13], hb0, some (nsD P, .sh), some (nD (m + maskOf P), .sh), jk_h, jk_h, ?_⟩
      unfold putAll
      rw [List.foldl_append]
      rfl) (picks ports p q (freeOf here m) due) [] rfl [some (.list (ports.map psD), .sh), x1, some (.tuple [.int p, .int q], .sh), x3, x4, x5, x6, some (nsD here, .ow), some (nsD due, .sh), some (wD w, .ow), some (nD m, .sh), some (nD c, .sh), some (nsD (freeOf here m), .sh), j13, j14, none] ⟨j13, j14, h13, h14, rfl⟩
  refine ⟨some (nsD (freeOf here m), .sh), k13, k14, jk_h, q13, q14, ?_⟩
  have hfe : here.filter (fun i => !m.testBit i) = freeOf here m := rfl
  rw [hfe] at h1
  generalize freeOf here m = fr at h1 h2 hpk hnl hw0 ⊢
  generalize picks ports p q fr due = pk at h2 hpk ⊢
  rcases ht with rfl | rfl
  · simp [b1_ways_with, eLc, cV, h1, hnl, put_j h12, hpk, h2]
  · simp [b1_ways_with, eLc, cV, h1, hnl, put_j h12, hpk, h2]
end Gn
namespace Gn
theorem bit_add {x i : Nat} (h : x.testBit i = false) (j : Nat) : (2 ^ i + x).testBit j = (decide (j = i) || x.testBit j) := by
  rcases Nat.lt_trichotomy j i with q | q | q
  · rw [Nat.testBit_two_pow_add_gt q, decide_eq_false (by omega), Bool.false_or]
  · subst q
    rw [Nat.testBit_two_pow_add_eq, h, decide_eq_true rfl]
    rfl
  · have h0 : x / 2 ^ i % 2 = 0 := by
      rw [Nat.testBit_eq_decide_div_mod_eq] at h
      have h1 := of_decide_eq_false h
      have h2 : x / 2 ^ i % 2 < 2 := Nat.mod_lt _ (by decide)
      omega
    have h1 : (2 ^ i + x) / 2 ^ (i + 1) = x / 2 ^ (i + 1) := by
      rw [Nat.pow_succ, ← Nat.div_div_eq_div_mul, ← Nat.div_div_eq_div_mul, Nat.add_div_left _ (Nat.two_pow_pos i)]
      omega
    have h2 : ∀ y : Nat, y.testBit j = (y / 2 ^ (i + 1)).testBit (j - (i + 1)) := fun y => by
      rw [Nat.testBit_div_two_pow]
      congr 1
      omega
    rw [h2, h1, ← h2, decide_eq_false (by omega), Bool.false_or]
theorem bit_mask {m : Nat} : ∀ {P : List Nat}, P.Nodup → (∀ i ∈ P, m.testBit i = false) → ∀ j, (m + maskOf P).testBit j = (m.testBit j || decide (j ∈ P))
  | [], _, _, j => by simp [maskOf]
  | i :: P, hn, h, j => by
    rw [List.nodup_cons] at hn
    have ih := bit_mask (m := m) hn.2 fun k hk => h k (List.mem_cons_of_mem _ hk)
    have hi : (m + maskOf P).testBit i = false := by
      rw [ih i, h i List.mem_cons_self, decide_eq_false hn.1]
      rfl
    have e : m + maskOf (i :: P) = 2 ^ i + (m + maskOf P) := by
      unfold maskOf
      rw [List.map_cons, List.sum_cons]
      omega
    rw [e, bit_add hi, ih j]
    by_cases q : j = i <;> simp [q]
theorem mask_bit {P : List Nat} (h : P.Nodup) (j : Nat) : (maskOf P).testBit j = decide (j ∈ P) := by
  have := bit_mask (m := 0) h (fun _ _ => Nat.zero_testBit _) j
  rw [Nat.zero_add, Nat.zero_testBit, Bool.false_or] at this
  exact this
theorem mask_lt {n m : Nat} {P : List Nat} (hm : m < 2 ^ n) (hn : P.Nodup) (h : ∀ i ∈ P, m.testBit i = false ∧ i < n) : m + maskOf P < 2 ^ n := by
  refine Nat.lt_pow_two_of_testBit _ fun i hi => ?_
  rw [bit_mask hn (fun j hj => (h j hj).1), Nat.testBit_lt_two_pow (Nat.lt_of_lt_of_le hm (Nat.pow_le_pow_right (by decide) hi)), Bool.false_or]
  exact decide_eq_false fun q => by
    have := (h i q).2
    omega
/-- keys are masks, each once -/
structure WOk (n : Nat) (w : List (Nat × Nat)) : Prop where
  nd : (w.map (·.1)).Nodup
  lt : ∀ e ∈ w, e.1 < 2 ^ n
theorem WOk.len {n : Nat} {w : List (Nat × Nat)} (h : WOk n w) : w.length ≤ 2 ^ n := by
  have h1 := List.Nodup.length_le_of_subset (l₂ := List.range (2 ^ n)) h.nd fun x hx => by
    obtain ⟨e, he, rfl⟩ := List.mem_map.mp hx
    exact List.mem_range.mpr (h.lt e he)
  rwa [List.length_map, List.length_range] at h1
theorem wadd_keys (w : List (Nat × Nat)) (k c : Nat) : (wadd w k c).map (·.1) = if k ∈ w.map (·.1) then w.map (·.1) else w.map (·.1) ++ [k] := by
  unfold wadd
  have e : ((w.any fun e => decide (e.1 = k)) = true) = (k ∈ w.map (·.1)) := by
    rw [List.any_eq_true, List.mem_map, eq_iff_iff]
    exact ⟨fun ⟨x, h1, h2⟩ => ⟨x, h1, of_decide_eq_true h2⟩, fun ⟨x, h1, h2⟩ => ⟨x, h1, decide_eq_true h2⟩⟩
  simp only [e]
  split
  · rw [List.map_map]
    refine List.map_congr_left fun x _ => ?_
    show (if x.1 = k then (x.1, wval w k + c) else x).1 = x.1
    split <;> rfl
  · simp
theorem wadd_ok {n : Nat} {w : List (Nat × Nat)} (h : WOk n w) {k c : Nat} (hk : k < 2 ^ n) : WOk n (wadd w k c) := by
  have e := wadd_keys w k c
  refine ⟨?_, fun x hx => ?_⟩
  · rw [e]
    split
    · exact h.nd
    · rename_i q
      rw [List.nodup_append]
      refine ⟨h.nd, by simp, fun a ha b hb => ?_⟩
      rw [List.mem_singleton] at hb
      rintro rfl
      exact q (hb ▸ ha)
  · have hm : x.1 ∈ (wadd w k c).map (·.1) := List.mem_map.mpr ⟨x, hx, rfl⟩
    rw [e] at hm
    have hall : ∀ y ∈ w.map (·.1), y < 2 ^ n := fun y hy => by
      obtain ⟨z, hz, rfl⟩ := List.mem_map.mp hy
      exact h.lt z hz
    split at hm
    · exact hall _ hm
    · rcases List.mem_append.mp hm with hm | hm
      · exact hall _ hm
      · rw [List.mem_singleton] at hm
        omega
/-- the sum over a dict -/
def wsum (w : List (Nat × Nat)) (g : Nat → Nat) : Nat := (w.map fun e => e.2 * g e.1).sum
theorem wval_cons (e : Nat × Nat) (w : List (Nat × Nat)) (k : Nat) : wval (e :: w) k = if e.1 = k then e.2 else wval w k := by
  unfold wval
  rw [List.find?_cons]
  by_cases h : e.1 = k <;> simp [h]
theorem wval_no : ∀ {w : List (Nat × Nat)} {k : Nat}, k ∉ w.map (·.1) → wval w k = 0
  | [], _, _ => rfl
  | e :: w, k, h => by
    rw [List.map_cons, List.mem_cons, not_or] at h
    rw [wval_cons, if_neg fun q => h.1 q.symm, wval_no h.2]
theorem wset_no {k v : Nat} : ∀ {w : List (Nat × Nat)}, k ∉ w.map (·.1) → w.map (fun e => if e.1 = k then (e.1, v) else e) = w
  | [], _ => rfl
  | e :: w, h => by
    rw [List.map_cons, List.mem_cons, not_or] at h
    rw [List.map_cons, wset_no h.2, if_neg fun q => h.1 q.symm]
theorem wsum_cons (e : Nat × Nat) (w : List (Nat × Nat)) (g : Nat → Nat) : wsum (e :: w) g = e.2 * g e.1 + wsum w g := by
  unfold wsum
  rw [List.map_cons, List.sum_cons]
theorem wsum_set {k v : Nat} (g : Nat → Nat) : ∀ {w : List (Nat × Nat)}, (w.map (·.1)).Nodup → k ∈ w.map (·.1) → wsum (w.map fun e => if e.1 = k then (e.1, v) else e) g + wval w k * g k = wsum w g + v * g k
  | [], _, h => nomatch h
  | e :: w, hn, h => by
    rw [List.map_cons, List.nodup_cons] at hn
    rw [List.map_cons, wsum_cons, wsum_cons, wval_cons]
    by_cases q : e.1 = k
    · rw [if_pos q, if_pos q, wset_no (q ▸ hn.1)]
      subst q
      show v * g e.1 + wsum w g + e.2 * g e.1 = _
      omega
    · rw [if_neg q, if_neg q]
      rw [List.map_cons, List.mem_cons] at h
      have ih := wsum_set (v := v) g hn.2 (h.resolve_left fun z => q z.symm)
      omega
theorem wsum_add {w : List (Nat × Nat)} (hn : (w.map (·.1)).Nodup) (k c : Nat) (g : Nat → Nat) : wsum (wadd w k c) g = wsum w g + c * g k := by
  unfold wadd
  have e : ((w.any fun e => decide (e.1 = k)) = true) = (k ∈ w.map (·.1)) := by
    rw [List.any_eq_true, List.mem_map, eq_iff_iff]
    exact ⟨fun ⟨x, h1, h2⟩ => ⟨x, h1, of_decide_eq_true h2⟩, fun ⟨x, h1, h2⟩ => ⟨x, h1, decide_eq_true h2⟩⟩
  simp only [e]
  split
  · rename_i q
    have h := wsum_set (v := wval w k + c) g hn q
    rw [Nat.add_mul] at h
    omega
  · rename_i q
    rw [wval_no q]
    unfold wsum
    rw [List.map_append, List.sum_append]
    simp
/-- a dict of masks counts a list of masks -/
def Counts (w : List (Nat × Nat)) (A : List Nat) : Prop := ∀ g : Nat → Nat, wsum w g = (A.map g).sum
theorem putAll_ok {n m c : Nat} : ∀ (rows : List (List Nat)) {w : List (Nat × Nat)}, WOk n w → (∀ P ∈ rows, m + maskOf P < 2 ^ n) → WOk n (putAll w m c rows) ∧ ∀ g : Nat → Nat, wsum (putAll w m c rows) g = wsum w g + c * (rows.map fun P => g (m + maskOf P)).sum
  | [], w, h, _ => ⟨h, fun g => rfl⟩
  | P :: rows, w, h, hr => by
    obtain ⟨h1, h2⟩ := putAll_ok rows (wadd_ok (c := c) h (hr P List.mem_cons_self)) fun Q hQ => hr Q (List.mem_cons_of_mem _ hQ)
    refine ⟨h1, fun g => ?_⟩
    show wsum (putAll (wadd w (m + maskOf P) c) m c rows) g = _
    rw [h2 g, wsum_add h.nd, List.map_cons, List.sum_cons, Nat.mul_add]
    omega
/-- one slot -/
def wstep (f : Nat → List (List Nat)) (w0 w : List (Nat × Nat)) : List (Nat × Nat) := w.foldl (fun l e => putAll l e.1 e.2 (f e.1)) w0
theorem wstep_ok {n : Nat} {f : Nat → List (List Nat)} : ∀ (w : List (Nat × Nat)) {w0 : List (Nat × Nat)}, WOk n w0 → (∀ e ∈ w, ∀ P ∈ f e.1, e.1 + maskOf P < 2 ^ n) → WOk n (wstep f w0 w) ∧ ∀ g : Nat → Nat, wsum (wstep f w0 w) g = wsum w0 g + wsum w fun m => ((f m).map fun P => g (m + maskOf P)).sum
  | [], w0, h, _ => ⟨h, fun g => rfl⟩
  | e :: w, w0, h, hr => by
    obtain ⟨h1, h2⟩ := putAll_ok (c := e.2) (f e.1) h (hr e List.mem_cons_self)
    obtain ⟨h3, h4⟩ := wstep_ok (f := f) w h1 fun x hx => hr x (List.mem_cons_of_mem _ hx)
    refine ⟨h3, fun g => ?_⟩
    show wsum (wstep f (putAll w0 e.1 e.2 (f e.1)) w) g = _
    rw [h4 g, h2 g, wsum_cons]
    omega
theorem counts_step {n : Nat} {f : Nat → List (List Nat)} {w : List (Nat × Nat)} {A : List Nat} (hc : Counts w A) (hr : ∀ e ∈ w, ∀ P ∈ f e.1, e.1 + maskOf P < 2 ^ n) : WOk n (wstep f [] w) ∧ Counts (wstep f [] w) (A.flatMap fun m => (f m).map fun P => m + maskOf P) := by
  obtain ⟨h1, h2⟩ := wstep_ok (n := n) (f := f) w (w0 := []) ⟨List.nodup_nil, fun _ h => nomatch h⟩ hr
  refine ⟨h1, fun g => ?_⟩
  rw [h2 g, hc]
  show 0 + _ = _
  rw [Nat.zero_add]
  clear h1 h2 hc hr
  induction A with
  | nil => rfl
  | cons m A ih =>
    rw [List.map_cons, List.sum_cons, ih, List.flatMap_cons, List.map_append, List.sum_append, List.map_map]
    rfl
theorem counts_get {w : List (Nat × Nat)} {A : List Nat} (hn : (w.map (·.1)).Nodup) (hc : Counts w A) (k : Nat) : wval w k = A.count k := by
  have h := hc fun m => if m = k then 1 else 0
  have h1 : ∀ {w : List (Nat × Nat)}, (w.map (·.1)).Nodup → wsum w (fun m => if m = k then 1 else 0) = wval w k := by
    intro w
    induction w with
    | nil => intro _; rfl
    | cons e w ih =>
      intro hn
      rw [List.map_cons, List.nodup_cons] at hn
      rw [wsum_cons, ih hn.2, wval_cons]
      by_cases q : e.1 = k
      · rw [if_pos q, if_pos q, wval_no (q ▸ hn.1)]
        omega
      · rw [if_neg q, if_neg q]
        omega
  rw [← h1 hn, h]
  clear h h1 hc
  induction A with
  | nil => rfl
  | cons m A ih =>
    rw [List.map_cons, List.sum_cons, ih, List.count_cons]
    by_cases q : m = k <;> simp [q]
    omega
end Gn
namespace Gn
open PySem PySem.Spec PyProof.Rows L2 Dd
abbrev Spans := List (Int × Int)
def spn (spans : Spans) (i : Nat) : Int × Int := spans[i]?.getD (0, 0)
theorem spans_ix {spans : Spans} {i : Nat} (h : i < spans.length) : dIxA (.list (spans.map pD)) (nD i) = some (pD (spn spans i), .sh) := by
  refine ixA_l ?_
  unfold spn
  rw [List.getElem?_map, List.getElem?_eq_getElem h]
  rfl
def hereOf (spans : Spans) (some : List Nat) (slot : Int) : List Nat := some.filter fun i => decide ((spn spans i).1 ≤ slot) && decide (slot ≤ (spn spans i).2)
def dueOf (spans : Spans) (here : List Nat) (slot : Int) : List Nat := here.filter fun i => decide ((spn spans i).2 = slot)
def erow (e : Nat × Nat) : D := .tuple [nD e.1, nD e.2]
theorem iIt_w {w : List (Nat × Nat)} {m : EM} {e e2 : Ev} (h : m e = some (wD w, .ow, e2)) : iIt m e = some (w.map erow, e2) := by
  unfold iIt
  rw [h]
  cases w with
  | nil => rfl
  | cons a w =>
    show some (rowsD ((a :: w).map wrow), e2) = _
    unfold rowsD
    rw [List.map_map]
    rfl
theorem picks_sub (ports : List Ports) (p q : Int) (due : List Nat) : ∀ (free : List Nat) (rows : List (List Nat)) (pre : List Nat), (∀ r ∈ rows, r.Sublist pre) → ∀ r ∈ free.foldl (picksStep ports p q due) rows, r.Sublist (pre ++ free)
  | [], rows, pre, h, r, hr => by rw [List.append_nil]; exact h r hr
  | i :: free, rows, pre, h, r, hr => by
    rw [List.foldl_cons] at hr
    have h2 : ∀ r ∈ longer ports p q i rows, r.Sublist (pre ++ [i]) := fun r hr => by
      obtain ⟨r0, h0, h1⟩ := List.mem_flatMap.mp hr
      unfold plus at h1
      split at h1
      · rw [List.mem_singleton] at h1
        subst h1
        exact (h r0 h0).append (List.Sublist.refl _)
      · cases h1
    have h3 := picks_sub ports p q due free (picksStep ports p q due rows i) (pre ++ [i]) (fun r hr => by
      unfold picksStep at hr
      split at hr
      · exact h2 r hr
      · rcases List.mem_append.mp hr with hr | hr
        · exact (h r hr).trans (List.sublist_append_left _ _)
        · exact h2 r hr) r hr
    rwa [List.append_assoc] at h3
theorem picks_sub0 {ports : List Ports} {p q : Int} {due free P : List Nat} (h : P ∈ picks ports p q free due) : P.Sublist free := by
  have := picks_sub ports p q due free [[]] [] (by simp) P h
  rwa [List.nil_append] at this
theorem picks_lt {n : Nat} {ports : List Ports} {p q : Int} {due here P : List Nat} {m : Nat} (hn : here.Nodup) (hh : ∀ i ∈ here, i < n) (hm : m < 2 ^ n) (h : P ∈ picks ports p q (freeOf here m) due) : m + maskOf P < 2 ^ n := by
  have hs := picks_sub0 h
  refine mask_lt hm (hs.nodup (hn.filter _)) fun i hi => ?_
  have := List.mem_filter.mp (hs.subset hi)
  exact ⟨by simpa using this.2, hh i this.1⟩
theorem gT_erow {e : Nat × Nat} {x0 x1 x2 x3 x4 x5 x6 x7 x8 x9 j10 j11 x12 x13 x14 x15 : Option (D × Tg)} (h10 : Jk j10) (h11 : Jk j11) : gT (gsC (gN 10) (gsC (gN 11) gsN)) 2 (erow e) [x0, x1, x2, x3, x4, x5, x6, x7, x8, x9, j10, j11, x12, x13, x14, x15] = some [x0, x1, x2, x3, x4, x5, x6, x7, x8, x9, some (nD e.1, .sh), some (nD e.2, .sh), x12, x13, x14, x15] := by
  simp [erow, put_j h10, put_j h11]
theorem b2_ways_ok {ports : List Ports} (hp : SidesOk ports) (hpl : ports.length ≤ 8) {p q : Int} {spans : Spans} (hsl : spans.length = ports.length) {some' : List Nat} (hsn : some'.Nodup) (hsm : ∀ i ∈ some', i < ports.length) (hs8 : some'.length ≤ 8) {slot : Int} {x5 : Option (D × Tg)} {w : List (Nat × Nat)} (hw : WOk 8 w)
    {j7 j8 j9 j10 j11 j12 j13 j14 : Option (D × Tg)} (h7 : Jk j7) (h8 : Jk j8) (h9 : Jk j9) (h10 : Jk j10) (h11 : Jk j11) (h12 : Jk j12) (h13 : Jk j13) (h14 : Jk j14) :
    ∃ k7 k8 k9 k10 k11 k12 k13 k14, Jk k7 ∧ Jk k8 ∧ Jk k9 ∧ Jk k10 ∧ Jk k11 ∧ Jk k12 ∧ Jk k13 ∧ Jk k14 ∧ b2_ways_with [some (.list (ports.map psD), .sh), some (.list (spans.map pD), .sh), some (.tuple [.int p, .int q], .sh), some (nsD some', .sh), some (.int slot, .sh), x5, some (wD w, .ow), j7, j8, j9, j10, j11, j12, j13, j14, none] =
      some (.nx [some (.list (ports.map psD), .sh), some (.list (spans.map pD), .sh), some (.tuple [.int p, .int q], .sh), some (nsD some', .sh), some (.int slot, .sh), x5, some (wD (wstep (fun m => picks ports p q (freeOf (hereOf spans some' slot) m) (dueOf spans (hereOf spans some' slot) slot)) [] w), .ow), k7, k8, k9, k10, k11, k12, k13, k14, none]) := by
  have hhl : (hereOf spans some' slot).length ≤ 8 := Nat.le_trans (List.length_filter_le _ _) hs8
  have hhm : ∀ i ∈ hereOf spans some' slot, i < ports.length := fun i hi => hsm i (List.mem_filter.mp hi).1
  have hhn : (hereOf spans some' slot).Nodup := hsn.filter _
  have hdl : (dueOf spans (hereOf spans some' slot) slot).length ≤ 8 := Nat.le_trans (List.length_filter_le _ _) hhl
  have hlt : ∀ e ∈ w, ∀ P ∈ picks ports p q (freeOf (hereOf spans some' slot) e.1) (dueOf spans (hereOf spans some' slot) slot), e.1 + maskOf P < 2 ^ 8 := fun e he P hP => picks_lt hhn (fun i hi => Nat.lt_of_lt_of_le (hhm i hi) hpl) (hw.lt e he) hP
  have h1 := lcl_map (enc := nD) (vs := [15]) (g := gN 15) (t := tB (eCh dLe dLe (oE (e2 dIxA (oE (e2 dIxA (oV 1) (oV 15))) (oE (eC (.int 0))))) (oV 4) (oE (e2 dIxA (oE (e2 dIxA (oV 1) (oV 15))) (oE (eC (.int 1))))))) (m := eV 15) (e := [some (.list (ports.map psD), .sh), some (.list (spans.map pD), .sh), some (.tuple [.int p, .int q], .sh), some (nsD some', .sh), some (.int slot, .sh), x5, some (wD w, .ow), j7, j8, j9, j10, j11, j12, j13, j14, none])
    (fun i => decide ((spn spans i).1 ≤ slot) && decide (slot ≤ (spn spans i).2)) nD some' fun i hi => by
      have hx := spans_ix (spans := spans) (i := i) (by rw [hsl]; exact hsm i hi)
      iterate 1 apply Exists.intro
      refine ⟨?_, ?_⟩
      · simp
        rfl
      iterate 1 apply Exists.intro
      refine ⟨?_, ?_, ?_⟩
      · by_cases hc : (spn spans i).1 ≤ slot <;> simp [hx, pD, hc] <;> rfl
      · simp
      · intro _
        iterate 2 apply Exists.intro
        refine ⟨?_, ?_⟩
        · simp
          exact ⟨rfl, rfl⟩
        · simp
  have hhl1 : (hereOf spans some' slot).length ≤ lim := by unfold lim; omega
  have hdl1 : (dueOf spans (hereOf spans some' slot) slot).length ≤ lim := by unfold lim; omega
  rw [show some'.filter (fun i => decide ((spn spans i).1 ≤ slot) && decide (slot ≤ (spn spans i).2)) = hereOf spans some' slot from rfl] at h1
  have h2 := lcl_map (enc := nD) (vs := [15]) (g := gN 15) (t := tB (e2 dEq (oE (e2 dIxA (oE (e2 dIxA (oV 1) (oV 15))) (oE (eC (.int 1))))) (oV 4))) (m := eV 15) (e := [some (.list (ports.map psD), .sh), some (.list (spans.map pD), .sh), some (.tuple [.int p, .int q], .sh), some (nsD some', .sh), some (.int slot, .sh), x5, some (wD w, .ow), none, j8, j9, j10, j11, j12, j13, j14, none])
    (fun i => decide ((spn spans i).2 = slot)) nD (hereOf spans some' slot) fun i hi => by
      have hx := spans_ix (spans := spans) (i := i) (by rw [hsl]; exact hhm i hi)
      iterate 1 apply Exists.intro
      refine ⟨?_, ?_⟩
      · simp
        rfl
      iterate 1 apply Exists.intro
      refine ⟨?_, ?_, ?_⟩
      · simp [hx, pD]
        rfl
      · simp
      · intro _
        iterate 2 apply Exists.intro
        refine ⟨?_, ?_⟩
        · simp
          exact ⟨rfl, rfl⟩
        · simp
  rw [show (hereOf spans some' slot).filter (fun i => decide ((spn spans i).2 = slot)) = dueOf spans (hereOf spans some' slot) slot from rfl] at h2
  generalize hfd : dueOf spans (hereOf spans some' slot) slot = due at *
  generalize hfh : hereOf spans some' slot = here at *
  obtain ⟨e', h3, t8, k10, k11, k12, k13, k14, q8, q10, q11, q12, q13, q14, rfl⟩ := fl_pre (enc := erow) (g := gT (gsC (gN 10) (gsC (gN 11) gsN)) 2) (b := b1_ways_with) (cs := w) (fun pre (e : Ev) => ∃ t8 j10 j11 j12 j13 j14, (t8 = .ow ∨ t8 = .sh) ∧ Jk j10 ∧ Jk j11 ∧ Jk j12 ∧ Jk j13 ∧ Jk j14 ∧ e = [some (.list (ports.map psD), .sh), some (.list (spans.map pD), .sh), some (.tuple [.int p, .int q], .sh), some (nsD some', .sh), some (.int slot, .sh), x5, none, some (nsD here, .ow), some (nsD due, t8), some (wD (wstep (fun m => picks ports p q (freeOf here m) due) [] pre), .ow), j10, j11, j12, j13, j14, none])
    (fun pre x post he e ⟨t8, j10, j11, j12, j13, j14, q8, q10, q11, q12, q13, q14, h⟩ => by
      subst h
      have hok := (wstep_ok (n := 8) (f := fun m => picks ports p q (freeOf here m) due) pre (w0 := []) ⟨List.nodup_nil, fun _ h => nomatch h⟩ fun x hx => hlt x (by rw [he]; exact List.mem_append_left _ hx)).1.len
      obtain ⟨k12, k13, k14, r12, r13, r14, hb⟩ := b1_ways_ok hp (by omega) (p := p) (q := q) (x1 := some (.list (spans.map pD), .sh)) (x3 := some (nsD some', .sh)) (x4 := some (.int slot, .sh)) (x5 := x5) (x6 := none) (here := here) (due := due) q8 hhm hhl (m := x.1) (c := x.2) (w := wstep (fun m => picks ports p q (freeOf here m) due) [] pre) (by omega) q12 q13 q14
      refine ⟨_, _, gT_erow q10 q11, hb, .sh, some (nD x.1, .sh), some (nD x.2, .sh), k12, k13, k14, .inr rfl, jk_h, jk_h, r12, r13, r14, ?_⟩
      unfold wstep
      rw [List.foldl_append]
      rfl) w [] rfl [some (.list (ports.map psD), .sh), some (.list (spans.map pD), .sh), some (.tuple [.int p, .int q], .sh), some (nsD some', .sh), some (.int slot, .sh), x5, none, some (nsD here, .ow), some (nsD due, .ow), some (.dict [], .ow), j10, j11, j12, j13, j14, none] ⟨.ow, j10, j11, j12, j13, j14, .inl rfl, h10, h11, h12, h13, h14, rfl⟩
  have hit : iIt (eMv 6) [some (.list (ports.map psD), .sh), some (.list (spans.map pD), .sh), some (.tuple [.int p, .int q], .sh), some (nsD some', .sh), some (.int slot, .sh), x5, some (wD w, .ow), some (nsD here, .ow), some (nsD due, .ow), some (.dict [], .ow), j10, j11, j12, j13, j14, none] = some (w.map erow, [some (.list (ports.map psD), .sh), some (.list (spans.map pD), .sh), some (.tuple [.int p, .int q], .sh), some (nsD some', .sh), some (.int slot, .sh), x5, none, some (nsD here, .ow), some (nsD due, .ow), some (.dict [], .ow), j10, j11, j12, j13, j14, none]) := iIt_w (by simp)
  refine ⟨some (nsD here, .ow), some (nsD due, t8), none, k10, k11, k12, k13, k14, jk_w, ?_, jk_n, q10, q11, q12, q13, q14, ?_⟩
  · rcases q8 with rfl | rfl
    · exact jk_w
    · exact jk_h
  generalize wstep (fun m => picks ports p q (freeOf here m) due) [] w = w' at *
  simp [b2_ways_with, eLc, cV, h1, hhl1, h2, hdl1, put_j h7, put_j h8, put_j h9, hit, h3, -x_iIt]
end Gn
namespace Gn
open PySem PySem.Spec PyProof.Rows L2 Dd
/-- the numbers from a on, n of them -/
def rng (a : Int) (n : Nat) : List Int := (List.range n).map fun (k : Nat) => a + (k : Int)
def spanL (s : Int × Int) : List Int := rng s.1 (s.2 + 1 - s.1).toNat
def slotsOf (spans : Spans) (some : List Nat) : List Int := isortU (some.flatMap fun i => spanL (spn spans i))
def waysW (ports : List Ports) (p q : Int) (spans : Spans) (some : List Nat) : List (Nat × Nat) :=
  (slotsOf spans some).foldl (fun w slot => wstep (fun m => picks ports p q (freeOf (hereOf spans some slot) m) (dueOf spans (hereOf spans some slot) slot)) [] w) [(0, 1)]
theorem rngD_eq (a : Int) (n : Nat) : rngD a n = (rng a n).map PyData.int := by
  unfold rng
  rw [List.map_map]
  rfl
def slotW (ports : List Ports) (p q : Int) (spans : Spans) (some : List Nat) (w : List (Nat × Nat)) (slot : Int) : List (Nat × Nat) :=
  wstep (fun m => picks ports p q (freeOf (hereOf spans some slot) m) (dueOf spans (hereOf spans some slot) slot)) [] w
theorem slotW_ok {n : Nat} {ports : List Ports} {p q : Int} {spans : Spans} {some : List Nat} (hsn : some.Nodup) (hsm : ∀ i ∈ some, i < n) {w : List (Nat × Nat)} (hw : WOk n w) (slot : Int) : WOk n (slotW ports p q spans some w slot) :=
  (wstep_ok (n := n) w (w0 := []) ⟨List.nodup_nil, fun _ h => nomatch h⟩ fun e he P hP => picks_lt (hsn.filter _) (fun i hi => hsm i (List.mem_filter.mp hi).1) (hw.lt e he) hP).1
theorem w01_ok (n : Nat) : WOk n [(0, 1)] := ⟨by simp, fun e he => by
  rw [List.mem_singleton] at he
  subst he
  exact Nat.two_pow_pos n⟩
theorem slotsW_ok {n : Nat} {ports : List Ports} {p q : Int} {spans : Spans} {some : List Nat} (hsn : some.Nodup) (hsm : ∀ i ∈ some, i < n) : ∀ (slots : List Int) {w : List (Nat × Nat)}, WOk n w → WOk n (slots.foldl (slotW ports p q spans some) w)
  | [], _, hw => hw
  | s :: slots, _, hw => slotsW_ok hsn hsm slots (slotW_ok hsn hsm hw s)
theorem ways_with_ok {ports : List Ports} (hp : SidesOk ports) (hpl : ports.length ≤ 8) {p q : Int} {spans : Spans} (hsl : spans.length = ports.length) {some' : List Nat} (hsn : some'.Nodup) (hsm : ∀ i ∈ some', i < ports.length) (hs8 : some'.length ≤ 8) (hsp : ∀ i ∈ some', (spn spans i).2 - (spn spans i).1 < 8) (hfew : (slotsOf spans some').length < 64) :
    m_ways_with [.list (ports.map psD), .list (spans.map pD), .tuple [.int p, .int q], nsD some'] = some (nD (wval ((slotsOf spans some').foldl (slotW ports p q spans some') [(0, 1)]) (maskOf some')), .sh) := by
  have h2 := lcl2_all (enc := nD) (vs := [15, 4]) (vs1 := [4]) (g := gN 15) (g1 := gN 4) (im1 := jR2 (lC (eSh (e2 dIxA (oE (e2 dIxA (oV 1) (oV 15))) (oE (eC (.int 0))))) (lC (eSh (e2 dAdd (oE (e2 dIxA (oE (e2 dIxA (oV 1) (oV 15))) (oE (eC (.int 1))))) (oE (eC (.int 1))))) lN))) (m := eV 4) (e := [some (.list (ports.map psD), .sh), some (.list (spans.map pD), .sh), some (.tuple [.int p, .int q], .sh), some (nsD some', .sh), none, none, none, none, none, none, none, none, none, none, none, none])
    (fun i => (spanL (spn spans i)).map PyData.int) some' fun i hi => by
      have hx := spans_ix (spans := spans) (i := i) (by rw [hsl]; exact hsm i hi)
      have h3 := lcl_all (enc := PyData.int) (vs := [4]) (g := gN 4) (m := eV 4) (e := [some (.list (ports.map psD), .sh), some (.list (spans.map pD), .sh), some (.tuple [.int p, .int q], .sh), some (nsD some', .sh), none, none, none, none, none, none, none, none, none, none, none, some (nD i, .sh)]) PyData.int (spanL (spn spans i)) fun x _ => by
        iterate 3 apply Exists.intro
        refine ⟨?_, ?_, ?_⟩
        · simp
          rfl
        · simp
          exact ⟨rfl, rfl⟩
        · simp
      iterate 4 apply Exists.intro
      refine ⟨?_, ?_, ?_, ?_⟩
      · simp
        rfl
      · simp [hx, pD]
        exact ⟨rfl, rfl⟩
      · rw [rngD_eq]
        exact h3
      · simp
  have hfl : (some'.flatMap fun i => (spanL (spn spans i)).map PyData.int) = (some'.flatMap fun i => spanL (spn spans i)).map PyData.int := by
    rw [List.map_flatMap]
  rw [hfl] at h2
  have hnl : (some'.flatMap fun i => spanL (spn spans i)).length ≤ some'.length * 8 := by
    clear hfl h2 hfew hs8 hsn hsm
    induction some' with
    | nil => simp
    | cons i l ih =>
      have ih := ih fun j hj => hsp j (List.mem_cons_of_mem _ hj)
      have h1 := hsp i List.mem_cons_self
      rw [List.flatMap_cons, List.length_append, List.length_cons]
      have h2 : (spanL (spn spans i)).length ≤ 8 := by
        unfold spanL rng
        rw [List.length_map, List.length_range]
        omega
      omega
  have hss : opSS (.list ((some'.flatMap fun i => spanL (spn spans i)).map PyData.int)) = some (.list ((slotsOf spans some').map PyData.int), .ow) := by
    show (intsD _).bind _ = _
    rw [intsD_map]
    show (if _ ∧ _ then _ else _) = _
    rw [if_pos ⟨by omega, hfew⟩]
    rfl
  have hnl2 : ((some'.flatMap fun i => spanL (spn spans i)).map PyData.int).length ≤ lim := by
    rw [List.length_map]
    unfold lim
    omega
  generalize (some'.flatMap fun i => spanL (spn spans i)).map PyData.int = raw at h2 hss hnl2
  generalize slotsOf spans some' = slots at *
  obtain ⟨e', h4, j4, j7, j8, j9, j10, j11, j12, j13, j14, q4, q7, q8, q9, q10, q11, q12, q13, q14, rfl⟩ := fl_pre (enc := PyData.int) (g := gN 4) (b := b2_ways_with) (cs := slots) (fun pre (e : Ev) => ∃ j4 j7 j8 j9 j10 j11 j12 j13 j14, Jk j4 ∧ Jk j7 ∧ Jk j8 ∧ Jk j9 ∧ Jk j10 ∧ Jk j11 ∧ Jk j12 ∧ Jk j13 ∧ Jk j14 ∧ e = [some (.list (ports.map psD), .sh), some (.list (spans.map pD), .sh), some (.tuple [.int p, .int q], .sh), some (nsD some', .sh), j4, some (.list (slots.map PyData.int), .sh), some (wD (pre.foldl (slotW ports p q spans some') [(0, 1)]), .ow), j7, j8, j9, j10, j11, j12, j13, j14, none])
    (fun pre x post he e ⟨j4, j7, j8, j9, j10, j11, j12, j13, j14, q4, q7, q8, q9, q10, q11, q12, q13, q14, h⟩ => by
      subst h
      have hok := slotsW_ok (p := p) (q := q) (ports := ports) (spans := spans) hsn (fun i hi => Nat.lt_of_lt_of_le (hsm i hi) hpl) pre (w01_ok 8)
      obtain ⟨k7, k8, k9, k10, k11, k12, k13, k14, r7, r8, r9, r10, r11, r12, r13, r14, hb⟩ := b2_ways_ok hp hpl (p := p) (q := q) hsl hsn hsm hs8 (slot := x) (x5 := some (.list (slots.map PyData.int), .sh)) hok q7 q8 q9 q10 q11 q12 q13 q14
      refine ⟨_, _, by simp [put_j q4], hb, some (.int x, .sh), k7, k8, k9, k10, k11, k12, k13, k14, jk_h, r7, r8, r9, r10, r11, r12, r13, r14, ?_⟩
      rw [List.foldl_append]
      rfl) slots [] rfl [some (.list (ports.map psD), .sh), some (.list (spans.map pD), .sh), some (.tuple [.int p, .int q], .sh), some (nsD some', .sh), none, some (.list (slots.map PyData.int), .sh), some (wD [(0, 1)], .ow), none, none, none, none, none, none, none, none, none] ⟨none, none, none, none, none, none, none, none, none, jk_n, jk_n, jk_n, jk_n, jk_n, jk_n, jk_n, jk_n, jk_n, rfl⟩
  have h5 := lcl_all (enc := nD) (vs := [15]) (g := gN 15) (m := e2 dShl (oE (eC (.int 1))) (oV 15)) (e := [some (.list (ports.map psD), .sh), some (.list (spans.map pD), .sh), some (.tuple [.int p, .int q], .sh), some (nsD some', .sh), j4, some (.list (slots.map PyData.int), .sh), some (wD (slots.foldl (slotW ports p q spans some') [(0, 1)]), .ow), j7, j8, j9, j10, j11, j12, j13, j14, none])
    (fun i => .int (1 * 2 ^ i)) some' fun i hi => by
      have hs := shl_n (i := i) (by have := hsm i hi; omega)
      iterate 3 apply Exists.intro
      refine ⟨?_, ?_, ?_⟩
      · simp
        rfl
      · simp [hs]
        exact ⟨rfl, rfl⟩
      · simp
  have hm : (some'.map fun i : Nat => PyData.int (1 * 2 ^ i)) = (some'.map fun i : Nat => (1 : Int) * 2 ^ i).map PyData.int := by
    rw [List.map_map]
    rfl
  rw [hm] at h5
  have hsum := sum_mask some'
  have hbl : (some'.map fun i : Nat => (1 : Int) * 2 ^ i).length ≤ lim := by
    rw [List.length_map]
    unfold lim
    omega
  generalize (some'.map fun i : Nat => (1 : Int) * 2 ^ i) = bs at h5 hsum hbl
  have hs2 := fSum_ints (ns := bs)
  rw [hsum] at hs2
  generalize slots.foldl (slotW ports p q spans some') [(0, 1)] = w at *
  generalize maskOf some' = k at *
  have hget := dget_w w k
  have hg0 := dget_w0 w k
  have h4' : fl (gN 4) b2_ways_with (slots.map PyData.int) [some (.list (ports.map psD), .sh), some (.list (spans.map pD), .sh), some (.tuple [.int p, .int q], .sh), some (nsD some', .sh), none, some (.list (slots.map PyData.int), .sh), some (.dict [(.int 0, .int 1)], .ow), none, none, none, none, none, none, none, none, none] = _ := h4
  simp [m_ways_with, eLc, cV, h2, hnl2, hss, h4', h5, hbl, hs2, hget, hg0, isDic]
end Gn
namespace Gn
open PySem PySem.Spec PyProof.Rows L2 Dd
theorem in_ps (a : Int × Int) (l : Ports) : dInA (pD a) (psD l) = some (.bool (decide (a ∈ l)), .sh) := by
  have h := inA_map eqv_pD plain_pD (fun a => by rw [depth_pD]; decide) a l
  rw [show dInA (pD a) (psD l) = dInA (pD a) (.list (l.map pD)) from rfl, h]
  congr
theorem nin_ns (i : Nat) (l : List Nat) : dNinA (nD i) (nsD l) = some (.bool (!decide (i ∈ l)), .sh) := by
  have h := in_ns i l
  unfold dInA alt2 dIn at h
  unfold dNinA alt2 dNin
  cases hh : hasD (nD i) (nsD l) with
  | none =>
    rw [hh] at h
    simp at h
    unfold dDin at h
    cases h
  | some b =>
    rw [hh] at h
    simp at h
    simp [h]
theorem ns_ix {l : List Nat} {k a : Nat} (h : l[k]? = some a) : dIxA (nsD l) (nD k) = some (nD a, .sh) := ixA_l (by rw [List.getElem?_map, h]; rfl)
def touch (ports : List Ports) (a j : Nat) : Bool := (prt ports j).any fun pt => decide (pt ∈ prt ports a)
theorem b0_parts_ok {ports : List Ports} (hp : SidesOk ports) {left part : List Nat} {k a : Nat} (ha : part[k]? = some a) (hm : ∀ i ∈ left, i < ports.length) (hm2 : a < ports.length) (hl : left.length ≤ 60) (hl2 : part.length ≤ 60) {x2 j5 : Option (D × Tg)} (h5 : Jk j5) :
    b0_parts_of [some (.list (ports.map psD), .sh), some (nsD left, .ow), x2, some (nsD part, .ow), some (nD k, .sh), j5, none, none] =
      some (.nx [some (.list (ports.map psD), .sh), some (nsD (left.filter fun j => !decide (j ∈ left.filter (touch ports a))), .ow), x2, some (nsD (part ++ left.filter (touch ports a)), .ow), some (nD (k + 1), .sh), some (nsD (left.filter (touch ports a)), .ow), none, none]) := by
  have hka := ns_ix ha
  have hxa := ports_ix (ports := ports) hm2
  have h1 := lcl_map (enc := nD) (vs := [6]) (g := gN 6) (t := tO (oE (eN fAny (aC (oE (eLc [7] (cI (iE (e2 dIxA (oV 0) (oV 6)))) (gN 7) tT (e2 dInA (oV 7) (oE (e2 dIxA (oV 0) (oE (e2 dIxA (oV 3) (oV 4)))))))) aN)))) (m := eV 6) (e := [some (.list (ports.map psD), .sh), none, x2, some (nsD part, .ow), some (nD k, .sh), j5, none, none])
    (touch ports a) nD left fun j hj => by
      have hxj := ports_ix (ports := ports) (hm j hj)
      have h3 := lcl_all (enc := pD) (vs := [7]) (g := gN 7) (m := e2 dInA (oV 7) (oE (e2 dIxA (oV 0) (oE (e2 dIxA (oV 3) (oV 4)))))) (e := [some (.list (ports.map psD), .sh), none, x2, some (nsD part, .ow), some (nD k, .sh), j5, some (nD j, .sh), none]) (fun pt => .bool (decide (pt ∈ prt ports a))) (prt ports j) fun pt _ => by
        have hin := in_ps pt (prt ports a)
        iterate 3 apply Exists.intro
        refine ⟨?_, ?_, ?_⟩
        · simp
          rfl
        · simp [hka, hxa, hin]
          exact ⟨rfl, rfl⟩
        · simp
      have hpl : (prt ports j).length ≤ lim := by
        unfold prt
        rw [List.getElem?_eq_getElem (hm j hj)]
        have := (hp _ (List.getElem_mem (hm j hj))).1
        unfold lim
        exact Nat.le_trans this (by decide)
      have hmm : ((prt ports j).map fun pt => PyData.bool (decide (pt ∈ prt ports a))) = ((prt ports j).map fun pt => decide (pt ∈ prt ports a)).map PyData.bool := by
        rw [List.map_map]
        rfl
      rw [hmm] at h3
      have hf : ((prt ports j).map fun pt => decide (pt ∈ prt ports a)).any id = touch ports a j := by
        rw [List.any_map]
        rfl
      have hbl : ((prt ports j).map fun pt => decide (pt ∈ prt ports a)).length ≤ lim := by
        rw [List.length_map]
        exact hpl
      generalize ((prt ports j).map fun pt => decide (pt ∈ prt ports a)) = bs at h3 hf hbl
      iterate 1 apply Exists.intro
      refine ⟨?_, ?_⟩
      · simp
        rfl
      iterate 1 apply Exists.intro
      refine ⟨?_, ?_, ?_⟩
      · simp [eLc, cI, hxj, h3, hbl, hf]
        rfl
      · simp
      · intro _
        iterate 2 apply Exists.intro
        refine ⟨?_, ?_⟩
        · simp
          exact ⟨rfl, rfl⟩
        · simp
  have hml : (left.filter (touch ports a)).length ≤ left.length := List.length_filter_le _ _
  generalize left.filter (touch ports a) = more at h1 hml ⊢
  have h2 := lcl_map (enc := nD) (vs := [6]) (g := gN 6) (t := tB (e2 dNinA (oV 6) (oV 5))) (m := eV 6) (e := [some (.list (ports.map psD), .sh), none, x2, some (nsD (part ++ more), .ow), some (nD k, .sh), some (nsD more, .ow), none, none])
    (fun j => !decide (j ∈ more)) nD left fun j hj => by
      have hin := nin_ns j more
      iterate 1 apply Exists.intro
      refine ⟨?_, ?_⟩
      · simp
        rfl
      iterate 1 apply Exists.intro
      refine ⟨?_, ?_, ?_⟩
      · simp [hin]
        rfl
      · simp
      · intro _
        iterate 2 apply Exists.intro
        refine ⟨?_, ?_⟩
        · simp
          exact ⟨rfl, rfl⟩
        · simp
  have hl3 : (left.filter fun j => !decide (j ∈ more)).length ≤ left.length := List.length_filter_le _ _
  generalize (left.filter fun j => !decide (j ∈ more)) = rest at h2 hl3 ⊢
  have q1 : more.length ≤ lim := by unfold lim; omega
  have q2 : rest.length ≤ lim := by unfold lim; omega
  have q3 : part.length + more.length ≤ lim := by unfold lim; omega
  simp only [nsD, List.map_append] at h2
  have hadd : dAddI (nD k) (.int 1) = some (.int ((k : Int) + 1), .sh) := rfl
  simp [b0_parts_of, eLc, cV, h1, h2, hadd, q1, q2, q3, put_j h5]
/-- the cells that share ports, step by step; fuel first -/
def growP (ports : List Ports) : Nat → List Nat → Nat → List Nat → List Nat × List Nat
  | 0, part, _, left => (part, left)
  | f + 1, part, k, left => match part[k]? with
    | none => (part, left)
    | some a => growP ports f (part ++ left.filter (touch ports a)) (k + 1) (left.filter fun j => !decide (j ∈ left.filter (touch ports a)))
theorem wl_succ {t : TM} {b : SM} {n : Nat} {e e1 e2 : Ev} (h1 : t e = some (true, e1)) (h2 : b e1 = some (.nx e2)) : wl t b (n + 1) e = wl t b n e2 := by
  show ((t e).bind _) = _
  rw [h1]
  simp only [Option.bind_some, if_true, h2]
theorem wl_done {t : TM} {b : SM} {n : Nat} {e e1 : Ev} (h1 : t e = some (false, e1)) : wl t b (n + 1) e = some (.nx e1) := by
  show ((t e).bind _) = _
  rw [h1]
  rfl
theorem filter_split (p : Nat → Bool) : ∀ l : List Nat, (l.filter p).length + (l.filter fun j => !p j).length = l.length
  | [] => rfl
  | a :: l => by
    have ih := filter_split p l
    cases h : p a <;> simp [List.filter_cons, h] <;> omega
theorem rest_eq (p : Nat → Bool) (l : List Nat) : (l.filter fun j => !decide (j ∈ l.filter p)) = l.filter fun j => !p j := by
  refine List.filter_congr fun j hj => ?_
  by_cases h : p j = true
  · rw [h, decide_eq_true (List.mem_filter.mpr ⟨hj, h⟩)]
  · rw [decide_eq_false fun q => h (List.mem_filter.mp q).2]
    simpa using h
theorem grow_ok {ports : List Ports} (hp : SidesOk ports) {x2 : Option (D × Tg)} : ∀ (f m k : Nat) (part left : List Nat) (j5 : Option (D × Tg)), f < m → part.length + left.length ≤ f + k → part.length + left.length ≤ 60 → (∀ i ∈ left, i < ports.length) → (∀ i ∈ part, i < ports.length) → Jk j5 → ∃ k4 k5, Jk k4 ∧ Jk k5 ∧
    wl (tB (e2 dLt (oV 4) (oE (eN fLen (aC (oV 3) aN))))) b0_parts_of m [some (.list (ports.map psD), .sh), some (nsD left, .ow), x2, some (nsD part, .ow), some (nD k, .sh), j5, none, none] =
      some (.nx [some (.list (ports.map psD), .sh), some (nsD (growP ports f part k left).2, .ow), x2, some (nsD (growP ports f part k left).1, .ow), k4, k5, none, none]) := by
  intro f
  induction f with
  | zero =>
    intro m k part left j5 hm hk h60 hl hpt h5
    obtain ⟨m, rfl⟩ : ∃ m', m = m' + 1 := ⟨m - 1, by omega⟩
    refine ⟨some (nD k, .sh), j5, jk_h, h5, wl_done ?_⟩
    have hk2 : ¬ k < part.length := by omega
    simp [hk2, growP]
  | succ f ih =>
    intro m k part left j5 hm hk h60 hl hpt h5
    obtain ⟨m, rfl⟩ : ∃ m', m = m' + 1 := ⟨m - 1, by omega⟩
    cases ha : part[k]? with
    | none =>
      have hk2 : ¬ k < part.length := by
        rw [List.getElem?_eq_none_iff] at ha
        omega
      have e : growP ports (f + 1) part k left = (part, left) := by
        unfold growP
        rw [ha]
      rw [e]
      refine ⟨some (nD k, .sh), j5, jk_h, h5, wl_done ?_⟩
      simp [hk2]
    | some a =>
      have hk2 : k < part.length := by
        obtain ⟨h, _⟩ := List.getElem?_eq_some_iff.mp ha
        exact h
      have e : growP ports (f + 1) part k left = growP ports f (part ++ left.filter (touch ports a)) (k + 1) (left.filter fun j => !decide (j ∈ left.filter (touch ports a))) := by
        rw [growP, ha]
      have hlen := filter_split (touch ports a) left
      rw [← rest_eq] at hlen
      have hb := b0_parts_ok hp (left := left) (x2 := x2) ha hl (hpt a (List.mem_of_getElem? ha)) (by omega) (by omega) h5
      obtain ⟨k4, k5, q4, q5, h⟩ := ih m (k + 1) (part ++ left.filter (touch ports a)) (left.filter fun j => !decide (j ∈ left.filter (touch ports a))) (some (nsD (left.filter (touch ports a)), .ow)) (by omega) (by rw [List.length_append]; omega) (by rw [List.length_append]; omega) (fun i hi => hl i (List.mem_filter.mp hi).1) (fun i hi => by
        rcases List.mem_append.mp hi with hi | hi
        · exact hpt i hi
        · exact hl i (List.mem_filter.mp hi).1) jk_w
      rw [e]
      refine ⟨k4, k5, q4, q5, ?_⟩
      rw [← h]
      refine wl_succ ?_ hb
      simp [hk2]
end Gn
namespace Gn
open PySem PySem.Spec PyProof.Rows L2 Dd
theorem leD_n (a b : Nat) : leD (nD a) (nD b) = decide (a ≤ b) := by
  have h : leD (nD a) (nD b) = !PySem.W.dataLt (nD b) (nD a) := rfl
  rw [h, PySem.W.dataLt_int, Bool.eq_iff_iff]
  simp
def isortN : List Nat → List Nat := isort fun a b => decide (a ≤ b)
theorem insD_n (x : Nat) : ∀ l : List Nat, insD leD (nD x) (l.map nD) = (insD (fun a b => decide (a ≤ b)) x l).map nD
  | [] => rfl
  | y :: l => by
    have ih := insD_n x l
    rw [List.map_cons]
    unfold insD
    rw [leD_n, ih]
    split <;> rfl
theorem isort_n : ∀ l : List Nat, isort leD (l.map nD) = (isortN l).map nD
  | [] => rfl
  | y :: l => by
    have ih := isort_n l
    rw [List.map_cons]
    unfold isort
    rw [ih, insD_n]
    rfl
theorem okSort_n {l : List Nat} (h : l.length ≤ 60) : okSort (l.map nD) = true := by
  unfold okSort
  simp only [Bool.and_eq_true, Bool.or_eq_true, List.all_eq_true, decide_eq_true_eq]
  have hi : ∀ x ∈ l.map nD, ∃ i : Nat, x = nD i := fun x hx => by
    obtain ⟨i, _, rfl⟩ := List.mem_map.mp hx
    exact ⟨i, rfl⟩
  refine ⟨⟨⟨⟨fun x hx y hy => ?_, .inr fun x hx => ?_⟩, plainAll_map (enc := nD) (fun _ => rfl) l⟩, ?_⟩, fun x hx => ?_⟩
  · obtain ⟨i, rfl⟩ := hi x hx
    obtain ⟨j, rfl⟩ := hi y hy
    rfl
  · obtain ⟨i, rfl⟩ := hi x hx
    rfl
  · rw [List.length_map]
    unfold lim
    omega
  · obtain ⟨i, rfl⟩ := hi x hx
    show (0 : Nat) ≤ 60
    decide
theorem fSorted_n {l : List Nat} (h : l.length ≤ 60) : fSorted [nsD l] = some (nsD (isortN l), .ow) := by
  show (if okSort (l.map nD) = true then some (PyData.list (isort leD (l.map nD)), Tg.ow) else none) = _
  rw [if_pos (okSort_n h), isort_n]
theorem isortN_perm : ∀ l : List Nat, (isortN l).Perm l
  | [] => .refl _
  | y :: l => by
    have ih := isortN_perm l
    have h : ∀ (x : Nat) (l : List Nat), (insD (fun a b => decide (a ≤ b)) x l).Perm (x :: l) := fun x l => by
      induction l with
      | nil => exact .refl _
      | cons z l ih =>
        unfold insD
        split
        · exact .refl _
        · exact (ih.cons z).trans (.swap x z l)
    show (insD _ y (isortN l)).Perm _
    exact (h y _).trans (ih.cons y)
/-- the parts; fuel first -/
def partsP (ports : List Ports) : Nat → List Nat → List (List Nat)
  | 0, _ => []
  | _ + 1, [] => []
  | f + 1, i :: left => isortN (growP ports 60 [i] 0 left).1 :: partsP ports f (growP ports 60 [i] 0 left).2
theorem grow_perm (ports : List Ports) : ∀ (f k : Nat) (part left : List Nat), ((growP ports f part k left).1 ++ (growP ports f part k left).2).Perm (part ++ left)
  | 0, _, part, left => .refl _
  | f + 1, k, part, left => by
    unfold growP
    cases part[k]? with
    | none => exact .refl _
    | some a =>
      refine (grow_perm ports f (k + 1) _ _).trans ?_
      rw [rest_eq, List.append_assoc]
      exact .append_left _ (List.filter_append_perm _ _)
theorem b1_parts_ok {ports : List Ports} (hp : SidesOk ports) {i : Nat} {left : List Nat} (hl : left.length ≤ 50) (hm : ∀ j ∈ i :: left, j < ports.length) {acc : List (List Nat)} (ha : acc.length ≤ 60) {j3 j4 j5 : Option (D × Tg)} (h3 : Jk j3) (h4 : Jk j4) (h5 : Jk j5) :
    ∃ k3 k4 k5, Jk k3 ∧ Jk k4 ∧ Jk k5 ∧ b1_parts_of [some (.list (ports.map psD), .sh), some (nsD (i :: left), .ow), some (.list (acc.map nsD), .ow), j3, j4, j5, none, none] =
      some (.nx [some (.list (ports.map psD), .sh), some (nsD (growP ports 60 [i] 0 left).2, .ow), some (.list ((acc ++ [isortN (growP ports 60 [i] 0 left).1]).map nsD), .ow), k3, k4, k5, none, none]) := by
  obtain ⟨k4, k5, q4, q5, h⟩ := grow_ok hp (x2 := some (.list (acc.map nsD), .ow)) 60 100000 0 [i] left j5 (by decide) (by rw [List.length_singleton]; omega) (by rw [List.length_singleton]; omega) (fun j hj => hm j (List.mem_cons_of_mem _ hj)) (fun j hj => by
    rw [List.mem_singleton] at hj
    exact hj ▸ hm i List.mem_cons_self) h5
  have hgl := (grow_perm ports 60 0 [i] left).length_eq
  rw [List.length_append, List.length_append, List.length_singleton] at hgl
  generalize growP ports 60 [i] 0 left = g at *
  have hs := fSorted_n (l := g.1) (by omega)
  have hal : acc.length < lim := by unfold lim; omega
  refine ⟨some (nsD g.1, .ow), k4, k5, jk_w, q4, q5, ?_⟩
  have h' : sWhile 100000 (tB (e2 dLt (oV 4) (oE (eN fLen (aC (oV 3) aN))))) b0_parts_of [some (.list (ports.map psD), .sh), some (.list (left.map nD), .ow), some (.list (acc.map nsD), .ow), some (.list [.int (i : Int)], .ow), some (.int 0, .sh), j5, none, none] = _ := h
  show b1_parts_of [some (.list (ports.map psD), .sh), some (.list (nD i :: left.map nD), .ow), some (.list (acc.map nsD), .ow), j3, j4, j5, none, none] = _
  simp [b1_parts_of, put_j h3, put_j h4, h', hs, hal, show 1 ≤ lim by decide, puts]
end Gn
namespace Gn
open PySem PySem.Spec PyProof.Rows L2 Dd
theorem grow_pre (ports : List Ports) : ∀ (f k : Nat) (part left : List Nat), part.length ≤ (growP ports f part k left).1.length
  | 0, _, part, left => Nat.le_refl _
  | f + 1, k, part, left => by
    unfold growP
    cases part[k]? with
    | none => exact Nat.le_refl _
    | some a =>
      refine Nat.le_trans ?_ (grow_pre ports f (k + 1) _ _)
      rw [List.length_append]
      omega
theorem ne_nil (l : List Nat) (h : l.length ≤ 60) : dNe (nsD l) (.list []) = some (.bool (!l.isEmpty), .sh) := by
  show (if okD (nsD l) (.list []) = true then some (PyData.bool (!PyData.eqv (nsD l) (.list [])), Tg.sh) else none) = _
  have hq : (nsD l).plain = true := plainAll_map (enc := nD) (fun _ => rfl) l
  rw [if_pos (okD_r hq rfl (by decide))]
  cases l <;> rfl
theorem parts_loop {ports : List Ports} (hp : SidesOk ports) : ∀ (f m : Nat) (left : List Nat) (acc : List (List Nat)) (j3 j4 j5 : Option (D × Tg)), f < m → left.length ≤ f → left.length ≤ 50 → acc.length + left.length ≤ 60 → (∀ j ∈ left, j < ports.length) → Jk j3 → Jk j4 → Jk j5 →
    ∃ k3 k4 k5, wl (tB (e2 dNe (oV 1) (oE (eLst lN)))) b1_parts_of m [some (.list (ports.map psD), .sh), some (nsD left, .ow), some (.list (acc.map nsD), .ow), j3, j4, j5, none, none] =
      some (.nx [some (.list (ports.map psD), .sh), some (nsD [], .ow), some (.list ((acc ++ partsP ports f left).map nsD), .ow), k3, k4, k5, none, none]) := by
  intro f
  have done : ∀ (m : Nat) (acc : List (List Nat)) (j3 j4 j5 : Option (D × Tg)), wl (tB (e2 dNe (oV 1) (oE (eLst lN)))) b1_parts_of (m + 1) [some (.list (ports.map psD), .sh), some (nsD [], .ow), some (.list (acc.map nsD), .ow), j3, j4, j5, none, none] =
      some (.nx [some (.list (ports.map psD), .sh), some (nsD [], .ow), some (.list (acc.map nsD), .ow), j3, j4, j5, none, none]) := fun m acc j3 j4 j5 => by
    refine wl_done ?_
    have h := ne_nil [] (by simp)
    simp [h]
  induction f with
  | zero =>
    intro m left acc j3 j4 j5 hm hl _ _ _ _ _ _
    obtain ⟨m, rfl⟩ : ∃ m', m = m' + 1 := ⟨m - 1, by omega⟩
    obtain rfl : left = [] := List.eq_nil_of_length_eq_zero (by omega)
    refine ⟨j3, j4, j5, ?_⟩
    rw [done]
    simp [partsP]
  | succ f ih =>
    intro m left acc j3 j4 j5 hm hl h50 h60 hlt h3 h4 h5
    obtain ⟨m, rfl⟩ : ∃ m', m = m' + 1 := ⟨m - 1, by omega⟩
    cases left with
    | nil =>
      refine ⟨j3, j4, j5, ?_⟩
      rw [done]
      simp [partsP]
    | cons i left =>
      rw [List.length_cons] at hl h50 h60
      obtain ⟨k3, k4, k5, q3, q4, q5, hb⟩ := b1_parts_ok hp (by omega) hlt (acc := acc) (by omega) h3 h4 h5
      have hperm := grow_perm ports 60 0 [i] left
      have hgl := hperm.length_eq
      have hgp := grow_pre ports 60 0 [i] left
      rw [List.length_append, List.length_append, List.length_singleton] at hgl
      rw [List.length_singleton] at hgp
      have hmem : ∀ j ∈ (growP ports 60 [i] 0 left).2, j < ports.length := fun j hj => hlt j (hperm.subset (List.mem_append_right _ hj))
      have e : partsP ports (f + 1) (i :: left) = isortN (growP ports 60 [i] 0 left).1 :: partsP ports f (growP ports 60 [i] 0 left).2 := rfl
      rw [e]
      generalize growP ports 60 [i] 0 left = g at *
      obtain ⟨r3, r4, r5, h⟩ := ih m g.2 (acc ++ [isortN g.1]) k3 k4 k5 (by omega) (by omega) (by omega) (by rw [List.length_append, List.length_singleton]; omega) hmem q3 q4 q5
      refine ⟨r3, r4, r5, ?_⟩
      rw [show acc ++ isortN g.1 :: partsP ports f g.2 = acc ++ [isortN g.1] ++ partsP ports f g.2 by simp, ← h]
      refine wl_succ ?_ hb
      have hne := ne_nil (i :: left) (by rw [List.length_cons]; omega)
      show (tB (e2 dNe (oV 1) (oE (eLst lN)))) [some (.list (ports.map psD), .sh), some (.list (nD i :: left.map nD), .ow), some (.list (acc.map nsD), .ow), j3, j4, j5, none, none] = _
      have hne' : dNe (.list (nD i :: left.map nD)) (.list []) = _ := hne
      simp [hne']
theorem parts_of_ok {ports : List Ports} (hp : SidesOk ports) (hl : ports.length ≤ 8) : m_parts_of [.list (ports.map psD)] = some (.list ((partsP ports ports.length (List.range ports.length)).map nsD), .ow) := by
  obtain ⟨k3, k4, k5, h⟩ := parts_loop hp ports.length 100000 (List.range ports.length) [] none none none (by omega) (by simp) (by simp; omega) (by simp; omega) (fun j hj => List.mem_range.mp hj) jk_n jk_n jk_n
  have hr : rngD 0 ports.length = (List.range ports.length).map nD := by
    unfold rngD
    refine List.map_congr_left fun k _ => ?_
    show PyData.int (0 + (k : Int)) = .int (k : Int)
    rw [Int.zero_add]
  have h' : sWhile 100000 (tB (e2 dNe (oV 1) (oE (eLst lN)))) b1_parts_of [some (.list (ports.map psD), .sh), some (nsD (List.range ports.length), .ow), some (.list [], .ow), none, none, none, none, none] = _ := h
  have hlr : fLr1 (.int (ports.length : Int)) = some (nsD (List.range ports.length), .ow) := by
    show (if -(lim : Int) ≤ (ports.length : Int) ∧ (ports.length : Int) ≤ lim then some (PyData.list (rngD 0 (ports.length : Int).toNat), Tg.ow) else none) = _
    rw [if_pos (by unfold lim; omega), Int.toNat_natCast, hr]
  generalize List.range ports.length = r at *
  simp [m_parts_of, hlr, puts, h']
end Gn
namespace Gn
open PySem PySem.Spec PyProof.Rows L2 Dd
theorem parts_perm (ports : List Ports) : ∀ (f : Nat) (left : List Nat), left.length ≤ f → (partsP ports f left).flatten.Perm left
  | 0, left, h => by
    obtain rfl : left = [] := List.eq_nil_of_length_eq_zero (by omega)
    exact .refl _
  | f + 1, [], _ => .refl _
  | f + 1, i :: left, h => by
    have hperm := grow_perm ports 60 0 [i] left
    have hgl := hperm.length_eq
    have hgp := grow_pre ports 60 0 [i] left
    rw [List.length_append, List.length_append, List.length_singleton] at hgl
    rw [List.length_singleton] at hgp
    rw [List.length_cons] at h
    have ih := parts_perm ports f (growP ports 60 [i] 0 left).2 (by omega)
    show (isortN (growP ports 60 [i] 0 left).1 ++ (partsP ports f (growP ports 60 [i] 0 left).2).flatten).Perm _
    exact ((isortN_perm _).append ih).trans hperm
/-- the tight ports of all cells -/
def tightP (cs : List Cell) (p q : Int) : List Ports := cs.map (portsAt cs p q)
theorem tight_sides (cs : List Cell) (p q : Int) : SidesOk (tightP cs p q) := fun r hr => by
  obtain ⟨c, _, rfl⟩ := List.mem_map.mp hr
  unfold portsAt
  split <;> split <;> simp
def waysOf (ports : List Ports) (p q : Int) (spans : Spans) (part : List Nat) : Nat := wval ((slotsOf spans part).foldl (slotW ports p q spans part) [(0, 1)]) (maskOf part)
def countW (cs : List Cell) (spans : Spans) (p q : Int) : Nat := ((partsP (tightP cs p q) cs.length (List.range cs.length)).map (waysOf (tightP cs p q) p q spans)).foldl (· * ·) 1
theorem parts_len (ports : List Ports) : ∀ (f : Nat) (left : List Nat), (partsP ports f left).length ≤ f
  | 0, _ => Nat.le_refl _
  | _ + 1, [] => Nat.zero_le _
  | f + 1, i :: left => by
    show (isortN (growP ports 60 [i] 0 left).1 :: partsP ports f (growP ports 60 [i] 0 left).2).length ≤ _
    rw [List.length_cons]
    exact Nat.succ_le_succ (parts_len ports f _)
theorem log2_lt' {n k : Nat} (h : n ≤ 2 ^ k) : n.log2 < k + 1 := by
  by_cases h0 : n = 0
  · subst h0
    exact Nat.lt_of_le_of_lt (Nat.le_refl 0) (Nat.succ_pos k)
  · rw [Nat.log2_lt h0, Nat.pow_succ]
    have := Nat.two_pow_pos k
    omega
theorem prod_le {f : List Nat → Nat} : ∀ (l : List (List Nat)) (acc a : Nat), acc ≤ 2 ^ a → (∀ x ∈ l, f x ≤ 2 ^ 100) → (l.map f).foldl (· * ·) acc ≤ 2 ^ (a + 100 * l.length)
  | [], acc, a, h, _ => h
  | x :: l, acc, a, h, hx => by
    rw [List.map_cons, List.foldl_cons, List.length_cons]
    have := prod_le (f := f) l (acc * f x) (a + 100) (by rw [Nat.pow_add]; exact Nat.mul_le_mul h (hx x List.mem_cons_self)) fun y hy => hx y (List.mem_cons_of_mem _ hy)
    rwa [show a + 100 * (l.length + 1) = a + 100 + 100 * l.length by omega]
theorem dMul_n {n m : Nat} (hn : n ≤ 2 ^ 900) (hm : m ≤ 2 ^ 100) : dMul (nD n) (nD m) = some (nD (n * m), .sh) := by
  have h1 := log2_lt' hn
  have h2 := log2_lt' hm
  show (if ((n : Int).natAbs.log2 + (m : Int).natAbs.log2 < 1000000) then (some (PyData.int ((n : Int) * (m : Int)), Tg.sh) : Option Res) else none) = _
  rw [if_pos (by rw [Int.natAbs_natCast, Int.natAbs_natCast]; omega), ← Int.natCast_mul]
theorem count_with_ok {cs : List Cell} (hc : cs.length ≤ 8) {spans : Spans} (hsl : spans.length = cs.length) {p q : Int} (hsp : ∀ s ∈ spans, s.2 - s.1 < 8) (hfew : ∀ part ∈ partsP (tightP cs p q) cs.length (List.range cs.length), (slotsOf spans part).length < 64) (hbig : ∀ part ∈ partsP (tightP cs p q) cs.length (List.range cs.length), waysOf (tightP cs p q) p q spans part ≤ 2 ^ 100) :
    m_count_with [csD cs, .list (spans.map pD), .tuple [.int p, .int q]] = some (nD (countW cs spans p q), .sh) := by
  have h1 := tight_ports_ok (cs := cs) (p := p) (q := q) (by omega)
  have hs := tight_sides cs p q
  have htl : (tightP cs p q).length = cs.length := List.length_map _
  have h2 := parts_of_ok hs (by omega)
  have hperm := parts_perm (tightP cs p q) cs.length (List.range cs.length) (by simp)
  rw [htl] at h2
  rw [show cs.map (portsAt cs p q) = tightP cs p q from rfl] at h1
  unfold countW
  have hpart : ∀ part ∈ partsP (tightP cs p q) cs.length (List.range cs.length), part.Nodup ∧ (∀ i ∈ part, i < cs.length) ∧ part.length ≤ 8 := fun part hp => by
    have hsub : part.Sublist (partsP (tightP cs p q) cs.length (List.range cs.length)).flatten := List.sublist_flatten_of_mem hp
    have hnd := hsub.nodup (hperm.nodup_iff.mpr List.nodup_range)
    have hmem : ∀ i ∈ part, i < cs.length := fun i hi => List.mem_range.mp (hperm.subset (hsub.subset hi))
    refine ⟨hnd, hmem, ?_⟩
    have := hsub.length_le
    rw [hperm.length_eq, List.length_range] at this
    omega
  have hpn := parts_len (tightP cs p q) cs.length (List.range cs.length)
  generalize partsP (tightP cs p q) cs.length (List.range cs.length) = parts at *
  generalize tightP cs p q = ports at *
  obtain ⟨e', h3, j5, q5, rfl⟩ := fl_pre (enc := nsD) (g := gN 5) (b := b0_count_with) (cs := parts) (fun pre (e : Ev) => ∃ j5, Jk j5 ∧ e = [some (csD cs, .sh), some (.list (spans.map pD), .sh), some (.tuple [.int p, .int q], .sh), some (.list (ports.map psD), .sh), some (nD ((pre.map (waysOf ports p q spans)).foldl (· * ·) 1), .sh), j5])
    (fun pre x post he e ⟨j5, q5, h⟩ => by
      subst h
      obtain ⟨g1, g2, g3⟩ := hpart x (by rw [he]; simp)
      have hw := ways_with_ok hs (p := p) (q := q) (spans := spans) (some' := x) (by omega) (by omega) g1 (fun i hi => by rw [htl]; exact g2 i hi) g3 (fun i hi => by
        have hi2 := g2 i hi
        unfold spn
        rw [List.getElem?_eq_getElem (by omega)]
        exact hsp _ (List.getElem_mem _)) (hfew x (by rw [he]; simp))
      refine ⟨[some (csD cs, .sh), some (.list (spans.map pD), .sh), some (.tuple [.int p, .int q], .sh), some (.list (ports.map psD), .sh), some (nD ((pre.map (waysOf ports p q spans)).foldl (· * ·) 1), .sh), some (nsD x, .sh)], _, by simp [put_j q5], ?_, some (nsD x, .sh), jk_h, rfl⟩
      have hw' : m_ways_with [.list (ports.map psD), .list (spans.map pD), .tuple [.int p, .int q], nsD x] = some (nD (waysOf ports p q spans x), .sh) := hw
      clear hw
      have hpre : (pre.map (waysOf ports p q spans)).foldl (· * ·) 1 ≤ 2 ^ 900 := by
        have h := prod_le (f := waysOf ports p q spans) pre 1 0 (Nat.le_refl 1) fun y hy => hbig y (by rw [he]; exact List.mem_append_left _ hy)
        have hl : pre.length ≤ 8 := by rw [he, List.length_append] at hpn; omega
        exact Nat.le_trans h (Nat.pow_le_pow_right (by decide) (by omega))
      have hm := dMul_n hpre (hbig x (by rw [he]; simp))
      simp only [List.map_append, List.map_cons, List.map_nil, List.foldl_append, List.foldl_cons, List.foldl_nil]
      clear hpre
      generalize waysOf ports p q spans x = m at hw' hm ⊢
      generalize (pre.map (waysOf ports p q spans)).foldl (· * ·) 1 = n at hm ⊢
      simp [b0_count_with, hw', hm, Dd.scal]) parts [] rfl [some (csD cs, .sh), some (.list (spans.map pD), .sh), some (.tuple [.int p, .int q], .sh), some (.list (ports.map psD), .sh), some (nD 1, .sh), none] ⟨none, jk_n, rfl⟩
  have h3' : fl (gN 5) b0_count_with (parts.map nsD) [some (csD cs, .sh), some (.list (spans.map pD), .sh), some (.tuple [.int p, .int q], .sh), some (.list (ports.map psD), .sh), some (.int 1, .sh), none] = _ := h3
  generalize (parts.map (waysOf ports p q spans)).foldl (· * ·) 1 = res at *
  simp [m_count_with, h1, h2, h3', puts]
end Gn
namespace Gn
/-- no port more than its speed -/
def OkP (ports : List Ports) (p q : Int) (P : List Nat) : Prop := ∀ pt, pt ∈ usedBy ports P → ((usedBy ports P).count pt : Int) ≤ spd p q pt.1
def NdP (ports : List Ports) : Prop := ∀ i, (prt ports i).Nodup
theorem used_snoc (ports : List Ports) (P : List Nat) (i : Nat) : usedBy ports (P ++ [i]) = usedBy ports P ++ prt ports i := by
  unfold usedBy
  rw [List.flatMap_append]
  simp
theorem ok_snoc {ports : List Ports} (hn : NdP ports) {p q : Int} {P : List Nat} {i : Nat} : OkP ports p q (P ++ [i]) ↔ OkP ports p q P ∧ fits ports p q i P = true := by
  have h1 : ∀ pt, ((prt ports i).count pt : Nat) = if pt ∈ prt ports i then 1 else 0 := fun pt => (hn i).count
  unfold OkP fits
  rw [used_snoc]
  simp only [List.mem_append, List.count_append, List.all_eq_true, decide_eq_true_eq, h1]
  constructor
  · intro h
    refine ⟨fun pt hp => ?_, fun pt hp => ?_⟩
    · have := h pt (.inl hp)
      split at this <;> omega
    · have := h pt (.inr hp)
      rw [if_pos hp] at this
      omega
  · rintro ⟨h2, h3⟩ pt hp
    split
    · rename_i hi
      have := h3 pt hi
      omega
    · rename_i hi
      have := h2 pt (hp.resolve_right hi)
      omega
theorem sub_snoc {r pre : List Nat} {i : Nat} : r.Sublist (pre ++ [i]) ↔ r.Sublist pre ∨ ∃ r', r = r' ++ [i] ∧ r'.Sublist pre := by
  rw [List.sublist_append_iff]
  constructor
  · rintro ⟨l1, l2, rfl, h1, h2⟩
    have h3 : l2 = [] ∨ l2 = [i] := by
      cases h2 with
      | cons _ h => exact .inl (List.sublist_nil.mp h)
      | cons_cons _ h => rw [List.sublist_nil.mp h]; exact .inr rfl
    rcases h3 with rfl | rfl
    · rw [List.append_nil]
      exact .inl h1
    · exact .inr ⟨l1, rfl, h1⟩
  · rintro (h | ⟨r', rfl, h⟩)
    · exact ⟨r, [], by simp, h, List.nil_sublist _⟩
    · exact ⟨r', [i], rfl, h, List.Sublist.refl _⟩
/-- what picks_in takes from the first cells -/
def Pk (ports : List Ports) (p q : Int) (due pre P : List Nat) : Prop := P.Sublist pre ∧ (∀ i ∈ pre, i ∈ due → i ∈ P) ∧ OkP ports p q P
theorem pk_step {ports : List Ports} (hn : NdP ports) {p q : Int} {due pre : List Nat} {i : Nat} (hi : i ∉ pre) {rows : List (List Nat)} (h : ∀ r, r ∈ rows ↔ Pk ports p q due pre r) (r : List Nat) : r ∈ picksStep ports p q due rows i ↔ Pk ports p q due (pre ++ [i]) r := by
  have hl : ∀ r, r ∈ longer ports p q i rows ↔ ∃ r', r = r' ++ [i] ∧ Pk ports p q due pre r' ∧ fits ports p q i r' = true := fun r => by
    unfold longer plus
    rw [List.mem_flatMap]
    constructor
    · rintro ⟨r', h1, h2⟩
      split at h2
      · rw [List.mem_singleton] at h2
        exact ⟨r', h2, (h r').mp h1, by assumption⟩
      · cases h2
    · rintro ⟨r', rfl, h1, h2⟩
      exact ⟨r', (h r').mpr h1, by rw [if_pos h2]; exact List.mem_singleton.mpr rfl⟩
  have hlong : (∃ r', r = r' ++ [i] ∧ Pk ports p q due pre r' ∧ fits ports p q i r' = true) ↔ (∃ r', r = r' ++ [i] ∧ r'.Sublist pre) ∧ (∀ j ∈ pre ++ [i], j ∈ due → j ∈ r) ∧ OkP ports p q r := by
    constructor
    · rintro ⟨r', rfl, ⟨h1, h2, h3⟩, h4⟩
      refine ⟨⟨r', rfl, h1⟩, fun j hj hd => ?_, (ok_snoc hn).mpr ⟨h3, h4⟩⟩
      rcases List.mem_append.mp hj with hj | hj
      · exact List.mem_append_left _ (h2 j hj hd)
      · exact List.mem_append_right _ hj
    · rintro ⟨⟨r', rfl, h1⟩, h2, h3⟩
      obtain ⟨h4, h5⟩ := (ok_snoc hn).mp h3
      refine ⟨r', rfl, ⟨h1, fun j hj hd => ?_, h4⟩, h5⟩
      rcases List.mem_append.mp (h2 j (List.mem_append_left _ hj) hd) with q | q
      · exact q
      · rw [List.mem_singleton] at q
        exact (hi (q ▸ hj)).elim
  unfold picksStep
  by_cases hd : i ∈ due
  · rw [if_pos hd, hl, hlong]
    unfold Pk
    rw [sub_snoc]
    constructor
    · rintro ⟨h1, h2, h3⟩
      exact ⟨.inr h1, h2, h3⟩
    · rintro ⟨h1 | h1, h2, h3⟩
      · exact (hi (h1.subset (h2 i (List.mem_append_right _ (List.mem_singleton.mpr rfl)) hd))).elim
      · exact ⟨h1, h2, h3⟩
  · rw [if_neg hd, List.mem_append, hl, hlong, h]
    unfold Pk
    rw [sub_snoc]
    constructor
    · rintro (⟨h1, h2, h3⟩ | ⟨h1, h2, h3⟩)
      · refine ⟨.inl h1, fun j hj hdj => ?_, h3⟩
        rcases List.mem_append.mp hj with hj | hj
        · exact h2 j hj hdj
        · rw [List.mem_singleton] at hj
          exact (hd (hj ▸ hdj)).elim
      · exact ⟨.inr h1, h2, h3⟩
    · rintro ⟨h1 | h1, h2, h3⟩
      · exact .inl ⟨h1, fun j hj hdj => h2 j (List.mem_append_left _ hj) hdj, h3⟩
      · exact .inr ⟨h1, h2, h3⟩
theorem pk_fold {ports : List Ports} (hn : NdP ports) {p q : Int} {due : List Nat} : ∀ (free pre : List Nat) (rows : List (List Nat)), (pre ++ free).Nodup → (∀ r, r ∈ rows ↔ Pk ports p q due pre r) → ∀ r, r ∈ free.foldl (picksStep ports p q due) rows ↔ Pk ports p q due (pre ++ free) r
  | [], pre, rows, _, h, r => by rw [List.append_nil]; exact h r
  | i :: free, pre, rows, hd, h, r => by
    have hi : i ∉ pre := fun q => by
      rw [List.nodup_append] at hd
      exact hd.2.2 i q i List.mem_cons_self rfl
    rw [List.foldl_cons, pk_fold hn free (pre ++ [i]) _ (by rw [List.append_assoc]; exact hd) (pk_step hn hi h) r, List.append_assoc]
    rfl
theorem picks_iff {ports : List Ports} (hn : NdP ports) {p q : Int} {free due : List Nat} (hf : free.Nodup) (P : List Nat) : P ∈ picks ports p q free due ↔ Pk ports p q due free P := by
  refine pk_fold hn free [] [[]] hf (fun r => ?_) P
  unfold Pk
  rw [List.mem_singleton, List.sublist_nil]
  constructor
  · rintro rfl
    exact ⟨rfl, fun _ h => (nomatch h), fun pt h => (nomatch h)⟩
  · exact fun h => h.1
end Gn
namespace Gn
theorem longer_eq (ports : List Ports) (p q : Int) (i : Nat) (rows : List (List Nat)) : longer ports p q i rows = (rows.filter (fits ports p q i)).map fun r => r ++ [i] := by
  induction rows with
  | nil => rfl
  | cons r rows ih =>
    unfold longer at ih ⊢
    rw [List.flatMap_cons, ih, List.filter_cons]
    unfold plus
    split <;> simp
theorem longer_nodup {ports : List Ports} {p q : Int} {i : Nat} {rows : List (List Nat)} (h : rows.Nodup) : (longer ports p q i rows).Nodup := by
  rw [longer_eq]
  refine List.Pairwise.map _ (fun a b hab e => hab ?_) (h.filter _)
  exact List.append_cancel_right e
theorem picks_nodup {ports : List Ports} {p q : Int} {due : List Nat} : ∀ (free pre : List Nat) (rows : List (List Nat)), (pre ++ free).Nodup → rows.Nodup → (∀ r ∈ rows, r.Sublist pre) → (free.foldl (picksStep ports p q due) rows).Nodup
  | [], _, rows, _, h, _ => h
  | i :: free, pre, rows, hd, h, hs => by
    have hi : i ∉ pre := fun q => by
      rw [List.nodup_append] at hd
      exact hd.2.2 i q i List.mem_cons_self rfl
    have hl : ∀ r ∈ longer ports p q i rows, r.Sublist (pre ++ [i]) ∧ i ∈ r := fun r hr => by
      rw [longer_eq] at hr
      obtain ⟨r0, h0, rfl⟩ := List.mem_map.mp hr
      exact ⟨(hs r0 (List.mem_filter.mp h0).1).append (List.Sublist.refl _), List.mem_append_right _ (List.mem_singleton.mpr rfl)⟩
    rw [List.foldl_cons]
    refine picks_nodup free (pre ++ [i]) _ (by rw [List.append_assoc]; exact hd) ?_ ?_
    · unfold picksStep
      split
      · exact longer_nodup h
      · rw [List.nodup_append]
        refine ⟨h, longer_nodup h, fun a ha b hb e => hi ?_⟩
        exact (hs a ha).subset (e ▸ (hl b hb).2)
    · intro r hr
      unfold picksStep at hr
      split at hr
      · exact (hl r hr).1
      · rcases List.mem_append.mp hr with hr | hr
        · exact (hs r hr).trans (List.sublist_append_left _ _)
        · exact (hl r hr).1
theorem picks_nodup0 {ports : List Ports} {p q : Int} {free due : List Nat} (hf : free.Nodup) : (picks ports p q free due).Nodup := picks_nodup free [] [[]] hf (by simp) (by simp)
end Gn
namespace Gn
abbrev Asg := List (Nat × Int)
def dom (a : Asg) : List Nat := a.map (·.1)
/-- one slot more -/
def stepA (ports : List Ports) (p q : Int) (spans : Spans) (some' : List Nat) (A : List Asg) (slot : Int) : List Asg :=
  A.flatMap fun a => (picks ports p q ((hereOf spans some' slot).filter fun i => !decide (i ∈ dom a)) (dueOf spans (hereOf spans some' slot) slot)).map fun P => a ++ P.map fun i => (i, slot)
theorem dom_app (a : Asg) (P : List Nat) (slot : Int) : dom (a ++ P.map fun i => (i, slot)) = dom a ++ P := by
  unfold dom
  rw [List.map_append, List.map_map]
  congr 1
  exact List.map_id P
theorem mask_app (l P : List Nat) : maskOf (l ++ P) = maskOf l + maskOf P := by
  unfold maskOf
  rw [List.map_append, List.sum_append]
theorem stepA_nd {ports : List Ports} {p q : Int} {spans : Spans} {some' : List Nat} (hs : some'.Nodup) {A : List Asg} (h : ∀ a ∈ A, (dom a).Nodup) {slot : Int} : ∀ a ∈ stepA ports p q spans some' A slot, (dom a).Nodup := fun a ha => by
  obtain ⟨b, hb, h1⟩ := List.mem_flatMap.mp ha
  obtain ⟨P, hP, rfl⟩ := List.mem_map.mp h1
  have hsub := picks_sub0 hP
  rw [dom_app, List.nodup_append]
  refine ⟨h b hb, hsub.nodup ((hs.filter _).filter _), fun x hx y hy e => ?_⟩
  have := (List.mem_filter.mp (hsub.subset hy)).2
  rw [← e, decide_eq_true hx] at this
  cases this
theorem slot_counts {n : Nat} {ports : List Ports} {p q : Int} {spans : Spans} {some' : List Nat} (hs : some'.Nodup) (hm : ∀ i ∈ some', i < n) {A : List Asg} (h : ∀ a ∈ A, (dom a).Nodup) {w : List (Nat × Nat)} (hw : WOk n w) (hc : Counts w (A.map fun a => maskOf (dom a))) (slot : Int) :
    WOk n (slotW ports p q spans some' w slot) ∧ Counts (slotW ports p q spans some' w slot) ((stepA ports p q spans some' A slot).map fun a => maskOf (dom a)) := by
  obtain ⟨h1, h2⟩ := counts_step (n := n) (f := fun m => picks ports p q (freeOf (hereOf spans some' slot) m) (dueOf spans (hereOf spans some' slot) slot)) hc fun e he P hP => picks_lt (hs.filter _) (fun i hi => hm i (List.mem_filter.mp hi).1) (hw.lt e he) hP
  refine ⟨h1, ?_⟩
  have e : ((A.map fun a => maskOf (dom a)).flatMap fun m => (picks ports p q (freeOf (hereOf spans some' slot) m) (dueOf spans (hereOf spans some' slot) slot)).map fun P => m + maskOf P) = (stepA ports p q spans some' A slot).map fun a => maskOf (dom a) := by
    unfold stepA
    rw [List.map_flatMap, List.flatMap_map]
    clear h1 h2 hc hw
    induction A with
    | nil => rfl
    | cons a A ih =>
      rw [List.flatMap_cons, List.flatMap_cons, ih fun b hb => h b (List.mem_cons_of_mem _ hb), List.map_map]
      congr 1
      have hf : freeOf (hereOf spans some' slot) (maskOf (dom a)) = (hereOf spans some' slot).filter fun i => !decide (i ∈ dom a) := by
        unfold freeOf
        refine List.filter_congr fun i _ => ?_
        rw [mask_bit (h a List.mem_cons_self)]
      rw [hf]
      refine List.map_congr_left fun P _ => ?_
      show _ = maskOf (dom (a ++ P.map fun i => (i, slot)))
      rw [dom_app, mask_app]
  rw [← e]
  exact h2
def allA (ports : List Ports) (p q : Int) (spans : Spans) (some' : List Nat) (slots : List Int) (A : List Asg) : List Asg := slots.foldl (stepA ports p q spans some') A
theorem slots_counts {n : Nat} {ports : List Ports} {p q : Int} {spans : Spans} {some' : List Nat} (hs : some'.Nodup) (hm : ∀ i ∈ some', i < n) : ∀ (slots : List Int) {A : List Asg} {w : List (Nat × Nat)}, (∀ a ∈ A, (dom a).Nodup) → WOk n w → Counts w (A.map fun a => maskOf (dom a)) →
    WOk n (slots.foldl (slotW ports p q spans some') w) ∧ Counts (slots.foldl (slotW ports p q spans some') w) ((allA ports p q spans some' slots A).map fun a => maskOf (dom a))
  | [], _, _, _, hw, hc => ⟨hw, hc⟩
  | s :: slots, A, w, h, hw, hc => by
    obtain ⟨h1, h2⟩ := slot_counts (ports := ports) (p := p) (q := q) (spans := spans) hs hm h hw hc s
    exact slots_counts hs hm slots (stepA_nd hs h) h1 h2
theorem le_sum {i : Nat} : ∀ {l : List Nat}, i ∈ l → i ≤ l.sum
  | a :: l, h => by
    rw [List.sum_cons]
    rcases List.mem_cons.mp h with rfl | h
    · omega
    · have := le_sum h
      omega
theorem ways_count {ports : List Ports} {p q : Int} {spans : Spans} {some' : List Nat} (hs : some'.Nodup) : waysOf ports p q spans some' = ((allA ports p q spans some' (slotsOf spans some') [[]]).map fun a => maskOf (dom a)).count (maskOf some') := by
  obtain ⟨n, hn⟩ : ∃ n, ∀ i ∈ some', i < n := ⟨some'.sum + 1, fun i hi => Nat.lt_succ_of_le (le_sum hi)⟩
  obtain ⟨h1, h2⟩ := slots_counts (n := n) (ports := ports) (p := p) (q := q) (spans := spans) hs hn (slotsOf spans some') (A := [[]]) (w := [(0, 1)]) (by simp [dom]) (w01_ok n) (fun g => by simp [wsum, dom, maskOf])
  exact counts_get h1.nd h2 _
end Gn
namespace Gn
theorem split_slot {a : Asg} {P : List Nat} {slot : Int} (h : ∀ x ∈ a, x.2 ≠ slot) : (a ++ P.map fun i => (i, slot)).filter (fun x => decide (x.2 ≠ slot)) = a := by
  rw [List.filter_append, List.filter_eq_self.mpr fun x hx => decide_eq_true (h x hx)]
  have e : (P.map fun i => (i, slot)).filter (fun x => decide (x.2 ≠ slot)) = [] := by
    rw [List.filter_eq_nil_iff]
    intro x hx
    obtain ⟨i, _, rfl⟩ := List.mem_map.mp hx
    simp
  rw [e, List.append_nil]
theorem map_inj {P Q : List Nat} {slot : Int} (h : (P.map fun i => (i, slot)) = Q.map fun i => (i, slot)) : P = Q := by
  have := congrArg (List.map (·.1)) h
  simpa [Function.comp_def] using this
theorem stepA_nodup {ports : List Ports} {p q : Int} {spans : Spans} {some' : List Nat} (hs : some'.Nodup) {slot : Int} : ∀ {A : List Asg}, A.Nodup → (∀ a ∈ A, ∀ x ∈ a, x.2 ≠ slot) → (stepA ports p q spans some' A slot).Nodup
  | [], _, _ => List.nodup_nil
  | a :: A, hn, h => by
    rw [List.nodup_cons] at hn
    have ih := stepA_nodup (ports := ports) (p := p) (q := q) (spans := spans) (slot := slot) hs hn.2 fun b hb => h b (List.mem_cons_of_mem _ hb)
    unfold stepA at ih ⊢
    rw [List.flatMap_cons, List.nodup_append]
    refine ⟨?_, ih, fun x hx y hy e => ?_⟩
    · refine List.Pairwise.map _ (fun P Q hPQ e => hPQ ?_) (picks_nodup0 ((hs.filter _).filter _))
      exact map_inj (List.append_cancel_left e)
    · obtain ⟨P, _, rfl⟩ := List.mem_map.mp hx
      obtain ⟨b, hb, h1⟩ := List.mem_flatMap.mp hy
      obtain ⟨Q, _, rfl⟩ := List.mem_map.mp h1
      have e2 := congrArg (List.filter fun x => decide (x.2 ≠ slot)) e
      rw [split_slot (h a List.mem_cons_self), split_slot (h b (List.mem_cons_of_mem _ hb))] at e2
      exact hn.1 (e2 ▸ hb)
end Gn
namespace Gn
def grp (some' : List Nat) (v : Nat → Int) (s : Int) : List Nat := some'.filter fun i => decide (v i = s)
def seqV (some' : List Nat) (v : Nat → Int) (slots : List Int) : Asg := slots.flatMap fun s => (grp some' v s).map fun i => (i, s)
structure ValidV (ports : List Ports) (p q : Int) (spans : Spans) (some' : List Nat) (v : Nat → Int) : Prop where
  box : ∀ i ∈ some', (spn spans i).1 ≤ v i ∧ v i ≤ (spn spans i).2
  ok : ∀ s, OkP ports p q (grp some' v s)
theorem seqV_snoc (some' : List Nat) (v : Nat → Int) (pre : List Int) (s : Int) : seqV some' v (pre ++ [s]) = seqV some' v pre ++ (grp some' v s).map fun i => (i, s) := by
  unfold seqV
  rw [List.flatMap_append]
  simp
theorem mem_dom_seq {some' : List Nat} {v : Nat → Int} {slots : List Int} {i : Nat} : i ∈ dom (seqV some' v slots) ↔ i ∈ some' ∧ v i ∈ slots := by
  unfold dom seqV grp
  simp only [List.mem_map, List.mem_flatMap, List.mem_filter, decide_eq_true_eq]
  constructor
  · rintro ⟨x, ⟨s, hs, j, ⟨hj, hv⟩, rfl⟩, rfl⟩
    exact ⟨hj, hv ▸ hs⟩
  · rintro ⟨h1, h2⟩
    exact ⟨(i, v i), ⟨v i, h2, i, ⟨h1, rfl⟩, rfl⟩, rfl⟩
end Gn
namespace Gn
theorem seq_step {ports : List Ports} (hnd : NdP ports) {p q : Int} {spans : Spans} {some' : List Nat} (hs : some'.Nodup) {v : Nat → Int} (hv : ValidV ports p q spans some' v) {slots pre post : List Int} {s : Int} (he : slots = pre ++ s :: post) (hsort : slots.Pairwise (· < ·)) (hall : ∀ i ∈ some', v i ∈ slots) {A : List Asg} (h : seqV some' v pre ∈ A) :
    seqV some' v (pre ++ [s]) ∈ stepA ports p q spans some' A s := by
  rw [seqV_snoc]
  refine List.mem_flatMap.mpr ⟨_, h, List.mem_map.mpr ⟨grp some' v s, ?_, rfl⟩⟩
  rw [he, List.pairwise_append] at hsort
  obtain ⟨_, h2, h3⟩ := hsort
  rw [List.pairwise_cons] at h2
  have hfn : ((hereOf spans some' s).filter fun i => !decide (i ∈ dom (seqV some' v pre))).Nodup := (hs.filter _).filter _
  rw [picks_iff hnd hfn]
  refine ⟨?_, fun i hi hd => ?_, hv.ok s⟩
  · have e : grp some' v s = (((hereOf spans some' s).filter fun i => !decide (i ∈ dom (seqV some' v pre))).filter fun i => decide (v i = s)) := by
      unfold grp hereOf
      rw [List.filter_filter, List.filter_filter]
      refine List.filter_congr fun i hi => ?_
      by_cases hvs : v i = s
      · have hb := hv.box i hi
        have hnp : i ∉ dom (seqV some' v pre) := fun hd => by
          have := h3 (v i) (mem_dom_seq.mp hd).2 s List.mem_cons_self
          omega
        rw [hvs] at hb
        simp [hvs, hnp, hb.1, hb.2]
      · simp [hvs]
    rw [e]
    exact List.filter_sublist
  · obtain ⟨h4, h5⟩ := List.mem_filter.mp hi
    have h6 := (List.mem_filter.mp h4).1
    have h7 : (spn spans i).2 = s := of_decide_eq_true (List.mem_filter.mp hd).2
    have hb := hv.box i h6
    have hm := hall i h6
    rw [he] at hm
    refine List.mem_filter.mpr ⟨h6, decide_eq_true ?_⟩
    rcases List.mem_append.mp hm with hm | hm
    · rw [decide_eq_true (mem_dom_seq.mpr ⟨h6, hm⟩)] at h5
      cases h5
    · rcases List.mem_cons.mp hm with hm | hm
      · exact hm
      · have := h2.1 (v i) hm
        omega
end Gn
namespace Gn
theorem allA_snoc (ports : List Ports) (p q : Int) (spans : Spans) (some' : List Nat) (pre : List Int) (s : Int) (A : List Asg) : allA ports p q spans some' (pre ++ [s]) A = stepA ports p q spans some' (allA ports p q spans some' pre A) s := by
  unfold allA
  rw [List.foldl_append]
  rfl
theorem seq_all {ports : List Ports} (hnd : NdP ports) {p q : Int} {spans : Spans} {some' : List Nat} (hs : some'.Nodup) {v : Nat → Int} (hv : ValidV ports p q spans some' v) {slots : List Int} (hsort : slots.Pairwise (· < ·)) (hall : ∀ i ∈ some', v i ∈ slots) : ∀ post pre, slots = pre ++ post → seqV some' v pre ∈ allA ports p q spans some' pre [[]] → seqV some' v slots ∈ allA ports p q spans some' slots [[]]
  | [], pre, he, h => by
    rw [List.append_nil] at he
    rw [he]
    exact h
  | s :: post, pre, he, h => by
    refine seq_all hnd hs hv hsort hall post (pre ++ [s]) (by rw [he]; simp) ?_
    rw [allA_snoc]
    exact seq_step hnd hs hv he hsort hall h
theorem seq_mem {ports : List Ports} (hnd : NdP ports) {p q : Int} {spans : Spans} {some' : List Nat} (hs : some'.Nodup) {v : Nat → Int} (hv : ValidV ports p q spans some' v) {slots : List Int} (hsort : slots.Pairwise (· < ·)) (hall : ∀ i ∈ some', v i ∈ slots) : seqV some' v slots ∈ allA ports p q spans some' slots [[]] :=
  seq_all hnd hs hv hsort hall slots [] rfl (by simp [seqV, allA])
theorem fm_congr {α β : Type} {f g : α → List β} : ∀ {l : List α}, (∀ x ∈ l, f x = g x) → l.flatMap f = l.flatMap g
  | [], _ => rfl
  | x :: l, h => by
    rw [List.flatMap_cons, List.flatMap_cons, h x List.mem_cons_self, fm_congr fun y hy => h y (List.mem_cons_of_mem _ hy)]
/-- how an assignment is made -/
structure Made (ports : List Ports) (p q : Int) (spans : Spans) (some' : List Nat) (pre : List Int) (a : Asg) (P : Int → List Nat) : Prop where
  eq : a = pre.flatMap fun s => (P s).map fun i => (i, s)
  sub : ∀ s ∈ pre, (P s).Sublist some'
  box : ∀ s ∈ pre, ∀ i ∈ P s, (spn spans i).1 ≤ s ∧ s ≤ (spn spans i).2
  ok : ∀ s ∈ pre, OkP ports p q (P s)
theorem made_step {ports : List Ports} (hnd : NdP ports) {p q : Int} {spans : Spans} {some' : List Nat} (hs : some'.Nodup) {pre : List Int} {s : Int} (hsp : s ∉ pre) {A : List Asg} (h : ∀ a ∈ A, ∃ P, Made ports p q spans some' pre a P) : ∀ a ∈ stepA ports p q spans some' A s, ∃ P, Made ports p q spans some' (pre ++ [s]) a P := fun a ha => by
  obtain ⟨b, hb, h1⟩ := List.mem_flatMap.mp ha
  obtain ⟨Q, hQ, rfl⟩ := List.mem_map.mp h1
  obtain ⟨P, m⟩ := h b hb
  have hfn : ((hereOf spans some' s).filter fun i => !decide (i ∈ dom b)).Nodup := (hs.filter _).filter _
  obtain ⟨q1, _, q3⟩ := (picks_iff hnd hfn Q).mp hQ
  have hne : ∀ t ∈ pre, (if t = s then Q else P t) = P t := fun t ht => if_neg fun (e : t = s) => hsp (e ▸ ht)
  refine ⟨fun t => if t = s then Q else P t, ?_, ?_, ?_, ?_⟩
  · rw [List.flatMap_append, m.eq]
    congr 1
    · exact fm_congr fun t ht => by rw [hne t ht]
    · simp
  all_goals intro t ht
  all_goals rcases List.mem_append.mp ht with ht | ht
  · rw [hne t ht]; exact m.sub t ht
  · rw [List.mem_singleton] at ht
    rw [if_pos ht]
    exact q1.trans (List.filter_sublist.trans List.filter_sublist)
  · rw [hne t ht]; exact m.box t ht
  · rw [List.mem_singleton] at ht
    subst ht
    rw [if_pos rfl]
    intro i hi
    have h2 := (List.mem_filter.mp (List.mem_filter.mp (q1.subset hi)).1).2
    rw [Bool.and_eq_true, decide_eq_true_eq, decide_eq_true_eq] at h2
    exact h2
  · rw [hne t ht]; exact m.ok t ht
  · rw [List.mem_singleton] at ht
    rw [if_pos ht]
    exact q3
end Gn
namespace Gn
def lookV (a : Asg) (i : Nat) : Int := ((a.find? fun x => decide (x.1 = i)).map (·.2)).getD 0
theorem lookV_mem {i : Nat} {s : Int} : ∀ {a : Asg}, (dom a).Nodup → (i, s) ∈ a → lookV a i = s
  | x :: a, hn, h => by
    unfold dom at hn
    rw [List.map_cons, List.nodup_cons] at hn
    unfold lookV
    rw [List.find?_cons]
    rcases List.mem_cons.mp h with rfl | h
    · simp
    · have hx : x.1 ≠ i := fun e => hn.1 (e ▸ List.mem_map.mpr ⟨(i, s), h, rfl⟩)
      rw [decide_eq_false hx]
      exact lookV_mem (a := a) hn.2 h
theorem mask_eq {l m : List Nat} (hl : l.Nodup) (hm : m.Nodup) (h : maskOf l = maskOf m) (i : Nat) : i ∈ l ↔ i ∈ m := by
  have h1 := mask_bit hl i
  rw [h, mask_bit hm i] at h1
  exact ⟨fun q => of_decide_eq_true (h1.trans (decide_eq_true q)), fun q => of_decide_eq_true (h1.symm.trans (decide_eq_true q))⟩
theorem sub_filter {P : List Nat} {f : Nat → Bool} : ∀ {l : List Nat}, l.Nodup → P.Sublist l → (∀ i ∈ l, f i = true ↔ i ∈ P) → l.filter f = P := fun {l} hn hs h => by
  have h1 : P.Sublist (l.filter f) := by
    have := hs.filter f
    rwa [List.filter_eq_self.mpr fun i hi => (h i (hs.subset hi)).mpr hi] at this
  refine (h1.eq_of_length_le ?_).symm
  refine List.Nodup.length_le_of_subset (hn.filter _) fun i hi => ?_
  obtain ⟨h2, h3⟩ := List.mem_filter.mp hi
  exact (h i h2).mp h3
theorem made_full {ports : List Ports} {p q : Int} {spans : Spans} {some' : List Nat} (hs : some'.Nodup) {slots : List Int} (hns : slots.Nodup) {a : Asg} {P : Int → List Nat} (m : Made ports p q spans some' slots a P) (hd : (dom a).Nodup) (hm : maskOf (dom a) = maskOf some') : ValidV ports p q spans some' (lookV a) ∧ a = seqV some' (lookV a) slots := by
  have hmem := mask_eq hd hs hm
  have hP : ∀ s ∈ slots, ∀ i ∈ P s, (i, s) ∈ a := fun s h i hi => by
    rw [m.eq]
    exact List.mem_flatMap.mpr ⟨s, h, List.mem_map.mpr ⟨i, hi, rfl⟩⟩
  have hin : ∀ i ∈ some', ∃ s ∈ slots, i ∈ P s ∧ lookV a i = s := fun i hi => by
    obtain ⟨x, hx, rfl⟩ := List.mem_map.mp ((hmem i).mpr hi)
    have hx2 := hx
    rw [m.eq] at hx2
    obtain ⟨s, h1, h2⟩ := List.mem_flatMap.mp hx2
    obtain ⟨j, h3, rfl⟩ := List.mem_map.mp h2
    exact ⟨s, h1, h3, lookV_mem hd hx⟩
  have hg : ∀ s ∈ slots, grp some' (lookV a) s = P s := fun s h => by
    refine sub_filter hs (m.sub s h) fun i hi => ?_
    rw [decide_eq_true_eq]
    constructor
    · rintro rfl
      obtain ⟨t, _, h2, h3⟩ := hin i hi
      rw [h3]
      exact h2
    · exact fun h2 => lookV_mem hd (hP s h i h2)
  refine ⟨⟨fun i hi => ?_, fun s => ?_⟩, ?_⟩
  · obtain ⟨s, h1, h2, h3⟩ := hin i hi
    rw [h3]
    exact m.box s h1 i h2
  · by_cases h : s ∈ slots
    · rw [hg s h]
      exact m.ok s h
    · have e : grp some' (lookV a) s = [] := by
        unfold grp
        rw [List.filter_eq_nil_iff]
        intro i hi h2
        obtain ⟨t, h1, _, h3⟩ := hin i hi
        exact h ((of_decide_eq_true h2) ▸ h3 ▸ h1)
      rw [e]
      exact fun pt h => nomatch h
  · rw [m.eq]
    refine fm_congr fun s h => ?_
    rw [← m.eq, hg s h]
end Gn
namespace Gn
def upd (f : Nat → Int) (i : Nat) (x : Int) : Nat → Int := fun j => if j = i then x else f j
def funs (sp : Nat → List Int) : List Nat → (Nat → Int) → List (Nat → Int)
  | [], f => [f]
  | i :: l, f => (sp i).flatMap fun x => funs sp l (upd f i x)
def boxes : List (List Int) → List (List Int)
  | [] => [[]]
  | s :: r => s.flatMap fun x => (boxes r).map (x :: ·)
theorem upd_at (f : Nat → Int) (i : Nat) (x : Int) : upd f i x i = x := by simp [upd]
theorem upd_off (f : Nat → Int) {i j : Nat} (x : Int) (h : j ≠ i) : upd f i x j = f j := by simp [upd, h]
theorem mem_funs {sp : Nat → List Int} : ∀ {l : List Nat} {f g : Nat → Int}, l.Nodup → (g ∈ funs sp l f ↔ (∀ i ∈ l, g i ∈ sp i) ∧ ∀ i, i ∉ l → g i = f i)
  | [], f, g, _ => by
    simp only [funs, List.mem_singleton]
    constructor
    · rintro rfl
      exact ⟨fun _ h => (nomatch h), fun _ _ => rfl⟩
    · exact fun h => funext fun i => h.2 i (by simp)
  | i :: l, f, g, hn => by
    rw [List.nodup_cons] at hn
    simp only [funs, List.mem_flatMap]
    constructor
    · rintro ⟨x, hx, h⟩
      obtain ⟨h1, h2⟩ := (mem_funs hn.2).mp h
      have hi := h2 i hn.1
      rw [upd_at] at hi
      refine ⟨fun j hj => ?_, fun j hj => ?_⟩
      · rcases List.mem_cons.mp hj with rfl | hj
        · rw [hi]; exact hx
        · exact h1 j hj
      · rw [List.mem_cons, not_or] at hj
        rw [h2 j hj.2, upd_off _ _ hj.1]
    · rintro ⟨h1, h2⟩
      refine ⟨g i, h1 i List.mem_cons_self, (mem_funs hn.2).mpr ⟨fun j hj => h1 j (List.mem_cons_of_mem _ hj), fun j hj => ?_⟩⟩
      by_cases e : j = i
      · subst e
        rw [upd_at]
      · rw [upd_off _ _ e]
        exact h2 j (by rw [List.mem_cons, not_or]; exact ⟨e, hj⟩)
theorem fm_nodup {α β : Type} {f : α → List β} {l : List α} (hl : l.Nodup) (hf : ∀ x ∈ l, (f x).Nodup) (hd : ∀ x ∈ l, ∀ y ∈ l, ∀ z, z ∈ f x → z ∈ f y → x = y) : (l.flatMap f).Nodup := by
  induction l with
  | nil => exact List.nodup_nil
  | cons x l ih =>
    rw [List.nodup_cons] at hl
    rw [List.flatMap_cons, List.nodup_append]
    refine ⟨hf x List.mem_cons_self, ih hl.2 (fun y hy => hf y (List.mem_cons_of_mem _ hy)) fun a ha b hb => hd a (List.mem_cons_of_mem _ ha) b (List.mem_cons_of_mem _ hb), fun z hz w hw e => ?_⟩
    obtain ⟨y, hy, h2⟩ := List.mem_flatMap.mp hw
    have := hd x List.mem_cons_self y (List.mem_cons_of_mem _ hy) z hz (e ▸ h2)
    exact hl.1 (this ▸ hy)
theorem funs_nodup {sp : Nat → List Int} (hs : ∀ i, (sp i).Nodup) : ∀ {l : List Nat} {f : Nat → Int}, l.Nodup → (funs sp l f).Nodup
  | [], f, _ => by simp [funs]
  | i :: l, f, hn => by
    rw [List.nodup_cons] at hn
    unfold funs
    refine fm_nodup (hs i) (fun x _ => funs_nodup hs hn.2) fun x _ y _ g hx hy => ?_
    have h1 := ((mem_funs hn.2).mp hx).2 i hn.1
    have h2 := ((mem_funs hn.2).mp hy).2 i hn.1
    rw [upd_at] at h1 h2
    exact h1.symm.trans h2
theorem funs_map {sp : Nat → List Int} : ∀ {l : List Nat} {f : Nat → Int}, l.Nodup → (funs sp l f).map (fun h => l.map h) = boxes (l.map sp)
  | [], f, _ => rfl
  | i :: l, f, hn => by
    rw [List.nodup_cons] at hn
    simp only [funs, List.map_cons, boxes, List.map_flatMap]
    congr 1
    funext x
    rw [← funs_map (f := upd f i x) hn.2, List.map_map]
    refine List.map_congr_left fun h hh => ?_
    have h2 := ((mem_funs hn.2).mp hh).2 i hn.1
    rw [upd_at] at h2
    simp [h2]
theorem funs_perm {sp : Nat → List Int} (hs : ∀ i, (sp i).Nodup) {l m : List Nat} {f : Nat → Int} (hn : l.Nodup) (h : l.Perm m) : (funs sp l f).Perm (funs sp m f) := by
  have hm := h.nodup_iff.mp hn
  refine (List.perm_ext_iff_of_nodup (funs_nodup hs hn) (funs_nodup hs hm)).mpr fun g => ?_
  rw [mem_funs hn, mem_funs hm]
  simp only [h.mem_iff]
theorem funs_app {sp : Nat → List Int} : ∀ {l m : List Nat} {f : Nat → Int}, funs sp (l ++ m) f = (funs sp l f).flatMap (funs sp m)
  | [], m, f => by simp [funs]
  | i :: l, m, f => by
    simp only [List.cons_append, funs, List.flatMap_assoc]
    congr 1
    funext x
    exact funs_app
/-- what a test of the values at some places says -/
def Dep (l : List Nat) (V : (Nat → Int) → Bool) : Prop := ∀ g h, (∀ i ∈ l, g i = h i) → V g = V h
theorem count_any {sp : Nat → List Int} : ∀ {l : List Nat} {V : (Nat → Int) → Bool} {f f' : Nat → Int}, l.Nodup → Dep l V → ((funs sp l f).filter V).length = ((funs sp l f').filter V).length := by
  intro l V f f' hn hd
  have h : ∀ f, ((funs sp l f).filter V).length = ((boxes (l.map sp)).filter fun w => V fun i => (l.zip w |>.lookup i).getD 0).length := fun f => by
    rw [← funs_map (f := f) hn, List.filter_map, List.length_map]
    congr 1
    refine List.filter_congr fun g hg => hd _ _ fun i hi => ?_
    clear hd hg
    induction l with
    | nil => cases hi
    | cons j l ih =>
      rw [List.nodup_cons] at hn
      simp only [List.map_cons, List.zip_cons_cons, List.lookup_cons]
      by_cases e : i = j
      · subst e
        simp
      · rw [beq_false_of_ne e]
        exact ih hn.2 ((List.mem_cons.mp hi).resolve_left e)
  rw [h f, h f']
theorem count_app {sp : Nat → List Int} {l m : List Nat} {V1 V2 : (Nat → Int) → Bool} {f : Nat → Int} (hn : (l ++ m).Nodup) (h1 : Dep l V1) (h2 : Dep m V2) :
    ((funs sp (l ++ m) f).filter fun g => V1 g && V2 g).length = ((funs sp l f).filter V1).length * ((funs sp m f).filter V2).length := by
  obtain ⟨hl, hm, hlm⟩ := List.nodup_append.mp hn
  rw [funs_app, List.filter_flatMap, List.length_flatMap]
  have e : ∀ g ∈ funs sp l f, ((funs sp m g).filter fun h => V1 h && V2 h).length = if V1 g = true then ((funs sp m f).filter V2).length else 0 := fun g _ => by
    have e1 : ∀ h ∈ funs sp m g, V1 h = V1 g := fun h hh => h1 _ _ fun i hi => ((mem_funs hm).mp hh).2 i fun q => hlm i hi i q rfl
    rw [List.filter_congr (q := fun h => V1 g && V2 h) fun h hh => by rw [e1 h hh]]
    cases hv : V1 g
    · simp
    · simp only [Bool.true_and, if_true]
      exact count_any hm h2
  rw [List.map_congr_left e]
  generalize ((funs sp m f).filter V2).length = c
  induction funs sp l f with
  | nil => simp
  | cons g gs ih =>
    rw [List.map_cons, List.sum_cons, List.filter_cons, ih]
    split
    · rw [List.length_cons, Nat.add_mul, Nat.one_mul, Nat.add_comm]
    · rw [Nat.zero_add]
theorem foldl_mul (l : List Nat) (a : Nat) : l.foldl (· * ·) a = a * l.foldl (· * ·) 1 := by
  induction l generalizing a with
  | nil => simp
  | cons x l ih =>
    rw [List.foldl_cons, List.foldl_cons, ih (a * x), ih (1 * x), Nat.one_mul, Nat.mul_assoc]
theorem count_parts {sp : Nat → List Int} {V : List Nat → (Nat → Int) → Bool} {f : Nat → Int} : ∀ (parts : List (List Nat)), parts.flatten.Nodup → (∀ P ∈ parts, Dep P (V P)) →
    ((funs sp parts.flatten f).filter fun g => parts.all fun P => V P g).length = (parts.map fun P => ((funs sp P f).filter (V P)).length).foldl (· * ·) 1
  | [], _, _ => by simp [funs]
  | P :: parts, hn, hd => by
    rw [List.flatten_cons] at hn
    have hd2 : Dep parts.flatten fun g => parts.all fun P => V P g := fun g h hgh => by
      have : ∀ Q ∈ parts, V Q g = V Q h := fun Q hQ => hd Q (List.mem_cons_of_mem _ hQ) g h fun i hi => hgh i (List.mem_flatten.mpr ⟨Q, hQ, hi⟩)
      rw [Bool.eq_iff_iff, List.all_eq_true, List.all_eq_true]
      exact ⟨fun k Q hQ => (this Q hQ) ▸ k Q hQ, fun k Q hQ => (this Q hQ).symm ▸ k Q hQ⟩
    have ih := count_parts (sp := sp) (V := V) (f := f) parts (List.nodup_append.mp hn).2.1 fun Q hQ => hd Q (List.mem_cons_of_mem _ hQ)
    rw [List.flatten_cons, List.map_cons, List.foldl_cons, foldl_mul, Nat.one_mul, ← ih, ← count_app hn (hd P List.mem_cons_self) hd2]
    simp only [List.all_cons]
end Gn
namespace Gn
structure Info (ports : List Ports) (p q : Int) (spans : Spans) (part : List Nat) (pre : List Int) : Prop where
  made : ∀ a ∈ allA ports p q spans part pre [[]], ∃ P, Made ports p q spans part pre a P
  dnd : ∀ a ∈ allA ports p q spans part pre [[]], (dom a).Nodup
  nd : (allA ports p q spans part pre [[]]).Nodup
theorem made_slots {ports : List Ports} {p q : Int} {spans : Spans} {part : List Nat} {pre : List Int} {a : Asg} {P : Int → List Nat} (m : Made ports p q spans part pre a P) : ∀ x ∈ a, x.2 ∈ pre := fun x hx => by
  rw [m.eq] at hx
  obtain ⟨s, h1, h2⟩ := List.mem_flatMap.mp hx
  obtain ⟨i, _, rfl⟩ := List.mem_map.mp h2
  exact h1
theorem info_all {ports : List Ports} (hnd : NdP ports) {p q : Int} {spans : Spans} {part : List Nat} (hs : part.Nodup) : ∀ (post pre : List Int), (pre ++ post).Nodup → Info ports p q spans part pre → Info ports p q spans part (pre ++ post)
  | [], pre, _, h => by rw [List.append_nil]; exact h
  | s :: post, pre, hn, h => by
    have hsp : s ∉ pre := fun hp => by
      rw [List.nodup_append] at hn
      exact hn.2.2 s hp s List.mem_cons_self rfl
    rw [show pre ++ s :: post = (pre ++ [s]) ++ post by simp] at hn ⊢
    refine info_all hnd hs post _ hn ⟨?_, ?_, ?_⟩
    · rw [allA_snoc]
      exact made_step hnd hs hsp h.made
    · rw [allA_snoc]
      exact stepA_nd hs h.dnd
    · rw [allA_snoc]
      refine stepA_nodup hs h.nd fun a ha x hx e => hsp ?_
      obtain ⟨P, m⟩ := h.made a ha
      exact e ▸ made_slots m x hx
theorem info0 (ports : List Ports) (p q : Int) (spans : Spans) (part : List Nat) : Info ports p q spans part [] := by
  refine ⟨fun a ha => ?_, fun a ha => ?_, ?_⟩
  · obtain rfl : a = [] := by simpa [allA] using ha
    exact ⟨fun _ => [], rfl, fun _ h => (nomatch h), fun _ h => (nomatch h), fun _ h => (nomatch h)⟩
  · obtain rfl : a = [] := by simpa [allA] using ha
    exact List.nodup_nil
  · simp [allA]
def OkV (ports : List Ports) (p q : Int) (part : List Nat) (v : Nat → Int) : Prop := ∀ s, OkP ports p q (grp part v s)
theorem grp_congr {part : List Nat} {v w : Nat → Int} (h : ∀ i ∈ part, v i = w i) (s : Int) : grp part v s = grp part w s := List.filter_congr fun i hi => by rw [h i hi]
theorem okV_congr {ports : List Ports} {p q : Int} {part : List Nat} {v w : Nat → Int} (h : ∀ i ∈ part, v i = w i) : OkV ports p q part v ↔ OkV ports p q part w := by
  unfold OkV
  simp only [grp_congr h]
theorem seqV_congr {part : List Nat} {v w : Nat → Int} (h : ∀ i ∈ part, v i = w i) (slots : List Int) : seqV part v slots = seqV part w slots := by
  unfold seqV
  exact fm_congr fun s _ => by rw [grp_congr h s]
theorem dom_seq_nodup {part : List Nat} (hs : part.Nodup) {v : Nat → Int} : ∀ {slots : List Int}, slots.Nodup → (dom (seqV part v slots)).Nodup
  | [], _ => List.nodup_nil
  | s :: slots, hn => by
    rw [List.nodup_cons] at hn
    have e : dom (seqV part v (s :: slots)) = grp part v s ++ dom (seqV part v slots) := by
      unfold seqV dom
      rw [List.flatMap_cons, List.map_append, List.map_map]
      congr 1
      exact List.map_id _
    rw [e, List.nodup_append]
    refine ⟨hs.filter _, dom_seq_nodup hs hn.2, fun i hi j hj e => ?_⟩
    subst e
    have h1 := (mem_dom_seq.mp hj).2
    have h2 := of_decide_eq_true (List.mem_filter.mp hi).2
    exact hn.1 (h2 ▸ h1)
theorem mask_perm {l m : List Nat} (h : l.Perm m) : maskOf l = maskOf m := by
  unfold maskOf
  induction h with
  | nil => rfl
  | cons x _ ih => simp [ih]
  | swap x y l => simp; omega
  | trans _ _ ih1 ih2 => exact ih1.trans ih2
def spV (spans : Spans) (i : Nat) : List Int := spanL (spn spans i)
theorem mem_rng {a : Int} {n : Nat} {x : Int} : x ∈ rng a n ↔ a ≤ x ∧ x < a + n := by
  unfold rng
  rw [List.mem_map]
  constructor
  · rintro ⟨k, hk, rfl⟩
    rw [List.mem_range] at hk
    omega
  · rintro ⟨h1, h2⟩
    exact ⟨(x - a).toNat, List.mem_range.mpr (by omega), by omega⟩
theorem mem_spanL {s : Int × Int} {x : Int} : x ∈ spanL s ↔ s.1 ≤ x ∧ x ≤ s.2 := by
  unfold spanL
  rw [mem_rng]
  omega
theorem rng_nodup (a : Int) (n : Nat) : (rng a n).Nodup := by
  unfold rng
  refine List.Pairwise.map _ (fun i j hij e => hij ?_) List.nodup_range
  omega
theorem spV_nodup (spans : Spans) (i : Nat) : (spV spans i).Nodup := rng_nodup _ _
open Classical in
theorem ways_funs {ports : List Ports} (hnd : NdP ports) {p q : Int} {spans : Spans} {part : List Nat} (hs : part.Nodup) (f0 : Nat → Int) : waysOf ports p q spans part = ((funs (spV spans) part f0).filter fun v => decide (OkV ports p q part v)).length := by
  rw [ways_count hs]
  have hsort : (slotsOf spans part).Pairwise (· < ·) := Dd.isortU_pair _
  have hns : (slotsOf spans part).Nodup := hsort.imp (fun h => Int.ne_of_lt h)
  have hall : ∀ v : Nat → Int, (∀ i ∈ part, v i ∈ spV spans i) → ∀ i ∈ part, v i ∈ slotsOf spans part := fun v hv i hi => Dd.mem_isortU.mpr (List.mem_flatMap.mpr ⟨i, hi, hv i hi⟩)
  generalize hsl : slotsOf spans part = slots at *
  have hinf := info_all (p := p) (q := q) (spans := spans) hnd hs slots [] hns (info0 _ _ _ _ _)
  rw [List.nil_append] at hinf
  have hp : ((allA ports p q spans part slots [[]]).filter fun a => decide (maskOf (dom a) = maskOf part)).Perm (((funs (spV spans) part f0).filter fun v => decide (OkV ports p q part v)).map fun v => seqV part v slots) := by
    refine (List.perm_ext_iff_of_nodup (hinf.nd.filter _) ?_).mpr fun a => ?_
    · refine List.pairwise_map.mpr (List.Pairwise.imp_of_mem ?_ ((funs_nodup (spV_nodup spans) hs).filter _))
      intro v w hv hw hne e
      refine hne (funext fun i => ?_)
      have hv1 := (mem_funs hs).mp (List.mem_filter.mp hv).1
      have hw1 := (mem_funs hs).mp (List.mem_filter.mp hw).1
      by_cases hi : i ∈ part
      · have g : ∀ u : Nat → Int, (∀ i ∈ part, u i ∈ spV spans i) → lookV (seqV part u slots) i = u i := fun u hu => by
          refine lookV_mem (dom_seq_nodup hs hns) (List.mem_flatMap.mpr ⟨u i, hall u hu i hi, List.mem_map.mpr ⟨i, List.mem_filter.mpr ⟨hi, by simp⟩, rfl⟩⟩)
        rw [← g v hv1.1, ← g w hw1.1, e]
      · rw [hv1.2 i hi, hw1.2 i hi]
    · rw [List.mem_filter, List.mem_map, decide_eq_true_eq]
      constructor
      · rintro ⟨h1, h2⟩
        obtain ⟨P, m⟩ := hinf.made a h1
        obtain ⟨h3, h4⟩ := made_full hs hns m (hinf.dnd a h1) h2
        have hc : ∀ i ∈ part, (if i ∈ part then lookV a i else f0 i) = lookV a i := fun i hi => if_pos hi
        refine ⟨fun i => if i ∈ part then lookV a i else f0 i, List.mem_filter.mpr ⟨(mem_funs hs).mpr ⟨fun i hi => ?_, fun i hi => if_neg hi⟩, decide_eq_true ((okV_congr hc).mpr h3.ok)⟩, (seqV_congr hc slots).trans h4.symm⟩
        rw [hc i hi]
        exact mem_spanL.mpr (h3.box i hi)
      · rintro ⟨v, hv, rfl⟩
        obtain ⟨hv1, hv2⟩ := List.mem_filter.mp hv
        obtain ⟨hv3, _⟩ := (mem_funs hs).mp hv1
        have hval : ValidV ports p q spans part v := ⟨fun i hi => mem_spanL.mp (hv3 i hi), of_decide_eq_true hv2⟩
        refine ⟨seq_mem hnd hs hval hsort (hall v hv3), mask_perm ((List.perm_ext_iff_of_nodup (dom_seq_nodup hs hns) hs).mpr fun i => ?_)⟩
        rw [mem_dom_seq]
        exact ⟨fun h => h.1, fun h => ⟨h, hall v hv3 i h⟩⟩
  have hl := hp.length_eq
  rw [List.length_map] at hl
  rw [← hl, List.count_eq_countP, List.countP_map, List.countP_eq_length_filter]
  congr 1
end Gn
namespace Gn
theorem touch_iff {ports : List Ports} {a j : Nat} : touch ports a j = true ↔ ∃ pt, pt ∈ prt ports a ∧ pt ∈ prt ports j := by
  unfold touch
  rw [List.any_eq_true]
  constructor
  · rintro ⟨pt, h1, h2⟩
    exact ⟨pt, of_decide_eq_true h2, h1⟩
  · rintro ⟨pt, h1, h2⟩
    exact ⟨pt, h2, decide_eq_true h1⟩
theorem grow_sep (ports : List Ports) : ∀ (f k : Nat) (part left : List Nat), part.length + left.length ≤ f + k → k ≤ part.length → (∀ a ∈ part.take k, ∀ j ∈ left, touch ports a j = false) → ∀ a ∈ (growP ports f part k left).1, ∀ j ∈ (growP ports f part k left).2, touch ports a j = false
  | 0, k, part, left, h1, h2, h3 => by
    obtain rfl : left = [] := List.eq_nil_of_length_eq_zero (by omega)
    exact fun _ _ _ h => nomatch h
  | f + 1, k, part, left, h1, h2, h3 => by
    unfold growP
    cases hk : part[k]? with
    | none =>
      rw [List.getElem?_eq_none_iff] at hk
      rw [List.take_of_length_le hk] at h3
      exact h3
    | some a =>
      have hlt : k < part.length := (List.getElem?_eq_some_iff.mp hk).1
      have hsp := filter_split (touch ports a) left
      simp only [rest_eq]
      refine grow_sep ports f (k + 1) _ _ ?_ ?_ ?_
      · rw [List.length_append]; omega
      · rw [List.length_append]; omega
      · intro b hb j hj
        obtain ⟨hj1, hj2⟩ := List.mem_filter.mp hj
        rw [List.take_append_of_le_length (by omega), List.take_succ, hk, Option.toList_some] at hb
        rcases List.mem_append.mp hb with hb | hb
        · exact h3 b hb j hj1
        · rw [List.mem_singleton] at hb
          subst hb
          simpa using hj2
theorem parts_sep (ports : List Ports) : ∀ (f : Nat) (left : List Nat), left.length ≤ f → left.length ≤ 50 → (partsP ports f left).Pairwise fun P Q => ∀ a ∈ P, ∀ j ∈ Q, touch ports a j = false
  | 0, _, _, _ => .nil
  | _ + 1, [], _, _ => .nil
  | f + 1, i :: left, h, h50 => by
    rw [List.length_cons] at h h50
    have hperm := grow_perm ports 60 0 [i] left
    have hgl := hperm.length_eq
    have hgp := grow_pre ports 60 0 [i] left
    rw [List.length_append, List.length_append, List.length_singleton] at hgl
    rw [List.length_singleton] at hgp
    have hsep := grow_sep ports 60 0 [i] left (by rw [List.length_singleton]; omega) (Nat.zero_le _) (fun a ha => by simp at ha)
    show (isortN (growP ports 60 [i] 0 left).1 :: partsP ports f (growP ports 60 [i] 0 left).2).Pairwise _
    refine List.pairwise_cons.mpr ⟨fun Q hQ a ha j hj => ?_, parts_sep ports f _ (by omega) (by omega)⟩
    have hp2 := parts_perm ports f (growP ports 60 [i] 0 left).2 (by omega)
    exact hsep a ((isortN_perm _).mem_iff.mp ha) j (hp2.mem_iff.mp (List.mem_flatten.mpr ⟨Q, hQ, hj⟩))
theorem used_count {ports : List Ports} (hn : NdP ports) (pt : Int × Int) : ∀ l : List Nat, (usedBy ports l).count pt = l.countP fun i => decide (pt ∈ prt ports i)
  | [] => rfl
  | i :: l => by
    have ih := used_count hn pt l
    unfold usedBy at ih ⊢
    rw [List.flatMap_cons, List.count_append, ih, List.countP_cons, (hn i).count, Nat.add_comm]
    by_cases h : pt ∈ prt ports i <;> simp [h]
theorem okP_iff {ports : List Ports} (hn : NdP ports) {p q : Int} {l : List Nat} : OkP ports p q l ↔ ∀ pt, 0 < (l.countP fun i => decide (pt ∈ prt ports i)) → ((l.countP fun i => decide (pt ∈ prt ports i) : Nat) : Int) ≤ spd p q pt.1 := by
  unfold OkP
  constructor
  · intro h pt h0
    rw [← used_count hn pt l] at h0 ⊢
    exact h pt (List.count_pos_iff.mp h0)
  · intro h pt h0
    rw [used_count hn pt l]
    exact h pt (by rw [← used_count hn pt l]; exact List.count_pos_iff.mpr h0)
theorem sum_one {B : Int} : ∀ {l : List Nat}, l.Pairwise (fun a b => a = 0 ∨ b = 0) → (∀ a ∈ l, 0 < a → (a : Int) ≤ B) → 0 < l.sum → (l.sum : Int) ≤ B
  | [], _, _, h => by simp at h
  | a :: l, hp, hb, h => by
    rw [List.pairwise_cons] at hp
    rw [List.sum_cons] at h ⊢
    by_cases ha : a = 0
    · have := sum_one hp.2 (fun b hb2 => hb b (List.mem_cons_of_mem _ hb2)) (by omega)
      omega
    · have h0 : ∀ b ∈ l, b = 0 := fun b hb2 => (hp.1 b hb2).resolve_left ha
      have : l.sum = 0 := by
        clear hb h hp
        induction l with
        | nil => rfl
        | cons b l ih =>
          rw [List.sum_cons, h0 b List.mem_cons_self, ih fun c hc => h0 c (List.mem_cons_of_mem _ hc)]
      have := hb a List.mem_cons_self (by omega)
      omega
theorem countP_flat {f : Nat → Bool} : ∀ (parts : List (List Nat)), parts.flatten.countP f = (parts.map fun P => P.countP f).sum
  | [] => rfl
  | P :: parts => by rw [List.flatten_cons, List.countP_append, List.map_cons, List.sum_cons, countP_flat parts]
theorem le_sum' {i : Nat} {l : List Nat} (h : i ∈ l) : i ≤ l.sum := le_sum h
theorem okV_parts {ports : List Ports} (hn : NdP ports) {p q : Int} {parts : List (List Nat)} (hsep : parts.Pairwise fun P Q => ∀ a ∈ P, ∀ j ∈ Q, touch ports a j = false) {v : Nat → Int} : (∀ P ∈ parts, OkV ports p q P v) ↔ OkV ports p q parts.flatten v := by
  have hg : ∀ (l : List Nat) (s : Int) (pt : Int × Int), ((grp l v s).countP fun i => decide (pt ∈ prt ports i)) = l.countP fun i => decide (pt ∈ prt ports i) && decide (v i = s) := fun l s pt => by
    unfold grp
    rw [List.countP_filter]
  unfold OkV
  simp only [okP_iff hn, hg]
  constructor
  · intro h s pt h0
    rw [countP_flat] at h0 ⊢
    refine sum_one (List.pairwise_map.mpr (hsep.imp fun {P Q} hPQ => ?_)) ?_ h0
    · by_cases hP : (P.countP fun i => decide (pt ∈ prt ports i) && decide (v i = s)) = 0
      · exact .inl hP
      · refine .inr (List.countP_eq_zero.mpr fun j hj hq => ?_)
        obtain ⟨a, ha, h1⟩ := List.countP_pos_iff.mp (Nat.pos_of_ne_zero hP)
        rw [Bool.and_eq_true, decide_eq_true_eq] at h1 hq
        have := touch_iff.mpr ⟨pt, h1.1, hq.1⟩
        rw [hPQ a ha j hj] at this
        cases this
    · intro a ha h1
      obtain ⟨P, hP, rfl⟩ := List.mem_map.mp ha
      exact h P hP s pt h1
  · intro h P hP s pt h0
    have hle : (P.countP fun i => decide (pt ∈ prt ports i) && decide (v i = s)) ≤ parts.flatten.countP fun i => decide (pt ∈ prt ports i) && decide (v i = s) := by
      rw [countP_flat]
      exact le_sum' (List.mem_map.mpr ⟨P, hP, rfl⟩)
    have := h s pt (by omega)
    omega
theorem okV_perm {ports : List Ports} (hn : NdP ports) {p q : Int} {l m : List Nat} (h : l.Perm m) {v : Nat → Int} : OkV ports p q l v ↔ OkV ports p q m v := by
  unfold OkV
  simp only [okP_iff hn]
  have e : ∀ (s : Int) (pt : Int × Int), ((grp l v s).countP fun i => decide (pt ∈ prt ports i)) = (grp m v s).countP fun i => decide (pt ∈ prt ports i) := fun s pt => (h.filter _).countP_eq _
  simp only [e]
/-- how many cells a port has in a slot -/
def load (cs : List Cell) (w : List Int) (side : Nat) (s e : Int) : Nat := (cs.zip w).countP fun x => decide (x.2 = s) && decide (portAt x.1 side = e)
def Keeps (cs : List Cell) (p q : Int) (w : List Int) : Prop := ∀ s e, (load cs w 1 s e : Int) ≤ p ∧ (load cs w 2 s e : Int) ≤ q
def cellI (cs : List Cell) (i : Nat) : Cell := cs[i]?.getD (0, 0, 0)
theorem range_cell (cs : List Cell) : cs = (List.range cs.length).map (cellI cs) := by
  refine List.ext_getElem (by simp) fun i h1 h2 => ?_
  simp [cellI, h1]
theorem load_range {cs : List Cell} {g : Nat → Int} {side : Nat} {s e : Int} : load cs ((List.range cs.length).map g) side s e = (List.range cs.length).countP fun i => decide (g i = s) && decide (portAt (cellI cs i) side = e) := by
  unfold load
  conv =>
    lhs
    rw [range_cell cs]
  rw [List.length_map, List.length_range, List.zip_map', List.countP_map]
  rfl
theorem prt_tight {cs : List Cell} {p q : Int} {i : Nat} (hi : i < cs.length) : prt (tightP cs p q) i = portsAt cs p q (cellI cs i) := by
  unfold prt tightP cellI
  rw [List.getElem?_map, List.getElem?_eq_getElem hi]
  rfl
theorem nd_tight (cs : List Cell) (p q : Int) : NdP (tightP cs p q) := fun i => by
  by_cases hi : i < cs.length
  · rw [prt_tight hi]
    unfold portsAt
    split <;> split <;> simp
  · unfold prt
    rw [List.getElem?_eq_none (by unfold tightP; rw [List.length_map]; omega)]
    exact List.nodup_nil
theorem filter_range_len (cs : List Cell) (f : Cell → Bool) : (cs.filter f).length = (List.range cs.length).countP fun i => f (cellI cs i) := by
  rw [← List.countP_eq_length_filter]
  conv =>
    lhs
    rw [range_cell cs]
  rw [List.countP_map]
  rfl
theorem okV_keeps {cs : List Cell} {p q : Int} (hp : 0 ≤ p) (hq : 0 ≤ q) {g : Nat → Int} : OkV (tightP cs p q) p q (List.range cs.length) g ↔ Keeps cs p q ((List.range cs.length).map g) := by
  have hm : ∀ (pt : Int × Int) (i : Nat), i ∈ List.range cs.length → (pt ∈ prt (tightP cs p q) i ↔ (pt.1 = 1 ∧ portAt (cellI cs i) 1 = pt.2 ∧ p < ((cs.filter fun d => decide (d.2.1 = pt.2)).length : Int)) ∨ (pt.1 = 2 ∧ portAt (cellI cs i) 2 = pt.2 ∧ q < ((cs.filter fun d => decide (d.2.2 = pt.2)).length : Int))) := fun pt i hi => by
    rw [prt_tight (List.mem_range.mp hi)]
    obtain ⟨a, b⟩ := pt
    unfold portsAt portAt
    rw [List.mem_append]
    simp only [if_true, show ¬ (2 : Nat) = 1 by decide, if_false]
    constructor
    · rintro (h | h)
      · split at h
        · rw [List.mem_singleton, Prod.mk.injEq] at h
          obtain ⟨rfl, rfl⟩ := h
          exact .inl ⟨rfl, rfl, by assumption⟩
        · cases h
      · split at h
        · rw [List.mem_singleton, Prod.mk.injEq] at h
          obtain ⟨rfl, rfl⟩ := h
          exact .inr ⟨rfl, rfl, by assumption⟩
        · cases h
    · rintro (⟨h1, h2, h3⟩ | ⟨h1, h2, h3⟩)
      · subst h1 h2
        rw [if_pos h3]
        exact .inl (List.mem_singleton.mpr rfl)
      · subst h1 h2
        rw [if_pos h3]
        exact .inr (List.mem_singleton.mpr rfl)
  have hc : ∀ (s : Int) (pt : Int × Int), ((grp (List.range cs.length) g s).countP fun i => decide (pt ∈ prt (tightP cs p q) i)) = (List.range cs.length).countP fun i => decide (pt ∈ prt (tightP cs p q) i) && decide (g i = s) := fun s pt => by
    unfold grp
    rw [List.countP_filter]
  unfold OkV Keeps
  simp only [okP_iff (nd_tight cs p q), hc, load_range]
  constructor
  · intro h s e
    constructor
    · by_cases ht : p < ((cs.filter fun d => decide (d.2.1 = e)).length : Int)
      · have := h s (1, e)
        rw [List.countP_congr (q := fun i => decide (g i = s) && decide (portAt (cellI cs i) 1 = e)) fun i hi => by
          simp only [Bool.and_eq_true, decide_eq_true_eq]
          rw [hm _ i hi]
          constructor
          · rintro ⟨⟨_, h1, _⟩ | ⟨h1, _⟩, h2⟩
            · exact ⟨h2, h1⟩
            · exact absurd (show (1 : Int) = 2 from h1) (by decide)
          · rintro ⟨h1, h2⟩
            exact ⟨.inl ⟨rfl, h2, ht⟩, h1⟩] at this
        by_cases h0 : 0 < (List.range cs.length).countP fun i => decide (g i = s) && decide (portAt (cellI cs i) 1 = e)
        · exact this h0
        · omega
      · rw [filter_range_len] at ht
        have hle : ((List.range cs.length).countP fun i => decide (g i = s) && decide (portAt (cellI cs i) 1 = e)) ≤ (List.range cs.length).countP fun i => decide ((cellI cs i).2.1 = e) :=
          List.countP_mono_left fun i _ hi => (Bool.and_eq_true _ _ ▸ hi).2
        omega
    · by_cases ht : q < ((cs.filter fun d => decide (d.2.2 = e)).length : Int)
      · have := h s (2, e)
        rw [List.countP_congr (q := fun i => decide (g i = s) && decide (portAt (cellI cs i) 2 = e)) fun i hi => by
          simp only [Bool.and_eq_true, decide_eq_true_eq]
          rw [hm _ i hi]
          constructor
          · rintro ⟨⟨h1, _⟩ | ⟨_, h1, _⟩, h2⟩
            · exact absurd (show (2 : Int) = 1 from h1) (by decide)
            · exact ⟨h2, h1⟩
          · rintro ⟨h1, h2⟩
            exact ⟨.inr ⟨rfl, h2, ht⟩, h1⟩] at this
        by_cases h0 : 0 < (List.range cs.length).countP fun i => decide (g i = s) && decide (portAt (cellI cs i) 2 = e)
        · exact this h0
        · omega
      · rw [filter_range_len] at ht
        have hle : ((List.range cs.length).countP fun i => decide (g i = s) && decide (portAt (cellI cs i) 2 = e)) ≤ (List.range cs.length).countP fun i => decide ((cellI cs i).2.2 = e) :=
          List.countP_mono_left fun i _ hi => (Bool.and_eq_true _ _ ▸ hi).2
        omega
  · intro h s pt h0
    obtain ⟨i, hi, h1⟩ := List.countP_pos_iff.mp h0
    rw [Bool.and_eq_true, decide_eq_true_eq, hm _ i hi] at h1
    rcases h1.1 with ⟨h2, _, _⟩ | ⟨h2, _, _⟩
    · have hs : spd p q pt.1 = p := by unfold spd; rw [if_pos h2]
      rw [hs]
      refine Int.le_trans (Int.ofNat_le.mpr ?_) (h s pt.2).1
      refine List.countP_mono_left fun j hj hq => ?_
      rw [Bool.and_eq_true, decide_eq_true_eq, decide_eq_true_eq, hm _ j hj] at hq
      rw [Bool.and_eq_true, decide_eq_true_eq, decide_eq_true_eq]
      rcases hq.1 with ⟨_, h4, _⟩ | ⟨h4, _⟩
      · exact ⟨hq.2, h4⟩
      · rw [h2] at h4
        exact absurd h4 (by decide)
    · have hs : spd p q pt.1 = q := by unfold spd; rw [h2, if_neg (by decide)]
      rw [hs]
      refine Int.le_trans (Int.ofNat_le.mpr ?_) (h s pt.2).2
      refine List.countP_mono_left fun j hj hq => ?_
      rw [Bool.and_eq_true, decide_eq_true_eq, decide_eq_true_eq, hm _ j hj] at hq
      rw [Bool.and_eq_true, decide_eq_true_eq, decide_eq_true_eq]
      rcases hq.1 with ⟨h4, _⟩ | ⟨_, h4, _⟩
      · rw [h2] at h4
        exact absurd h4 (by decide)
      · exact ⟨hq.2, h4⟩
open Classical in
/-- what is counted -/
theorem countW_eq {cs : List Cell} (hc : cs.length ≤ 50) {spans : Spans} (hsl : spans.length = cs.length) {p q : Int} (hp : 0 ≤ p) (hq : 0 ≤ q) :
    countW cs spans p q = ((boxes (spans.map spanL)).filter fun w => decide (Keeps cs p q w)).length := by
  have hnd := nd_tight cs p q
  have hperm := parts_perm (tightP cs p q) cs.length (List.range cs.length) (by simp)
  have hsep := parts_sep (tightP cs p q) cs.length (List.range cs.length) (by simp) (by simpa using hc)
  have hfn := hperm.nodup_iff.mpr List.nodup_range
  unfold countW
  generalize partsP (tightP cs p q) cs.length (List.range cs.length) = parts at *
  have hpn : ∀ P ∈ parts, P.Nodup := fun P hP => (List.sublist_flatten_of_mem hP).nodup hfn
  rw [List.map_congr_left fun P hP => ways_funs hnd (hpn P hP) (fun _ => 0), ← count_parts (V := fun P v => decide (OkV (tightP cs p q) p q P v)) parts hfn fun P _ g h hgh => by
    rw [decide_eq_decide]
    exact okV_congr hgh]
  have e1 : ((funs (spV spans) parts.flatten fun _ => 0).filter fun g => parts.all fun P => decide (OkV (tightP cs p q) p q P g)) = (funs (spV spans) parts.flatten fun _ => 0).filter fun g => decide (Keeps cs p q ((List.range cs.length).map g)) := by
    refine List.filter_congr fun g _ => ?_
    rw [Bool.eq_iff_iff, List.all_eq_true, decide_eq_true_eq, ← okV_keeps hp hq, ← okV_perm hnd hperm, ← okV_parts hnd hsep]
    simp only [decide_eq_true_eq]
  rw [e1, ((funs_perm (spV_nodup spans) hfn hperm).filter _).length_eq]
  have e2 : spans.map spanL = (List.range cs.length).map (spV spans) := by
    refine List.ext_getElem (by simp [hsl]) fun i h1 h2 => ?_
    have hi : i < spans.length := by simpa using h1
    simp [spV, spn, hi]
  rw [e2, ← funs_map (f := fun _ => 0) List.nodup_range, List.filter_map, List.length_map]
  rfl
end Gn
namespace Gn
open PySem PySem.Spec PyProof.Rows L2 Dd
theorem ixN_nat {n i : Nat} (h : i < n) : L2.ixN n (i : Int) = some i := by
  unfold L2.ixN
  rw [if_pos (by omega), if_pos (by omega), Int.toNat_natCast]
theorem sum_le_mul {α : Type} {f : α → Nat} {b : Nat} : ∀ {l : List α}, (∀ x ∈ l, f x ≤ b) → (l.map f).sum ≤ l.length * b
  | [], _ => by simp
  | x :: l, h => by
    have h1 := h x List.mem_cons_self
    have h2 := sum_le_mul (f := f) (b := b) (l := l) fun y hy => h y (List.mem_cons_of_mem _ hy)
    rw [List.map_cons, List.sum_cons, List.length_cons, Nat.add_mul, Nat.one_mul]
    omega
theorem funs_len {sp : Nat → List Int} (h8 : ∀ i, (sp i).length ≤ 8) : ∀ {l : List Nat} {f : Nat → Int}, (funs sp l f).length ≤ 8 ^ l.length
  | [], f => by simp [funs]
  | i :: l, f => by
    unfold funs
    rw [List.length_flatMap, List.length_cons, Nat.pow_succ, Nat.mul_comm]
    exact Nat.le_trans (sum_le_mul fun x _ => funs_len h8) (Nat.mul_le_mul_right _ (h8 i))
theorem insU_len (x : Int) : ∀ l : List Int, (insU x l).length ≤ l.length + 1
  | [] => by simp [insU]
  | y :: l => by
    have := insU_len x l
    unfold insU
    split
    · simp
    · split <;> simp <;> omega
theorem isortU_len : ∀ l : List Int, (isortU l).length ≤ l.length
  | [] => Nat.le_refl _
  | x :: l => by
    have h1 := isortU_len l
    have h2 := insU_len x (isortU l)
    show (insU x (isortU l)).length ≤ _
    rw [List.length_cons]
    omega
theorem spanL_len (s : Int × Int) : (spanL s).length = (s.2 + 1 - s.1).toNat := by
  unfold spanL rng
  rw [List.length_map, List.length_range]
open Classical in
/-- all slot lists within spans that keep speeds, ascending -/
noncomputable def plans (cs : List Cell) (spans : Spans) (p q : Int) : List (List Int) := (boxes (spans.map spanL)).filter fun w => decide (Keeps cs p q w)
theorem count_ok {cs : List Cell} (hc : cs.length ≤ 7) {spans : Spans} (hsl : spans.length = cs.length) {p q : Int} (hp : 0 ≤ p) (hq : 0 ≤ q) (hsp : ∀ s ∈ spans, s.2 - s.1 < 8) :
    m_count_with [csD cs, .list (spans.map pD), .tuple [.int p, .int q]] = some (nD (plans cs spans p q).length, .sh) := by
  have hperm := parts_perm (tightP cs p q) cs.length (List.range cs.length) (by simp)
  have hpart : ∀ part ∈ partsP (tightP cs p q) cs.length (List.range cs.length), part.Nodup ∧ part.length ≤ 7 := fun part hp => by
    have hsub : part.Sublist (partsP (tightP cs p q) cs.length (List.range cs.length)).flatten := List.sublist_flatten_of_mem hp
    refine ⟨hsub.nodup (hperm.nodup_iff.mpr List.nodup_range), ?_⟩
    have := hsub.length_le
    rw [hperm.length_eq, List.length_range] at this
    omega
  have h8 : ∀ i, (spV spans i).length ≤ 8 := fun i => by
    unfold spV
    rw [spanL_len]
    unfold spn
    by_cases hi : i < spans.length
    · rw [List.getElem?_eq_getElem hi, Option.getD_some]
      have := hsp _ (List.getElem_mem hi)
      omega
    · rw [List.getElem?_eq_none (by omega)]
      decide
  have hfew : ∀ part ∈ partsP (tightP cs p q) cs.length (List.range cs.length), (slotsOf spans part).length < 64 := fun part hq => by
    have h1 := isortU_len (part.flatMap fun i => spanL (spn spans i))
    have h2 : (part.flatMap fun i => spanL (spn spans i)).length ≤ part.length * 8 := by
      rw [List.length_flatMap]
      exact sum_le_mul fun i _ => h8 i
    have := (hpart part hq).2
    show (isortU _).length < 64
    omega
  have hbig : ∀ part ∈ partsP (tightP cs p q) cs.length (List.range cs.length), waysOf (tightP cs p q) p q spans part ≤ 2 ^ 100 := fun part hq => by
    rw [ways_funs (nd_tight cs p q) (hpart part hq).1 fun _ => 0]
    refine Nat.le_trans (List.length_filter_le _ _) (Nat.le_trans (funs_len h8) ?_)
    refine Nat.le_trans (Nat.pow_le_pow_right (by decide) (hpart part hq).2) (by decide)
  rw [count_with_ok (by omega) hsl hsp hfew hbig, countW_eq (by omega) hsl hp hq]
  rfl
structure Few (n : Int) (cs : List Cell) (row : List Int) : Prop where
  good : Good n cs row
  few : cs.length ≤ 7
  short : ∀ x ∈ cs.zip row, x.2 - x.1.1 < 8
theorem check_few_ok {n : Int} {cs : List Cell} {row : List Int} (h : Few n cs row) : m_check_few [csD cs, iD row] = some (.none, .sh) := by
  have h1 := lcl_all (enc := fun p : Cell × Int => PyData.tuple [cD p.1, .int p.2]) (vs := [2, 3]) (g := gT (gsC (gN 2) (gsC (gN 3) gsN)) 2) (m := e2 dGe (oE (e2 dSub (oV 3) (oE (e2 dIxA (oV 2) (oE (eC (.int 0))))))) (oE (eC (.int 8)))) (e := [some (csD cs, .sh), some (iD row, .sh), none, none]) (fun p => .bool (decide (8 ≤ p.2 - p.1.1))) (cs.zip row) fun p _ => by
    refine ⟨_, .sh, _, by simp [cD]; rfl, by simp [cD]; rfl, by simp⟩
  have hm : ((cs.zip row).map fun p => PyData.bool (decide (8 ≤ p.2 - p.1.1))) = ((cs.zip row).map fun p => decide (8 ≤ p.2 - p.1.1)).map PyData.bool := by
    rw [List.map_map]
    rfl
  rw [hm] at h1
  have ha : ((cs.zip row).map fun p => decide (8 ≤ p.2 - p.1.1)).any id = false := by
    rw [List.any_eq_false]
    intro b hb
    obtain ⟨x, hx, rfl⟩ := List.mem_map.mp hb
    have := h.short x hx
    simp
    omega
  have hl : ((cs.zip row).map fun p => decide (8 ≤ p.2 - p.1.1)).length ≤ lim := by
    rw [List.length_map, List.length_zip]
    have := h.few
    unfold lim
    omega
  have hf := h.few
  generalize ((cs.zip row).map fun p => decide (8 ≤ p.2 - p.1.1)) = bs at *
  have ha2 := fAny_ints (bs := bs)
  rw [ha] at ha2
  simp [m_check_few, eLc, zipD_map, h1, hl, ha2, show ¬ (8 : Int) < (cs.length : Int) by omega]
theorem spans_len {n : Int} {cs : List Cell} {row : List Int} (h : Good n cs row) : (spans cs row).length = cs.length := by
  unfold spans
  rw [List.length_zipWith, h.row.len, Nat.min_self]
theorem spans_short {n : Int} {cs : List Cell} {row : List Int} (h : Few n cs row) : ∀ s ∈ spans cs row, s.2 - s.1 < 8 := fun s hs => by
  unfold spans at hs
  rw [← List.map_uncurry_zip_eq_zipWith] at hs
  obtain ⟨x, hx, rfl⟩ := List.mem_map.mp hs
  exact h.short x hx
theorem count_few {n : Int} {cs : List Cell} {row : List Int} (h : Few n cs row) {p q : Int} (hp : SpeedsOk p q) : m_count_with [csD cs, .list ((spans cs row).map pD), .tuple [.int p, .int q]] = some (nD (plans cs (spans cs row) p q).length, .sh) :=
  count_ok h.few (spans_len h.good) (by have := hp.1.1; omega) (by have := hp.2.1; omega) (spans_short h)
theorem has_plan_ok {n : Int} {cs : List Cell} {row : List Int} (h : Few n cs row) {p q : Int} (hp : SpeedsOk p q) : m_has_plan [.int n, csD cs, iD row, .tuple [.int p, .int q]] = some (.bool (decide (0 < (plans cs (spans cs row) p q).length)), .sh) := by
  have h1 := spans_of_ok cs row (by have := h.few; omega)
  have h2 := count_few h hp
  have h3 := need_row_ok h.good
  have h4 := check_few_ok h
  have h5 := need_speeds_ok hp
  simp [m_has_plan, m_need_few, h1, h2, h3, h4, h5]
theorem plan_count_ok {n : Int} {cs : List Cell} {row : List Int} (h : Few n cs row) {p q : Int} (hp : SpeedsOk p q) : m_plan_count [.int n, csD cs, iD row, .tuple [.int p, .int q]] = some (nD (plans cs (spans cs row) p q).length, .sh) := by
  have h1 := spans_of_ok cs row (by have := h.few; omega)
  have h2 := count_few h hp
  have h3 := need_row_ok h.good
  have h4 := check_few_ok h
  have h5 := need_speeds_ok hp
  simp [m_plan_count, m_need_few, h1, h2, h3, h4, h5]
end Gn
namespace Gn
open PySem PySem.Spec PyProof.Rows L2 Dd
def dup (x : Int) : Int × Int := (x, x)
theorem spanL_dup (x : Int) : spanL (x, x) = [x] := by
  unfold spanL rng
  rw [show (x + 1 - x).toNat = 1 by omega]
  simp
theorem boxes_dup (r : List (List Int)) : ∀ pre : List Int, boxes ((pre.map dup).map spanL ++ r) = (boxes r).map (pre ++ ·)
  | [] => by simp
  | x :: pre => by
    have ih := boxes_dup r pre
    simp only [List.map_cons, List.cons_append, boxes, dup, spanL_dup, List.flatMap_cons, List.flatMap_nil, List.append_nil]
    rw [ih, List.map_map]
    rfl
theorem plans_split (cs : List Cell) (pre : List Int) (c : Int × Int) (post : Spans) (p q : Int) : plans cs (pre.map dup ++ c :: post) p q = (spanL c).flatMap fun x => plans cs (pre.map dup ++ (x, x) :: post) p q := by
  have h : ∀ c : Int × Int, boxes ((pre.map dup ++ c :: post).map spanL) = (spanL c).flatMap fun x => (boxes (post.map spanL)).map fun w => pre ++ x :: w := fun c => by
    rw [List.map_append, boxes_dup, List.map_cons, boxes, List.map_flatMap]
    congr 1
    funext x
    rw [List.map_map]
    rfl
  unfold plans
  rw [h, List.filter_flatMap]
  congr 1
  funext x
  rw [h, spanL_dup]
  simp
theorem plans_dup {cs : List Cell} {w v : List Int} {p q : Int} {i : Nat} (h : (plans cs (w.map dup) p q)[i]? = some v) : v = w := by
  have h1 := List.mem_of_getElem? h
  unfold plans at h1
  have h2 := (List.mem_filter.mp h1).1
  have h3 := boxes_dup [] w
  rw [List.append_nil] at h3
  rw [h3] at h2
  simpa [boxes] using h2
/-- what count_with asks -/
structure SpOk (cs : List Cell) (S : Spans) : Prop where
  len : S.length = cs.length
  short : ∀ s ∈ S, s.2 - s.1 < 8
theorem set_mid {α : Type} (a : List α) (b c : α) (r : List α) : (a ++ b :: r).set a.length c = a ++ c :: r := by
  rw [List.set_append_right _ _ (Nat.le_refl _)]
  simp
theorem nth_inner {n : Int} {cs : List Cell} (hc : cs.length ≤ 7) {row : List Int} {p q : Int} (hp : SpeedsOk p q) {pre : List Int} {post : Spans} (hs : ∀ x, SpOk cs (pre.map dup ++ (x, x) :: post)) {j_first j_last : Option (D × Tg)} :
    ∀ (xs : List Int) (cur : Int × Int) (i : Nat) (j_slot j_many : Option (D × Tg)), Jk j_slot → Jk j_many → i < (xs.flatMap fun x => plans cs (pre.map dup ++ (x, x) :: post) p q).length →
      ∃ x i' q_slot q_many, Jk q_slot ∧ Jk q_many ∧ (plans cs (pre.map dup ++ (x, x) :: post) p q)[i']? = (xs.flatMap fun x => plans cs (pre.map dup ++ (x, x) :: post) p q)[i]? ∧ i' < (plans cs (pre.map dup ++ (x, x) :: post) p q).length ∧
        fl (gN 9) b0_nth_plan (xs.map PyData.int) [some (.int n, .sh), some (csD cs, .sh), some (iD row, .sh), some (.tuple [.int p, .int q], .sh), some (nD i, .sh), some (.list ((pre.map dup ++ cur :: post).map pD), .ow), some (nD pre.length, .sh), j_first, j_last, j_slot, j_many] =
          some (.nx [some (.int n, .sh), some (csD cs, .sh), some (iD row, .sh), some (.tuple [.int p, .int q], .sh), some (nD i', .sh), some (.list ((pre.map dup ++ (x, x) :: post).map pD), .ow), some (nD pre.length, .sh), j_first, j_last, q_slot, q_many])
  | [], _, i, _, _, _, _, h => by simp at h
  | x :: xs, cur, i, j_slot, j_many, h1, h2, h => by
    have hcnt := count_ok hc (hs x).len (p := p) (q := q) (by have := hp.1.1; omega) (by have := hp.2.1; omega) (hs x).short
    have hset : ((pre.map dup ++ cur :: post).map pD).set pre.length (.tuple [.int x, .int x]) = (pre.map dup ++ (x, x) :: post).map pD := by
      rw [List.map_append, List.map_append, List.map_cons, List.map_cons]
      have := set_mid ((pre.map dup).map pD) (pD cur) (.tuple [.int x, .int x]) (post.map pD)
      rw [List.length_map, List.length_map] at this
      exact this
    have hix : L2.ixN (pre.length + (post.length + 1)) (pre.length : Int) = some pre.length := ixN_nat (by omega)
    have hset' : ((pre.map dup ++ cur :: post).map pD).set pre.length (.tuple [.int x, .int x]) = (pre.map dup ++ (x, x) :: post).map pD := hset
    rw [List.flatMap_cons, List.length_append] at h
    rw [List.flatMap_cons]
    have hl0 : ((pre.map dup ++ cur :: post).map pD).length = pre.length + (post.length + 1) := by simp
    rw [List.map_cons, fl_cons]
    generalize (pre.map dup ++ cur :: post).map pD = L0 at *
    generalize hL1 : (pre.map dup ++ (x, x) :: post).map pD = L1 at *
    by_cases hi : i < (plans cs (pre.map dup ++ (x, x) :: post) p q).length
    · refine ⟨x, i, some (.int x, .sh), some (nD (plans cs (pre.map dup ++ (x, x) :: post) p q).length, .sh), jk_h, jk_h, ?_, hi, ?_⟩
      · rw [List.getElem?_append_left hi]
      · generalize (plans cs (pre.map dup ++ (x, x) :: post) p q).length = m at *
        simp [b0_nth_plan, put_j h1, put_j h2, hcnt, hset, hix, hl0, hL1, show 2 ≤ lim by decide, hi]
    · obtain ⟨y, i', k_slot, k_many, g1, g2, g3, g4, g5⟩ := nth_inner (n := n) (row := row) (j_first := j_first) (j_last := j_last) hc hp hs xs (x, x) (i - (plans cs (pre.map dup ++ (x, x) :: post) p q).length) (some (.int x, .sh)) (some (nD (plans cs (pre.map dup ++ (x, x) :: post) p q).length, .sh)) jk_h jk_h (by omega)
      refine ⟨y, i', k_slot, k_many, g1, g2, ?_, g4, ?_⟩
      · rw [List.getElem?_append_right (by omega)]
        exact g3
      · rw [hL1] at g5
        clear g3 g4
        generalize (pre.map dup ++ (y, y) :: post).map pD = L2 at *
        generalize (plans cs (pre.map dup ++ (x, x) :: post) p q).length = m at *
        have hsub : (i : Int) - (m : Int) = ((i - m : Nat) : Int) := by omega
        have hb : b0_nth_plan [some (.int n, .sh), some (csD cs, .sh), some (iD row, .sh), some (.tuple [.int p, .int q], .sh), some (nD i, .sh), some (.list L0, .ow), some (nD pre.length, .sh), j_first, j_last, some (.int x, .sh), j_many] =
            some (.nx [some (.int n, .sh), some (csD cs, .sh), some (iD row, .sh), some (.tuple [.int p, .int q], .sh), some (nD (i - m), .sh), some (.list L1, .ow), some (nD pre.length, .sh), j_first, j_last, some (.int x, .sh), some (nD m, .sh)]) := by
          simp [b0_nth_plan, put_j h1, put_j h2, hcnt, hset, hix, hl0, hL1, show 2 ≤ lim by decide, hi, hsub]
        simp only [x_gN, put_j h1, put_s, Option.map_some, Option.bind_some, hb]
        exact g5
theorem rngD0 (k : Nat) : rngD 0 k = (List.range k).map nD := by
  rw [rngD_eq]
  unfold rng
  rw [List.map_map]
  refine List.map_congr_left fun i _ => ?_
  simp
theorem need_number_3 {v lo hi : Int} (h : lo ≤ v ∧ v ≤ hi) : m_need_number [.int v, .int lo, .int hi] = some (.none, .sh) := by
  simp [m_need_number, h.1, h.2]
theorem need_number_2 {v lo : Int} (h : lo ≤ v) : m_need_number [.int v, .int lo, .none] = some (.none, .sh) := by
  simp [m_need_number, h]
theorem nth_plan_ok {n : Int} {cs : List Cell} {row : List Int} (h : Few n cs row) {p q : Int} (hp : SpeedsOk p q) {i : Nat} {w : List Int} (hi : (plans cs (spans cs row) p q)[i]? = some w) : m_nth_plan [.int n, csD cs, iD row, .tuple [.int p, .int q], nD i] = some (iD w, .ow) := by
  have h1 := spans_of_ok cs row (by have := h.few; omega)
  have h2 := count_few h hp
  have h3 := need_row_ok h.good
  have h4 := check_few_ok h
  have h5 := need_speeds_ok hp
  have hlen := spans_len h.good
  have hsh := spans_short h
  have hil : i < (plans cs (spans cs row) p q).length := (List.getElem?_eq_some_iff.mp hi).1
  have h6 : m_need_number [nD i, .int 0, .none] = some (.none, .sh) := need_number_2 (by omega)
  have h7 : m_need_number [nD i, .int 0, .int (((plans cs (spans cs row) p q).length : Int) - 1)] = some (.none, .sh) := need_number_3 (by omega)
  generalize hm : (plans cs (spans cs row) p q).length = m at *
  generalize hS : spans cs row = S at *
  obtain ⟨e', h8, hP⟩ := fl_pre (enc := nD) (g := gN 6) (b := b1_nth_plan) (cs := List.range cs.length) (fun pre (e : Ev) => ∃ (v : List Int) (i' : Nat), v.length = pre.length ∧ (plans cs (v.map dup ++ S.drop pre.length) p q)[i']? = some w ∧ (∃ j_at j_first j_last j_slot j_many, Jk j_at ∧ Jk j_first ∧ Jk j_last ∧ Jk j_slot ∧ Jk j_many ∧ e = [some (.int n, .sh), some (csD cs, .sh), some (iD row, .sh), some (.tuple [.int p, .int q], .sh), some (nD ((i')), .sh), some (.list (((v.map dup ++ S.drop pre.length)).map pD), .ow), j_at, j_first, j_last, j_slot, j_many]))
    (fun pre c post he e ⟨v, i', hv, hvi, j_at, j_first, j_last, j_slot, j_many, q_at, q_first, q_last, q_slot, q_many, q_env⟩ => by
      subst q_env
      have hc : c = pre.length := by
        have := congrArg (fun l => l[pre.length]?) he
        simp at this
        have h9 : pre.length < cs.length := by
          have := congrArg List.length he
          simp at this
          omega
        rw [List.getElem?_range h9] at this
        simpa using this.symm
      have h9 : pre.length < cs.length := by
        have := congrArg List.length he
        simp at this
        omega
      subst hc
      have hd : S.drop pre.length = S[pre.length] :: S.drop (pre.length + 1) := List.drop_eq_getElem_cons (by omega)
      rw [hd, plans_split] at hvi
      have hspok : ∀ x, SpOk cs (v.map dup ++ (x, x) :: S.drop (pre.length + 1)) := fun x => by
        refine ⟨by simp [hv]; omega, fun s hs => ?_⟩
        rcases List.mem_append.mp hs with hs | hs
        · obtain ⟨y, _, rfl⟩ := List.mem_map.mp hs
          simp [dup]
        · rcases List.mem_cons.mp hs with rfl | hs
          · simp
          · exact hsh s (List.mem_of_mem_drop hs)
      obtain ⟨x, i2, q_slot2, q_many2, g1, g2, g3, g4, g5⟩ := nth_inner (n := n) (row := row) h.few hp hspok (spanL S[pre.length]) S[pre.length] i' j_slot j_many q_slot q_many (j_first := some (.int S[pre.length].1, .sh)) (j_last := some (.int S[pre.length].2, .sh)) (by
        rcases Nat.lt_or_ge i' (List.flatMap (fun x => plans cs (v.map dup ++ (x, x) :: S.drop (pre.length + 1)) p q) (spanL S[pre.length])).length with h | h
        · exact h
        · rw [List.getElem?_eq_none h] at hvi
          cases hvi)
      have hix : dIxA (.list ((v.map dup ++ S.drop pre.length).map pD)) (nD pre.length) = some (pD S[pre.length], .sh) := ixA_l (by
        rw [List.getElem?_map, List.getElem?_append_right (by simp [hv])]
        simp [hv, h9, hlen])
      have hsp : (spanL S[pre.length]).map PyData.int = rngD S[pre.length].1 (S[pre.length].2 + 1 - S[pre.length].1).toNat := (rngD_eq _ _).symm
      rw [hsp, hv] at g5
      rw [hd] at hix ⊢
      generalize (v.map dup ++ S[pre.length] :: S.drop (pre.length + 1)).map pD = L0 at *
      refine ⟨_, _, by simp [put_j q_at, put_j q_first, put_j q_last, put_j q_slot, put_j q_many]; rfl, ?_, v ++ [x], i2, by simp [hv], ?_, some (nD pre.length, .sh), some (.int S[pre.length].1, .sh), some (.int S[pre.length].2, .sh), q_slot2, q_many2, jk_h, jk_h, jk_h, g1, g2, rfl⟩
      · simp [b1_nth_plan, hix, pD, put_j q_at, put_j q_first, put_j q_last, put_j q_slot, put_j q_many, g5]
        simp [dup]
      · simp [dup, List.append_assoc] at g3 ⊢
        rw [g3]
        exact hvi) (List.range cs.length) [] rfl [some (.int n, .sh), some (csD cs, .sh), some (iD row, .sh), some (.tuple [.int p, .int q], .sh), some (nD ((i)), .sh), some (.list (((S)).map pD), .ow), none, none, none, none, none] ⟨[], i, rfl, by simpa using hi, none, none, none, none, none, jk_n, jk_n, jk_n, jk_n, jk_n, rfl⟩
  obtain ⟨v, i', hv, hvi, j_at, j_first, j_last, j_slot, j_many, q_at, q_first, q_last, q_slot, q_many, rfl⟩ := hP
  have hvl : v.length = cs.length := by simpa using hv
  rw [List.length_range, List.drop_of_length_le (by omega), List.append_nil] at hvi h8
  obtain rfl := plans_dup hvi
  have hlc := lcl_all (enc := fun x : Int => pD (dup x)) (vs := [7, 8]) (g := gT (gsC (gN 7) (gsC (gN 8) gsN)) 2) (m := eV 7) (e := [some (.int n, .sh), some (csD cs, .sh), some (iD row, .sh), some (.tuple [.int p, .int q], .sh), some (nD i', .sh), none, j_at, none, none, j_slot, j_many]) PyData.int w fun x _ => by
    refine ⟨_, .sh, _, by simp [pD]; rfl, by simp [pD, dup]; rfl, by simp [dup]⟩
  have hwl : w.length ≤ lim := by
    have := h.few
    unfold lim
    omega
  rw [show List.map (fun x => pD (dup x)) w = List.map pD (List.map dup w) by rw [List.map_map]; rfl] at hlc
  generalize hS0 : S.map pD = S0 at *
  generalize hw0 : (w.map dup).map pD = W0 at *
  simp [m_nth_plan, h1, h2, h3, h4, h5, h6, h7, rngD0, h8, eLc, cV, hlc, hwl, puts]
end Gn
namespace Gn
open PySem PySem.Spec PyProof.Rows L2 Dd
/-- the least number from g on, below g + m, at which something is there -/
def firstGot (F : Int → Nat) : Nat → Int → Int
  | 0, g => g
  | m + 1, g => if F g = 0 then firstGot F m (g + 1) else g
def lpStep (F : Int → Int → Nat) (st : List (Int × Int) × Int) (s : Int) : List (Int × Int) × Int :=
  if firstGot (F s) (st.2 - 1).toNat 1 < st.2 then (st.1 ++ [(s, firstGot (F s) (st.2 - 1).toNat 1)], firstGot (F s) (st.2 - 1).toNat 1) else st
def leastP (F : Int → Int → Nat) (n : Int) : List (Int × Int) := ((rng 1 n.toNat).foldl (lpStep F) ([], n + 1)).1
theorem firstGot_le (F : Int → Nat) : ∀ (m : Nat) (g : Int), g ≤ firstGot F m g ∧ firstGot F m g ≤ g + m
  | 0, g => by simp [firstGot]
  | m + 1, g => by
    have := firstGot_le F m (g + 1)
    unfold firstGot
    split <;> omega
theorem lp_while {n : Int} {cs : List Cell} {row : List Int} (h : Few n cs row) {s : Int} (hs : 0 ≤ s) {found : List (Int × Int)} {most : Int} : ∀ (m fuel : Nat) (got : Int), 1 ≤ got → (most - got).toNat = m → m < fuel →
    wl (tAnd' (tB (e2 dLt (oV 7) (oV 5))) (tB (e2 dEq (oE (eCall m_count_with (aC (oV 1) (aC (oV 3) (aC (oE (eTup (lC (eSh (eV 6)) (lC (eSh (eV 7)) lN)))) aN))))) (oE (eC (.int 0)))))) b0_least_pairs fuel
      [some (.int n, .sh), some (csD cs, .sh), some (iD row, .sh), some (.list ((spans cs row).map pD), .ow), some (.list (found.map pD), .ow), some (.int most, .sh), some (.int s, .sh), some (.int got, .sh)] =
    some (.nx [some (.int n, .sh), some (csD cs, .sh), some (iD row, .sh), some (.list ((spans cs row).map pD), .ow), some (.list (found.map pD), .ow), some (.int most, .sh), some (.int s, .sh), some (.int (firstGot (fun g => (plans cs (spans cs row) s g).length) m got), .sh)])
  | m, 0, _, _, _, hf => by omega
  | 0, fuel + 1, got, hg, hm, _ => by
    refine wl_done ?_
    have : ¬ got < most := by omega
    simp [this, firstGot]
  | m + 1, fuel + 1, got, hg, hm, hf => by
    have hcnt := count_ok h.few (spans_len h.good) hs (q := got) (by omega) (spans_short h)
    have hlt : got < most := by omega
    have hlim : 2 ≤ lim := by decide
    by_cases hz : (plans cs (spans cs row) s got).length = 0
    · have ih := lp_while h hs (found := found) (most := most) m fuel (got + 1) (by omega) (by omega) (by omega)
      unfold firstGot
      rw [if_pos hz]
      refine (wl_succ (e1 := [some (.int n, .sh), some (csD cs, .sh), some (iD row, .sh), some (.list ((spans cs row).map pD), .ow), some (.list (found.map pD), .ow), some (.int most, .sh), some (.int s, .sh), some (.int got, .sh)]) ?_ ?_).trans ih
      · rw [hz] at hcnt
        generalize (spans cs row).map pD = S at *
        simp [hlt, hcnt, hlim]
      · have hadd : dAddI (.int got) (.int 1) = some (.int (got + 1), .sh) := rfl
        simp [b0_least_pairs, hadd]
    · unfold firstGot
      rw [if_neg hz]
      refine wl_done ?_
      generalize (plans cs (spans cs row) s got).length = k at *
      generalize (spans cs row).map pD = S at *
      have hk : ¬ (k : Int) = 0 := by omega
      simp [hlt, hcnt, hlim, hz, hk]
theorem lpStep_len (F : Int → Int → Nat) : ∀ (xs : List Int) (st : List (Int × Int) × Int), (xs.foldl (lpStep F) st).1.length ≤ st.1.length + xs.length
  | [], st => Nat.le_refl _
  | x :: xs, st => by
    have ih := lpStep_len F xs (lpStep F st x)
    rw [List.foldl_cons, List.length_cons]
    refine Nat.le_trans ih ?_
    have : (lpStep F st x).1.length ≤ st.1.length + 1 := by
      unfold lpStep
      split
      · simp
      · omega
    omega
theorem lpStep_most (F : Int → Int → Nat) : ∀ (xs : List Int) (st : List (Int × Int) × Int), (xs.foldl (lpStep F) st).2 ≤ st.2
  | [], st => Int.le_refl _
  | x :: xs, st => by
    have ih := lpStep_most F xs (lpStep F st x)
    rw [List.foldl_cons]
    refine Int.le_trans ih ?_
    unfold lpStep
    split
    · exact Int.le_of_lt (by assumption)
    · exact Int.le_refl _
theorem least_pairs_ok {n : Int} {cs : List Cell} {row : List Int} (h : Few n cs row) : m_least_pairs [.int n, csD cs, iD row] = some (.list ((leastP (fun s g => (plans cs (spans cs row) s g).length) n).map pD), .ow) := by
  have h1 := spans_of_ok cs row (by have := h.few; omega)
  have h3 := need_row_ok h.good
  have h4 := check_few_ok h
  have hn := h.good.size
  obtain ⟨e', h8, j_sent, j_got, q_sent, q_got, rfl⟩ := fl_pre (enc := PyData.int) (g := gN 6) (b := b1_least_pairs) (cs := rng 1 n.toNat) (fun pre (e : Ev) => (∃ j_sent j_got, Jk j_sent ∧ Jk j_got ∧ e = [some (.int n, .sh), some (csD cs, .sh), some (iD row, .sh), some (.list ((spans cs row).map pD), .ow), some (.list ((((pre.foldl (lpStep fun s g => (plans cs (spans cs row) s g).length) ([], n + 1)).1)).map pD), .ow), some (.int ((pre.foldl (lpStep fun s g => (plans cs (spans cs row) s g).length) ([], n + 1)).2), .sh), j_sent, j_got]))
    (fun pre s post he e ⟨j_sent, j_got, q_sent, q_got, q_env⟩ => by
      subst q_env
      have hsr : s ∈ rng 1 n.toNat := by rw [he]; simp
      have hpl : pre.length < 8 := by
        have := congrArg List.length he
        unfold rng at this
        simp at this
        omega
      have hle := lpStep_len (fun s g => (plans cs (spans cs row) s g).length) pre ([], n + 1)
      have hmo := lpStep_most (fun s g => (plans cs (spans cs row) s g).length) pre ([], n + 1)
      rw [mem_rng] at hsr
      rw [List.foldl_append]
      show ∃ e1 e2, _ ∧ _ ∧ (∃ j_sent j_got, Jk j_sent ∧ Jk j_got ∧ e2 = [some (.int n, .sh), some (csD cs, .sh), some (iD row, .sh), some (.list ((spans cs row).map pD), .ow), some (.list ((((lpStep (fun s g => (plans cs (spans cs row) s g).length) (pre.foldl (lpStep fun s g => (plans cs (spans cs row) s g).length) ([], n + 1)) s).1)).map pD), .ow), some (.int ((lpStep (fun s g => (plans cs (spans cs row) s g).length) (pre.foldl (lpStep fun s g => (plans cs (spans cs row) s g).length) ([], n + 1)) s).2), .sh), j_sent, j_got])
      generalize pre.foldl (lpStep fun s g => (plans cs (spans cs row) s g).length) ([], n + 1) = st at *
      obtain ⟨found, most⟩ := st
      simp only at hle hmo ⊢
      have hw := lp_while h (s := s) (by omega) (found := found) (most := most) (most - 1).toNat 100000 1 (by omega) (by omega) (by omega)
      simp only [lpStep]
      have hfl : found.length < lim := by simp at hle; unfold lim; omega
      generalize firstGot (fun g => (plans cs (spans cs row) s g).length) (most - 1).toNat 1 = got at *
      generalize (spans cs row).map pD = S at *
      by_cases hgm : got < most
      · refine ⟨_, _, by simp [put_j q_sent, put_j q_got]; rfl, ?_, some (.int s, .sh), some (.int got, .sh), jk_h, jk_h, rfl⟩
        simp [b1_least_pairs, put_j q_sent, put_j q_got, sWhile, hw, hgm, hfl, show 2 ≤ lim by decide, pD]
      · refine ⟨_, _, by simp [put_j q_sent, put_j q_got]; rfl, ?_, some (.int s, .sh), some (.int got, .sh), jk_h, jk_h, rfl⟩
        simp [b1_least_pairs, put_j q_sent, put_j q_got, sWhile, hw, hgm]) (rng 1 n.toNat) [] rfl
    [some (.int n, .sh), some (csD cs, .sh), some (iD row, .sh), some (.list ((spans cs row).map pD), .ow), some (.list [], .ow), some (.int (n + 1), .sh), none, none] ⟨none, none, jk_n, jk_n, rfl⟩
  unfold leastP
  generalize (rng 1 n.toNat).foldl (lpStep fun s g => (plans cs (spans cs row) s g).length) ([], n + 1) = st at *
  have hr : rngD 1 n.toNat = (rng 1 n.toNat).map PyData.int := rngD_eq _ _
  rw [← hr] at h8
  generalize (spans cs row).map pD = S at *
  simp [m_least_pairs, h1, h3, h4, h8, puts]
end Gn
namespace Gn
open PySem PySem.Spec PyProof.Rows L2 Dd
section assoc
variable {κ α : Type} [DecidableEq κ]
def aget (w : List (κ × α)) (k : κ) : Option α := (w.find? fun e => decide (e.1 = k)).map (·.2)
def aset (w : List (κ × α)) (k : κ) (v : α) : List (κ × α) := if (w.any fun e => decide (e.1 = k)) = true then w.map (fun e => if e.1 = k then (e.1, v) else e) else w ++ [(k, v)]
def akeys (w : List (κ × α)) : List κ := w.map (·.1)
theorem aget_cons (e : κ × α) (w : List (κ × α)) (k : κ) : aget (e :: w) k = if e.1 = k then some e.2 else aget w k := by
  unfold aget
  rw [List.find?_cons]
  by_cases h : e.1 = k <;> simp [h]
theorem any_iff {w : List (κ × α)} {k : κ} : (w.any fun e => decide (e.1 = k)) = true ↔ k ∈ akeys w := by
  unfold akeys
  simp only [List.any_eq_true, decide_eq_true_eq, List.mem_map]
theorem aget_none {w : List (κ × α)} {k : κ} : aget w k = none ↔ k ∉ akeys w := by
  induction w with
  | nil => simp [aget, akeys]
  | cons e w ih =>
    rw [aget_cons]
    have : akeys (e :: w) = e.1 :: akeys w := rfl
    rw [this, List.mem_cons, not_or, ← ih]
    by_cases h : e.1 = k
    · simp [h]
    · rw [if_neg h]
      simp [Ne.symm h]
theorem aget_app {w : List (κ × α)} {k k' : κ} {v : α} (h : k ∉ akeys w) : aget (w ++ [(k, v)]) k' = if k' = k then some v else aget w k' := by
  induction w with
  | nil =>
    rw [List.nil_append, aget_cons]
    by_cases e : k' = k
    · subst e; simp
    · rw [if_neg e, if_neg (fun q => e q.symm)]
  | cons e w ih =>
    have h2 : k ≠ e.1 ∧ k ∉ akeys w := by
      have : akeys (e :: w) = e.1 :: akeys w := rfl
      rw [this, List.mem_cons, not_or] at h
      exact h
    rw [List.cons_append, aget_cons, aget_cons, ih h2.2]
    by_cases q : e.1 = k'
    · rw [if_pos q, if_pos q, if_neg (fun z : k' = k => h2.1 (z.symm.trans q.symm))]
    · rw [if_neg q, if_neg q]
theorem aget_map {w : List (κ × α)} {k k' : κ} {v : α} (h : k ∈ akeys w) : aget (w.map (fun e => if e.1 = k then (e.1, v) else e)) k' = if k' = k then some v else aget w k' := by
  induction w with
  | nil => cases h
  | cons e w ih =>
    rw [List.map_cons, aget_cons, aget_cons]
    by_cases q : e.1 = k
    · rw [if_pos q]
      by_cases z : k' = k
      · subst z
        rw [if_pos rfl, if_pos q]
      · have : ¬ e.1 = k' := fun y => z (y.symm.trans q)
        rw [if_neg z, if_neg this, if_neg this]
        by_cases hk : k ∈ akeys w
        · rw [ih hk, if_neg z]
        · congr 1
          have e2 : ∀ x ∈ w, (if x.1 = k then (x.1, v) else x) = id x := fun x hx => if_neg fun y => hk (List.mem_map.mpr ⟨x, hx, y⟩)
          rw [List.map_congr_left e2, List.map_id]
    · rw [if_neg q]
      have hk : k ∈ akeys w := by
        have : akeys (e :: w) = e.1 :: akeys w := rfl
        rw [this, List.mem_cons] at h
        exact h.resolve_left fun z => q z.symm
      rw [ih hk]
      by_cases z : e.1 = k'
      · rw [if_pos z, if_pos z, if_neg fun y => q (z.trans y)]
      · rw [if_neg z, if_neg z]
theorem aget_aset (w : List (κ × α)) (k k' : κ) (v : α) : aget (aset w k v) k' = if k' = k then some v else aget w k' := by
  unfold aset
  by_cases h : k ∈ akeys w
  · rw [if_pos (any_iff.mpr h), aget_map h]
  · rw [if_neg fun q => h (any_iff.mp q), aget_app h]
theorem akeys_aset (w : List (κ × α)) (k : κ) (v : α) : akeys (aset w k v) = if k ∈ akeys w then akeys w else akeys w ++ [k] := by
  unfold aset
  by_cases h : k ∈ akeys w
  · rw [if_pos (any_iff.mpr h), if_pos h]
    unfold akeys
    rw [List.map_map]
    refine List.map_congr_left fun e _ => ?_
    show (if e.1 = k then (e.1, v) else e).1 = e.1
    split <;> rfl
  · rw [if_neg fun q => h (any_iff.mp q), if_neg h]
    simp [akeys]
theorem aset_nodup {w : List (κ × α)} (h : (akeys w).Nodup) (k : κ) (v : α) : (akeys (aset w k v)).Nodup := by
  rw [akeys_aset]
  split
  · exact h
  · rw [List.nodup_append]
    refine ⟨h, by simp, fun a ha b hb e => ?_⟩
    rw [List.mem_singleton] at hb
    rename_i hk
    exact hk (hb ▸ e ▸ ha)
theorem mem_aget {w : List (κ × α)} (h : (akeys w).Nodup) {k : κ} {v : α} : (k, v) ∈ w ↔ aget w k = some v := by
  induction w with
  | nil => simp [aget]
  | cons e w ih =>
    have e2 : akeys (e :: w) = e.1 :: akeys w := rfl
    rw [e2, List.nodup_cons] at h
    rw [aget_cons, List.mem_cons, ih h.2]
    by_cases q : e.1 = k
    · rw [if_pos q]
      constructor
      · rintro (rfl | z)
        · rfl
        · exact (h.1 (q ▸ List.mem_map.mpr ⟨(k, v), (ih h.2).mpr z, rfl⟩)).elim
      · intro z
        refine .inl ?_
        rw [← q, ← Option.some.inj z]
    · rw [if_neg q]
      constructor
      · rintro (rfl | z)
        · exact (q rfl).elim
        · exact z
      · exact fun z => .inr z
theorem aset_len (w : List (κ × α)) (k : κ) (v : α) : (aset w k v).length ≤ w.length + 1 := by
  unfold aset
  split <;> simp
end assoc
section cnt
variable {κ : Type} [DecidableEq κ]
def cstep (w : List (κ × Nat)) (k : κ) : List (κ × Nat) := aset w k ((aget w k).getD 0 + 1)
def cnt (ks : List κ) : List (κ × Nat) := ks.foldl cstep []
theorem cnt_get (k : κ) : ∀ (ks : List κ) (w : List (κ × Nat)), (∀ k, k ∉ akeys w ∨ 0 < (aget w k).getD 0) → aget (ks.foldl cstep w) k = if (aget w k).getD 0 + ks.count k = 0 then none else some ((aget w k).getD 0 + ks.count k)
  | [], w, h => by
    rw [List.foldl_nil, List.count_nil, Nat.add_zero]
    cases hg : aget w k with
    | none => rfl
    | some n =>
      rw [Option.getD_some, if_neg]
      rcases h k with h | h
      · rw [aget_none.mpr h] at hg
        cases hg
      · rw [hg, Option.getD_some] at h
        omega
  | a :: ks, w, h => by
    rw [List.foldl_cons, cnt_get k ks (cstep w a) fun j => ?_]
    · unfold cstep
      rw [aget_aset, List.count_cons]
      by_cases e : k = a
      · subst e
        simp only [if_true, Option.getD_some, beq_self_eq_true]
        have h1 : (aget w k).getD 0 + 1 + List.count k ks = (aget w k).getD 0 + (List.count k ks + 1) := by omega
        rw [h1]
      · have e2 : (a == k) = false := beq_false_of_ne fun q => e q.symm
        rw [if_neg e, e2]
        simp
    · unfold cstep
      by_cases e : j = a
      · subst e
        right
        rw [aget_aset, if_pos rfl, Option.getD_some]
        omega
      · rcases h j with q | q
        · left
          rw [akeys_aset]
          split
          · exact q
          · simp [q, e]
        · right
          rw [aget_aset, if_neg e]
          exact q
theorem cnt_aget (ks : List κ) (k : κ) : aget (cnt ks) k = if ks.count k = 0 then none else some (ks.count k) := by
  have := cnt_get k ks [] fun j => .inl (by simp [akeys])
  have e : (aget ([] : List (κ × Nat)) k) = none := rfl
  rw [e, Option.getD_none, Nat.zero_add] at this
  exact this
theorem cnt_nodup : ∀ (ks : List κ) (w : List (κ × Nat)), (akeys w).Nodup → (akeys (ks.foldl cstep w)).Nodup
  | [], w, h => h
  | a :: ks, w, h => cnt_nodup ks _ (aset_nodup h _ _)
theorem mem_cnt {ks : List κ} {k : κ} {n : Nat} : (k, n) ∈ cnt ks ↔ k ∈ ks ∧ n = ks.count k := by
  have hn : (akeys (cnt ks)).Nodup := cnt_nodup ks [] (by simp [akeys])
  rw [mem_aget hn, cnt_aget, ← List.count_pos_iff]
  split
  · constructor
    · intro h
      cases h
    · intro h
      omega
  · rw [Option.some.injEq]
    constructor
    · intro h
      omega
    · intro h
      exact h.2.symm
def ctk (ks : List κ) (k : κ) : Nat := ks.countP fun x => decide (x = k)
theorem ctk_eq (ks : List κ) (k : κ) : ks.count k = ctk ks k := by
  rw [List.count_eq_countP]
  refine List.countP_congr fun x _ => ?_
  simp
theorem mem_cnt' {ks : List κ} {k : κ} {n : Nat} : (k, n) ∈ cnt ks ↔ k ∈ ks ∧ n = ctk ks k := by
  rw [← ctk_eq]
  exact mem_cnt
theorem ctk_zero {ks : List κ} {k : κ} (h : k ∉ ks) : ctk ks k = 0 := List.countP_eq_zero.mpr fun x hx q => h ((of_decide_eq_true q) ▸ hx)
theorem cnt_len : ∀ (ks : List κ) (w : List (κ × Nat)), (ks.foldl cstep w).length ≤ w.length + ks.length
  | [], w => Nat.le_refl _
  | a :: ks, w => by
    have h1 := cnt_len ks (cstep w a)
    have h2 := aset_len w a ((aget w a).getD 0 + 1)
    rw [List.foldl_cons, List.length_cons]
    unfold cstep at *
    omega
end cnt
def trow {α : Type} (f : α → D) (e : (Int × Int) × α) : D × D := (.tuple [.int e.1.1, .int e.1.2], f e.2)
abbrev tD2 {α : Type} (f : α → D) (w : List ((Int × Int) × α)) : D := .dict ((.none, .none) :: w.map (trow f))
theorem unT_row {α : Type} (f : α → D) (e : (Int × Int) × α) (k : Int × Int) : (unT (trow f e).1 = some [.inl k.1, .inl k.2]) = (e.1 = k) := by
  show (some [(Sum.inl e.1.1 : Key), Sum.inl e.1.2] = some [(Sum.inl k.1 : Key), Sum.inl k.2]) = _
  obtain ⟨⟨a, b⟩, v⟩ := e
  obtain ⟨c, d⟩ := k
  simp
theorem tget_t {α : Type} (f : α → D) (w : List ((Int × Int) × α)) (k : Int × Int) : tGet unT (w.map (trow f)) [.inl k.1, .inl k.2] = (aget w k).map f := by
  unfold tGet aget
  rw [List.find?_map]
  have e : ((fun p : D × D => decide (unT p.1 = some [.inl k.1, .inl k.2])) ∘ trow f) = fun e => decide (e.1 = k) := by
    funext z
    show decide (unT (trow f z).1 = some [.inl k.1, .inl k.2]) = _
    simp only [unT_row]
  rw [e, Option.map_map, Option.map_map]
  rfl
theorem tput_t {α : Type} (f : α → D) (w : List ((Int × Int) × α)) (k : Int × Int) (v : α) : tPut unT (w.map (trow f)) (.tuple [.int k.1, .int k.2]) [.inl k.1, .inl k.2] (f v) = (aset w k v).map (trow f) := by
  unfold tPut aset
  rw [List.any_map]
  have e : ((fun p : D × D => decide (unT p.1 = some [.inl k.1, .inl k.2])) ∘ trow f) = fun e => decide (e.1 = k) := by
    funext z
    show decide (unT (trow f z).1 = some [.inl k.1, .inl k.2]) = _
    simp only [unT_row]
  rw [e]
  split
  · rw [List.map_map, List.map_map]
    refine List.map_congr_left fun z _ => ?_
    show (if unT (trow f z).1 = some [.inl k.1, .inl k.2] then ((trow f z).1, f v) else trow f z) = trow f (if z.1 = k then (z.1, v) else z)
    simp only [unT_row]
    split
    · rfl
    · rfl
  · rw [List.map_append]
    simp [trow]
theorem dget_t {α : Type} (f : α → D) (w : List ((Int × Int) × α)) (a b : Int) : dGet (tD2 f w) (.tuple [.int a, .int b]) = some ((aget w (a, b)).map f) := by
  rw [← tget_t]
  rfl
theorem dput_t {α : Type} (f : α → D) {w : List ((Int × Int) × α)} (a b : Int) (v : α) (h : w.length < lim) : dPut (tD2 f w) (.tuple [.int a, .int b]) (f v) = some (tD2 f (aset w (a, b) v)) := by
  show (if (w.map (trow f)).length < lim then some (PyData.dict ((.none, .none) :: tPut unT (w.map (trow f)) (.tuple [.int a, .int b]) [.inl a, .inl b] (f v))) else none) = _
  rw [List.length_map, if_pos h, tput_t f w (a, b)]
end Gn
namespace Gn
open PySem PySem.Spec PyProof.Rows L2 Dd
/-- the slots and ports of crossing cells -/
def lkeys (cs : List Cell) (w : List Int) (side : Nat) : List (Int × Int) := (cs.zip w).map fun x => (x.2, portAt x.1 side)
theorem load_count (cs : List Cell) (w : List Int) (side : Nat) (s e : Int) : load cs w side s e = ctk (lkeys cs w side) (s, e) := by
  unfold load lkeys ctk
  rw [List.countP_map]
  refine List.countP_congr fun x _ => ?_
  simp
theorem loads_of_ok {cs : List Cell} (hc : cs.length ≤ 60) (ws : List Int) {side : Nat} (hs : side = 1 ∨ side = 2) : m_loads_of [csD cs, iD ws, .int (side : Int)] = some (tD2 nD (cnt (lkeys cs ws side)), .ow) := by
  obtain ⟨e', h1, j_cell, j_slot, j_key, q_cell, q_slot, q_key, rfl⟩ := fl_pre (enc := fun x : Cell × Int => PyData.tuple [cD x.1, .int x.2]) (g := gT (gsC (gN 4) (gsC (gN 5) gsN)) 2) (b := b0_loads_of) (cs := cs.zip ws) (fun pre (e : Ev) => (∃ j_cell j_slot j_key, Jk j_cell ∧ Jk j_slot ∧ Jk j_key ∧ e = [some (csD cs, .sh), some (iD ws, .sh), some (.int ((side : Nat) : Int), .sh), some (tD2 nD ((pre.map fun x => (x.2, portAt x.1 side)).foldl cstep []), .ow), j_cell, j_slot, j_key]))
    (fun pre x post he e ⟨j_cell, j_slot, j_key, q_cell, q_slot, q_key, q_env⟩ => by
      subst q_env
      have hl : ((pre.map fun x => (x.2, portAt x.1 side)).foldl cstep []).length < lim := by
        have h1 := cnt_len (pre.map fun x => (x.2, portAt x.1 side)) []
        have h2 := congrArg List.length he
        rw [List.length_zip, List.length_append] at h2
        rw [List.length_map, List.length_nil] at h1
        unfold lim
        omega
      rw [List.map_append, List.foldl_append]
      show ∃ e1 e2, _ ∧ _ ∧ (∃ j_cell j_slot j_key, Jk j_cell ∧ Jk j_slot ∧ Jk j_key ∧ e2 = [some (csD cs, .sh), some (iD ws, .sh), some (.int ((side : Nat) : Int), .sh), some (tD2 nD (cstep ((pre.map fun x => (x.2, portAt x.1 side)).foldl cstep []) (x.2, portAt x.1 side)), .ow), j_cell, j_slot, j_key])
      generalize (pre.map fun x => (x.2, portAt x.1 side)).foldl cstep [] = w at *
      have hix := ix_side x.1 hs
      have hg := dget_t nD w x.2 (portAt x.1 side)
      have hp := dput_t nD x.2 (portAt x.1 side) ((aget w (x.2, portAt x.1 side)).getD 0 + 1) hl
      have hcast : (((aget w (x.2, portAt x.1 side)).map nD).getD (.int 0)) = nD ((aget w (x.2, portAt x.1 side)).getD 0) := by
        cases aget w (x.2, portAt x.1 side) <;> rfl
      unfold cstep
      generalize (aget w (x.2, portAt x.1 side)).getD 0 = k at *
      generalize aset w (x.2, portAt x.1 side) (k + 1) = w2 at *
      simp only [tD2] at hg hp ⊢
      generalize hW : List.map (trow nD) w = W at *
      generalize hW2 : List.map (trow nD) w2 = W2 at *
      have hn : ((k + 1 : Nat) : Int) = (k : Int) + 1 := by omega
      simp only [nD, hn] at hp
      generalize (aget w (x.2, portAt x.1 side)).map nD = o at *
      refine ⟨_, _, by simp [put_j q_cell, put_j q_slot, put_j q_key]; rfl, ?_, some (cD x.1, .sh), some (.int x.2, .sh), some (.tuple [.int x.2, .int (portAt x.1 side)], .sh), jk_h, jk_h, jk_h, rfl⟩
      · simp [b0_loads_of, put_j q_cell, put_j q_slot, put_j q_key, hg, hp, hix, hcast, isDic, show 2 ≤ lim by decide]) (cs.zip ws) [] rfl [some (csD cs, .sh), some (iD ws, .sh), some (.int ((side : Nat) : Int), .sh), some (tD2 nD ([]), .ow), none, none, none] ⟨none, none, none, jk_n, jk_n, jk_n, rfl⟩
  have hz := zipD_map cD PyData.int cs ws
  rw [← hz] at h1
  unfold cnt lkeys
  generalize ((cs.zip ws).map fun x => (x.2, portAt x.1 side)).foldl cstep [] = w at *
  have h1' : fl (gT (gsC (gN 4) (gsC (gN 5) gsN)) 2) b0_loads_of (zipD (cs.map cD) (ws.map PyData.int)) [some (csD cs, .sh), some (iD ws, .sh), some (.int (side : Int), .sh), some (.dict [(.none, .none)], .ow), none, none, none] = _ := h1
  simp [m_loads_of, eDt, h1']
def maxL : List Int → Int
  | [] => 0
  | n :: r => r.foldl max n
theorem foldl_max_le {p : Int} : ∀ (r : List Int) (n : Int), r.foldl max n ≤ p ↔ n ≤ p ∧ ∀ x ∈ r, x ≤ p
  | [], n => by simp
  | y :: r, n => by
    rw [List.foldl_cons, foldl_max_le r]
    simp only [List.mem_cons, forall_eq_or_imp, Int.max_le, and_assoc]
theorem maxL_le {p : Int} (hp : 0 ≤ p) (l : List Int) : maxL l ≤ p ↔ ∀ x ∈ l, x ≤ p := by
  cases l with
  | nil => simp [maxL, hp]
  | cons n r =>
    show r.foldl max n ≤ p ↔ _
    rw [foldl_max_le]
    simp
theorem foldl_max_ge : ∀ (r : List Int) (n : Int), n ≤ r.foldl max n
  | [], n => Int.le_refl n
  | y :: r, n => by
    have := foldl_max_ge r (max n y)
    rw [List.foldl_cons]
    omega
theorem maxL_nonneg {l : List Int} (h : ∀ x ∈ l, 0 ≤ x) : 0 ≤ maxL l := by
  cases l with
  | nil => exact Int.le_refl 0
  | cons n r =>
    have := foldl_max_ge r n
    have := h n List.mem_cons_self
    show 0 ≤ r.foldl max n
    omega
/-- the greatest load of a side -/
def mload (cs : List Cell) (w : List Int) (side : Nat) : Int := maxL ((cnt (lkeys cs w side)).map fun e => (e.2 : Int))
theorem mload_le {cs : List Cell} {w : List Int} {side : Nat} {p : Int} (hp : 0 ≤ p) : mload cs w side ≤ p ↔ ∀ s e, (load cs w side s e : Int) ≤ p := by
  unfold mload
  rw [maxL_le hp]
  constructor
  · intro h s e
    rw [load_count]
    by_cases hk : (s, e) ∈ lkeys cs w side
    · exact h _ (List.mem_map.mpr ⟨((s, e), ctk (lkeys cs w side) (s, e)), mem_cnt'.mpr ⟨hk, rfl⟩, rfl⟩)
    · rw [ctk_zero hk]
      exact hp
  · intro h x hx
    obtain ⟨⟨⟨s, e⟩, n⟩, hn, rfl⟩ := List.mem_map.mp hx
    obtain ⟨h1, rfl⟩ := mem_cnt'.mp hn
    have := h s e
    rw [load_count] at this
    exact this
theorem mload_nonneg (cs : List Cell) (w : List Int) (side : Nat) : 0 ≤ mload cs w side := maxL_nonneg fun x hx => by
  obtain ⟨e, _, rfl⟩ := List.mem_map.mp hx
  omega
theorem opMaxV_t (w : List ((Int × Int) × Nat)) : opMaxV (.int 0) (tD2 nD w) = some (.int (maxL (w.map fun e => (e.2 : Int))), .sh) := by
  have h : opMaxV (.int 0) (tD2 nD w) = (intsD ((w.map (trow nD)).map (·.2))).map fun ns => match ns with
    | n :: r => (.int (r.foldl max n), .sh)
    | [] => (.int 0, .sh) := rfl
  have e : (w.map (trow nD)).map (·.2) = (w.map fun e => (e.2 : Int)).map PyData.int := by
    rw [List.map_map, List.map_map]
    rfl
  rw [h, e, intsD_map]
  cases w.map fun e => (e.2 : Int) <;> rfl
theorem speeds_with_ok {cs : List Cell} (hc : cs.length ≤ 60) (ws : List Int) : m_speeds_with [csD cs, iD ws] = some (.tuple [.int (mload cs ws 1), .int (mload cs ws 2)], .sh) := by
  have h1 : m_loads_of [csD cs, iD ws, .int 1] = _ := loads_of_ok hc ws (side := 1) (.inl rfl)
  have h2 : m_loads_of [csD cs, iD ws, .int 2] = _ := loads_of_ok hc ws (side := 2) (.inr rfl)
  have g1 := opMaxV_t (cnt (lkeys cs ws 1))
  have g2 := opMaxV_t (cnt (lkeys cs ws 2))
  unfold mload
  generalize cnt (lkeys cs ws 1) = w1 at *
  generalize cnt (lkeys cs ws 2) = w2 at *
  simp only [tD2] at *
  generalize maxL (w1.map fun e => (e.2 : Int)) = m1 at *
  generalize maxL (w2.map fun e => (e.2 : Int)) = m2 at *
  generalize w1.map (trow nD) = W1 at *
  generalize w2.map (trow nD) = W2 at *
  simp [m_speeds_with, eLc, cV, lcl_cons, h1, h2, g1, g2, fTuple, show 2 ≤ lim by decide]
/-- crossing slots -/
structure CrossOk (cs : List Cell) (ws : List Int) : Prop where
  len : ws.length = cs.length
  each : ∀ (i : Nat) c s, cs[i]? = some c → ws[i]? = some s → c.1 ≤ s ∧ s ≤ 10 ^ 31 - 1
theorem enumD_map {α : Type} (f : α → D) (xs : List α) : enumD (xs.map f) = xs.zipIdx.map fun p => .tuple [nD p.2, f p.1] := by
  unfold enumD
  rw [List.zipIdx_map, List.map_map]
  rfl
theorem slots_fault_ok {cs : List Cell} (hc : cs.length ≤ 60) {ws : List Int} (h : CrossOk cs ws) : m_slots_fault [csD cs, iD ws] = some (.tuple [], .sh) := by
  have hlen := h.len
  obtain ⟨e', h1, j_index, j_slot, q_index, q_slot, rfl⟩ := fl_pre (enc := fun x : Int × Nat => PyData.tuple [nD x.2, .int x.1]) (g := gT (gsC (gN 2) (gsC (gN 3) gsN)) 2) (b := b0_slots_fault) (cs := ws.zipIdx) (fun pre (e : Ev) => (∃ j_index j_slot, Jk j_index ∧ Jk j_slot ∧ e = [some (csD cs, .sh), some (iD ws, .sh), j_index, j_slot]))
    (fun pre x post he e ⟨j_index, j_slot, q_index, q_slot, q_env⟩ => by
      subst q_env
      have hx : x ∈ ws.zipIdx := by rw [he]; simp
      obtain ⟨s, i⟩ := x
      have h3 := List.mem_zipIdx_iff_getElem?.mp hx
      have hic : i < cs.length := by
        have := (List.getElem?_eq_some_iff.mp h3).1
        omega
      have h4 := h.each i _ _ (List.getElem?_eq_getElem hic) h3
      have hix : dIxA (csD cs) (nD i) = some (cD cs[i], .sh) := ixA_l (by simp [hic])
      refine ⟨_, _, by simp [put_j q_index, put_j q_slot]; rfl, ?_, some (nD i, .sh), some (.int s, .sh), jk_h, jk_h, rfl⟩
      generalize hcc : cs[i] = c at *
      have hc0 : dIxA (cD c) (.int 0) = some (.int c.1, .sh) := ixA_t (i := 0) rfl
      simp [b0_slots_fault, hix, hc0, h4.1, show s ≤ 9999999999999999999999999999999 from h4.2]) _ [] rfl [some (csD cs, .sh), some (iD ws, .sh), none, none] ⟨none, none, jk_n, jk_n, rfl⟩
  rw [← enumD_map] at h1
  simp [m_slots_fault, hlen, h1]
theorem need_crossings_ok {n : Int} (hn : 1 ≤ n ∧ n ≤ 8) {cs : List Cell} (hc : CellsOk n cs) {ws : List Int} (h : CrossOk cs ws) : m_need_crossings [.int n, csD cs, iD ws] = some (.none, .sh) := by
  have h1 := slots_fault_ok hc.few h
  have h2 := need_cells_ok hn hc
  simp [m_need_crossings, m_check_crossings, h1, h2]
theorem keeps_speeds_ok {n : Int} (hn : 1 ≤ n ∧ n ≤ 8) {cs : List Cell} (hc : CellsOk n cs) {ws : List Int} (h : CrossOk cs ws) {p q : Int} (hp : SpeedsOk p q) : m_keeps_speeds [.int n, csD cs, iD ws, .tuple [.int p, .int q]] = some (.bool (decide (mload cs ws 1 ≤ p) && decide (mload cs ws 2 ≤ q)), .sh) := by
  have h1 := need_crossings_ok hn hc h
  have h2 := need_speeds_ok hp
  have h3 := speeds_with_ok hc.few ws
  by_cases hm : mload cs ws 1 ≤ p
  · simp [m_keeps_speeds, h1, h2, h3, hm]
  · simp [m_keeps_speeds, h1, h2, h3, hm]
theorem keeps_mload {cs : List Cell} {ws : List Int} {p q : Int} (hp : SpeedsOk p q) : Keeps cs p q ws ↔ mload cs ws 1 ≤ p ∧ mload cs ws 2 ≤ q := by
  rw [mload_le (by have := hp.1.1; omega), mload_le (by have := hp.2.1; omega)]
  unfold Keeps
  constructor
  · intro h
    exact ⟨fun s e => (h s e).1, fun s e => (h s e).2⟩
  · intro h s e
    exact ⟨h.1 s e, h.2 s e⟩
/-- a plan for a row -/
def planB (cs : List Cell) (row v : List Int) : Bool := decide (v.length = cs.length) && (v.zip (cs.zip row)).all fun x => decide (x.2.1.1 ≤ x.1) && decide (x.1 ≤ x.2.2)
theorem zip3_map {α β γ : Type} (f : α → D) (g : β → D) (h : γ → D) : ∀ (xs : List α) (ys : List β) (zs : List γ), zip3D (xs.map f) (ys.map g) (zs.map h) = (xs.zip (ys.zip zs)).map fun p => .tuple [f p.1, g p.2.1, h p.2.2]
  | x :: xs, y :: ys, z :: zs => by
    have ih := zip3_map f g h xs ys zs
    simp [zip3D, ih]
  | [], _, _ => by simp [zip3D]
  | _ :: _, [], _ => by simp [zip3D]
  | _ :: _, _ :: _, [] => by simp [zip3D]
theorem is_plan_for_ok {cs : List Cell} (hc : cs.length ≤ 60) (row v : List Int) : m_is_plan_for [csD cs, iD row, iD v] = some (.bool (planB cs row v), .sh) := by
  unfold planB
  by_cases hl : v.length = cs.length
  · have h1 := lcl_all (enc := fun p : Int × Cell × Int => PyData.tuple [.int p.1, cD p.2.1, .int p.2.2]) (vs := [3, 4, 5]) (g := gT (gsC (gN 3) (gsC (gN 4) (gsC (gN 5) gsN))) 3) (m := eCall m_is_integer (aC (oV 3) (aC (oE (e2 dIxA (oV 4) (oE (eC (.int 0))))) (aC (oV 5) aN)))) (e := [some (csD cs, .sh), some (iD row, .sh), some (iD v, .sh), none, none, none]) (fun p => .bool (decide (p.2.1.1 ≤ p.1) && decide (p.1 ≤ p.2.2))) (v.zip (cs.zip row)) fun p _ => by
      have hc0 : dIxA (cD p.2.1) (.int 0) = some (.int p.2.1.1, .sh) := ixA_t (i := 0) rfl
      refine ⟨_, .sh, _, by simp; rfl, by simp [hc0]; rfl, by simp⟩
    have hm : ((v.zip (cs.zip row)).map fun p => PyData.bool (decide (p.2.1.1 ≤ p.1) && decide (p.1 ≤ p.2.2))) = ((v.zip (cs.zip row)).map fun p => decide (p.2.1.1 ≤ p.1) && decide (p.1 ≤ p.2.2)).map PyData.bool := by
      rw [List.map_map]
      rfl
    rw [hm] at h1
    have hll : ((v.zip (cs.zip row)).map fun p => decide (p.2.1.1 ≤ p.1) && decide (p.1 ≤ p.2.2)).length ≤ lim := by
      rw [List.length_map, List.length_zip]
      unfold lim
      omega
    have hz := zip3_map PyData.int cD PyData.int v cs row
    have ha : ((v.zip (cs.zip row)).map fun p => decide (p.2.1.1 ≤ p.1) && decide (p.1 ≤ p.2.2)).all id = (v.zip (cs.zip row)).all fun p => decide (p.2.1.1 ≤ p.1) && decide (p.1 ≤ p.2.2) := by
      rw [List.all_map]
      rfl
    rw [← hz] at h1
    rw [← ha]
    generalize ((v.zip (cs.zip row)).map fun p => decide (p.2.1.1 ≤ p.1) && decide (p.1 ≤ p.2.2)) = bs at *
    have ha2 := fAll_ints (bs := bs)
    generalize bs.all id = b at *
    simp [m_is_plan_for, eLc, hl, h1, hll, ha2]
  · have hl2 : ¬ (v.length : Int) = (cs.length : Int) := by omega
    simp [m_is_plan_for, hl, hl2]
theorem is_plan_ok {n : Int} {cs : List Cell} {row : List Int} (h : Good n cs row) (v : List Int) : m_is_plan [.int n, csD cs, iD row, iD v] = some (.bool (planB cs row v), .sh) := by
  have h1 := need_row_ok h
  have h2 := is_plan_for_ok h.cells.few row v
  simp [m_is_plan, h1, h2]
end Gn
namespace Gn
open PySem PySem.Spec PyProof.Rows L2 Dd
theorem log2_abs {a : Int} {k : Nat} (h : a.natAbs ≤ 2 ^ k) : a.natAbs.log2 < k + 1 := log2_lt' h
theorem dMul_ok {a b : Int} (ha : a.natAbs ≤ 2 ^ 9000) (hb : b.natAbs ≤ 2 ^ 9000) : dMul (.int a) (.int b) = some (.int (a * b), .sh) := by
  have h1 := log2_abs ha
  have h2 := log2_abs hb
  show (if a.natAbs.log2 + b.natAbs.log2 < 1000000 then (some (PyData.int (a * b), Tg.sh) : Option Res) else none) = _
  rw [if_pos (by omega)]
theorem dPow3_ok {a : Int} (ha : a.natAbs ≤ 2 ^ 9000) : dPow (.int a) (.int 3) = some (.int (a ^ 3), .sh) := by
  have h1 := log2_abs ha
  show (if 0 ≤ (3 : Int) ∧ ((a.natAbs.log2 + 1 : Nat) : Int) * 3 ≤ 100000000 then (some (PyData.int (a ^ (3 : Int).toNat), Tg.sh) : Option Res) else none) = _
  rw [if_pos ⟨by decide, by omega⟩]
  rfl
theorem dMod_ok {a b : Int} (h : 0 < b) : dMod (.int a) (.int b) = some (.int (a % b), .sh) := by
  show (if 0 < b then (some (PyData.int (a % b), Tg.sh) : Option Res) else none) = _
  rw [if_pos h]
theorem dDiv_ok {a b : Int} (h : 0 < b) (hb : b.natAbs ≤ 2 ^ 8000) : dDiv (.int a) (.int b) = some (.int (a / b), .sh) := by
  have h1 := log2_abs hb
  show (if 0 < b ∧ b.natAbs.log2 < 9000 then (some (PyData.int (a / b), Tg.sh) : Option Res) else none) = _
  rw [if_pos ⟨h, by omega⟩]
theorem le_pow {x i : Nat} (j : Nat) (h : x ≤ 2 ^ i) (hij : i ≤ j) : x ≤ 2 ^ j := Nat.le_trans h (Nat.pow_le_pow_right (by decide) hij)
/-- a law's source after at most k mixed draws -/
def Src (k : Nat) (d : D) : Prop := ∃ a b c : Int, d = .list [.int a, .int b, .int c] ∧ 0 ≤ a ∧ b.natAbs ≤ 2 ^ 200 ∧ 0 ≤ c ∧ c ≤ (k : Int)
theorem Src.mono {k l : Nat} {d : D} (h : Src k d) (hl : k ≤ l) : Src l d := by
  obtain ⟨a, b, c, e, h1, h2, h3, h4⟩ := h
  exact ⟨a, b, c, e, h1, h2, h3, by omega⟩
theorem ix3_0 {a b c : D} : dIxA (.list [a, b, c]) (.int 0) = some (a, .sh) := ixA_l (i := 0) rfl
theorem ix3_1 {a b c : D} : dIxA (.list [a, b, c]) (.int 1) = some (b, .sh) := ixA_l (i := 1) rfl
theorem ix3_2 {a b c : D} : dIxA (.list [a, b, c]) (.int 2) = some (c, .sh) := ixA_l (i := 2) rfl
theorem fInt_i {i : Int} : fInt [.int i] = some (.int i, .sh) := rfl
theorem fInt_b {b : Bool} : fInt [.bool b] = some (.int (if b then 1 else 0), .sh) := rfl
theorem mix_lt {x m : Int} {k : Nat} (hm : 0 < m) (hk : m.toNat ≤ 2 ^ k) : (x % m).natAbs ≤ 2 ^ k := by
  have h1 := Int.emod_nonneg x (by omega : m ≠ 0)
  have h2 := Int.emod_lt_of_pos x hm
  omega
theorem abs_mul_le {a b : Int} {i j : Nat} (ha : a.natAbs ≤ 2 ^ i) (hb : b.natAbs ≤ 2 ^ j) : (a * b).natAbs ≤ 2 ^ (i + j) := by
  rw [Int.natAbs_mul, Nat.pow_add]
  exact Nat.mul_le_mul ha hb
theorem abs_add_le {a b : Int} {i : Nat} (ha : a.natAbs ≤ 2 ^ i) (hb : b.natAbs ≤ 2 ^ i) : (a + b).natAbs ≤ 2 ^ (i + 1) := by
  rw [Nat.pow_succ]
  omega
theorem seq_nx {a b : SM} {e e' : Ev} (h : a e = some (.nx e')) : sSeq a b e = b e' := by
  show (a e).bind _ = _
  rw [h]
  rfl
theorem draw_s6 {b c n : Int} : (altS (sStL 0 (eC (.int 2)) (e2 dAdd (oE (e2 dIxA (oV 0) (oE (eC (.int 2))))) (oE (eC (.int 1))))) (sStD 0 (eSh (eC (.int 2))) (e2 dAdd (oE (e2 dIxA (oV 0) (oE (eC (.int 2))))) (oE (eC (.int 1)))))) [some (.list [.int 0, .int b, .int c], .io), some (.int n, .sh), none, none] = some (.nx [some (.list [.int 0, .int b, .int (c + 1)], .io), some (.int n, .sh), none, none]) := by
  have g3 : L2.ixN 3 2 = some 2 := rfl
  simp [ix3_0, ix3_1, ix3_2, g3]
theorem draw_s7 {b c n z1 z2 x y w r : Int} (mul pw md dv : D → D → Option Res) (h1 : mul (.int 800011) (.int (c + 1)) = some (.int (800011 * (c + 1)), .sh)) (h2 : pw (.int (b + 800011 * (c + 1))) (.int 3) = some (.int z1, .sh)) (p38 : pw (.int 10) (.int 38) = some (.int 100000000000000000000000000000000000000, .sh)) (h3 : md (.int z1) (.int 100000000000000000000000000000000000133) = some (.int x, .sh)) (h4 : mul (.int x) (.int (c + 1)) = some (.int (x * (c + 1)), .sh)) (h5 : pw (.int (x * (c + 1) + 70051)) (.int 3) = some (.int z2, .sh)) (p40 : pw (.int 10) (.int 40) = some (.int 10000000000000000000000000000000000000000, .sh)) (h6 : md (.int z2) (.int 10000000000000000000000000000000000000121) = some (.int y, .sh)) (h7 : dv (.int y) (.int 98317) = some (.int w, .sh)) (h8 : md (.int w) (.int n) = some (.int r, .sh)) : (sSet 3 (e2 md (oE (eN fInt (aC (oE (e2 pw (oE (e2 dAdd (oE (e2 dIxA (oV 0) (oE (eC (.int 1))))) (oE (e2 mul (oE (eC (.int 800011))) (oE (e2 dIxA (oV 0) (oE (eC (.int 2))))))))) (oE (eC (.int 3))))) aN))) (oE (e2 dAdd (oE (e2 pw (oE (eC (.int 10))) (oE (eC (.int 38))))) (oE (eC (.int 133))))))) [some (.list [.int 0, .int b, .int (c + 1)], .io), some (.int n, .sh), none, none] = some (.nx [some (.list [.int 0, .int b, .int (c + 1)], .io), some (.int n, .sh), none, some (.int x, .sh)]) := by
  simp [ix3_0, ix3_1, ix3_2, fInt_i, h1, h2, p38, h3]
theorem draw_s8 {b c n z1 z2 x y w r : Int} (mul pw md dv : D → D → Option Res) (h1 : mul (.int 800011) (.int (c + 1)) = some (.int (800011 * (c + 1)), .sh)) (h2 : pw (.int (b + 800011 * (c + 1))) (.int 3) = some (.int z1, .sh)) (p38 : pw (.int 10) (.int 38) = some (.int 100000000000000000000000000000000000000, .sh)) (h3 : md (.int z1) (.int 100000000000000000000000000000000000133) = some (.int x, .sh)) (h4 : mul (.int x) (.int (c + 1)) = some (.int (x * (c + 1)), .sh)) (h5 : pw (.int (x * (c + 1) + 70051)) (.int 3) = some (.int z2, .sh)) (p40 : pw (.int 10) (.int 40) = some (.int 10000000000000000000000000000000000000000, .sh)) (h6 : md (.int z2) (.int 10000000000000000000000000000000000000121) = some (.int y, .sh)) (h7 : dv (.int y) (.int 98317) = some (.int w, .sh)) (h8 : md (.int w) (.int n) = some (.int r, .sh)) : (sSet 3 (e2 md (oE (eN fInt (aC (oE (e2 pw (oE (e2 dAdd (oE (e2 mul (oV 3) (oE (e2 dIxA (oV 0) (oE (eC (.int 2))))))) (oE (eC (.int 70051))))) (oE (eC (.int 3))))) aN))) (oE (e2 dAdd (oE (e2 pw (oE (eC (.int 10))) (oE (eC (.int 40))))) (oE (eC (.int 121))))))) [some (.list [.int 0, .int b, .int (c + 1)], .io), some (.int n, .sh), none, some (.int x, .sh)] = some (.nx [some (.list [.int 0, .int b, .int (c + 1)], .io), some (.int n, .sh), none, some (.int y, .sh)]) := by
  simp [ix3_0, ix3_1, ix3_2, fInt_i, h4, h5, p40, h6]
theorem draw_s9 {b c n z1 z2 x y w r : Int} (mul pw md dv : D → D → Option Res) (h1 : mul (.int 800011) (.int (c + 1)) = some (.int (800011 * (c + 1)), .sh)) (h2 : pw (.int (b + 800011 * (c + 1))) (.int 3) = some (.int z1, .sh)) (p38 : pw (.int 10) (.int 38) = some (.int 100000000000000000000000000000000000000, .sh)) (h3 : md (.int z1) (.int 100000000000000000000000000000000000133) = some (.int x, .sh)) (h4 : mul (.int x) (.int (c + 1)) = some (.int (x * (c + 1)), .sh)) (h5 : pw (.int (x * (c + 1) + 70051)) (.int 3) = some (.int z2, .sh)) (p40 : pw (.int 10) (.int 40) = some (.int 10000000000000000000000000000000000000000, .sh)) (h6 : md (.int z2) (.int 10000000000000000000000000000000000000121) = some (.int y, .sh)) (h7 : dv (.int y) (.int 98317) = some (.int w, .sh)) (h8 : md (.int w) (.int n) = some (.int r, .sh)) : (sRet (e2 md (oE (eN fInt (aC (oE (e2 dv (oV 3) (oE (eC (.int 98317))))) aN))) (oV 1))) [some (.list [.int 0, .int b, .int (c + 1)], .io), some (.int n, .sh), none, some (.int y, .sh)] = some (.rt (.int r) .sh [some (.list [.int 0, .int b, .int (c + 1)], .io), some (.int n, .sh), none, some (.int y, .sh)]) := by
  simp [ix3_0, ix3_1, ix3_2, fInt_i, h7, h8]
theorem draw_ok {k : Nat} {src : D} (h : Src k src) (hk : k < 2 ^ 100) {n : Int} (hn : 1 ≤ n) (hb : n.natAbs ≤ 2 ^ 8000) :
    ∃ r src', m__law_draw src [.int n] = some ((.int r, .sh), src') ∧ 0 ≤ r ∧ r < n ∧ Src (k + 1) src' := by
  obtain ⟨a, b, c, rfl, h1, h2, h3, h4⟩ := h
  by_cases ha : 0 < a
  · refine ⟨a % n, .list [.int (a / n), .int b, .int c], ?_, Int.emod_nonneg _ (by omega), Int.emod_lt_of_pos _ (by omega), a / n, b, c, rfl, Int.ediv_nonneg h1 (by omega), h2, h3, by omega⟩
    have g1 := dMod_ok (a := a) (b := n) (by omega)
    have g2 := dDiv_ok (a := a) (b := n) (by omega) hb
    have g3 : L2.ixN 3 0 = some 0 := rfl
    unfold m__law_draw
    generalize dMul = mul' at *
    generalize dPow = pow' at *
    generalize dMod = mod' at *
    generalize dDiv = div' at *
    simp [mFnI, ev0I, ix3_0, ha, fInt_i, g1, g2, g3]
  · have ha0 : a = 0 := by omega
    subst ha0
    have hc : (c + 1).natAbs ≤ 2 ^ 101 := by
      have : ((2 ^ 100 : Nat) : Int) = 2 ^ 100 := by simp
      omega
    have k1 := dMul_ok (a := 800011) (b := c + 1) (le_pow (i := 20) 9000 (by decide) (by decide)) (le_pow (i := 101) 9000 hc (by decide))
    have l1 : (b + 800011 * (c + 1)).natAbs ≤ 2 ^ 201 := abs_add_le h2 (le_pow (i := 20 + 101) 200 (abs_mul_le (i := 20) (j := 101) (by decide) hc) (by decide))
    have k2 := dPow3_ok (le_pow (i := 201) 9000 l1 (by decide))
    have p38 : dPow (.int 10) (.int 38) = some (.int 100000000000000000000000000000000000000, .sh) := rfl
    have p40 : dPow (.int 10) (.int 40) = some (.int 10000000000000000000000000000000000000000, .sh) := rfl
    have k3 := dMod_ok (a := (b + 800011 * (c + 1)) ^ 3) (b := 100000000000000000000000000000000000133) (by decide)
    have l3 : ((b + 800011 * (c + 1)) ^ 3 % 100000000000000000000000000000000000133).natAbs ≤ 2 ^ 200 := mix_lt (by decide) (by decide)
    generalize (b + 800011 * (c + 1)) ^ 3 = z1 at *
    generalize z1 % 100000000000000000000000000000000000133 = x at *
    have k4 := dMul_ok (le_pow (i := 200) 9000 l3 (by decide)) (le_pow (i := 101) 9000 hc (by decide))
    have l4 : (x * (c + 1) + 70051).natAbs ≤ 2 ^ 302 := abs_add_le (abs_mul_le l3 hc) (le_pow (i := 20) 301 (by decide) (by decide))
    have k5 := dPow3_ok (le_pow (i := 302) 9000 l4 (by decide))
    have k6 := dMod_ok (a := (x * (c + 1) + 70051) ^ 3) (b := 10000000000000000000000000000000000000121) (by decide)
    generalize (x * (c + 1) + 70051) ^ 3 = z2 at *
    generalize z2 % 10000000000000000000000000000000000000121 = y at *
    have k7 := dDiv_ok (a := y) (b := 98317) (by decide) (le_pow (i := 20) 8000 (by decide) (by decide))
    generalize y / 98317 = w at *
    have k8 := dMod_ok (a := w) (b := n) (by omega)
    have r1 := Int.emod_nonneg w (show n ≠ 0 by omega)
    have r2 := Int.emod_lt_of_pos w (show 0 < n by omega)
    generalize w % n = r at *
    have g3 : L2.ixN 3 2 = some 2 := rfl
    refine ⟨r, .list [.int 0, .int b, .int (c + 1)], ?_, r1, r2, 0, b, c + 1, rfl, Int.le_refl 0, h2, by omega, by omega⟩
    have s0 : (sIf (tB (e2 dGt (oE (e2 dIxA (oV 0) (oE (eC (.int 0))))) (oE (eC (.int 0)))))
        (sSeq (sSet 2 (e2 dMod (oE (eN fInt (aC (oE (e2 dIxA (oV 0) (oE (eC (.int 0))))) aN))) (oV 1)))
        (sSeq (altS (sStL 0 (eC (.int 0)) (e2 dDiv (oE (e2 dIxA (oV 0) (oE (eC (.int 0))))) (oV 1))) (sStD 0 (eSh (eC (.int 0))) (e2 dDiv (oE (e2 dIxA (oV 0) (oE (eC (.int 0))))) (oV 1))))
        (sRet (eMv 2)))) sNx) [some (.list [.int 0, .int b, .int c], .io), some (.int n, .sh), none, none] = some (.nx [some (.list [.int 0, .int b, .int c], .io), some (.int n, .sh), none, none]) := by
      simp [ix3_0]
    have hall := (seq_nx s0).trans ((seq_nx draw_s6).trans ((seq_nx (draw_s7 dMul dPow dMod dDiv k1 k2 p38 k3 k4 k5 p40 k6 k7 k8)).trans ((seq_nx (draw_s8 dMul dPow dMod dDiv k1 k2 p38 k3 k4 k5 p40 k6 k7 k8)).trans (draw_s9 dMul dPow dMod dDiv k1 k2 p38 k3 k4 k5 p40 k6 k7 k8))))
    unfold m__law_draw mFnI
    rw [if_pos (by rfl)]
    exact (congrArg (fun o => Option.bind o _) hall).trans rfl
theorem fAbs_i {i : Int} : fAbs [.int i] = some (.int i.natAbs, .sh) := by
  have h : fAbs [.int i] = some (.int (if i < 0 then -i else i), .sh) := rfl
  rw [h]
  congr 3
  split <;> omega
theorem source_ok (cell k : Int) (hk : 0 ≤ k) (hk2 : k ≤ 63) : ∃ src, m__law_source [.int cell, .int k] = some (src, .ow) ∧ Src 0 src := by
  have p18 : dPow (.int 10) (.int 18) = some (.int 1000000000000000000, .sh) := rfl
  have p45 : dPow (.int 10) (.int 45) = some (.int 1000000000000000000000000000000000000000000000, .sh) := rfl
  have e1 := dMod_ok (a := (cell.natAbs : Int)) (b := 1000000000000000000000000000000000000000000009) (by decide)
  have l1 : ((cell.natAbs : Int) % 1000000000000000000000000000000000000000000009).natAbs ≤ 2 ^ 151 := mix_lt (by decide) (by decide)
  generalize (cell.natAbs : Int) % 1000000000000000000000000000000000000000000009 = x at *
  have e2 := dMul_ok (a := x) (b := 83) (le_pow (i := 151) 9000 l1 (by decide)) (le_pow (i := 7) 9000 (by decide) (by decide))
  have l2 : (x * 83).natAbs ≤ 2 ^ 158 := abs_mul_le (i := 151) (j := 7) l1 (by decide)
  have e3 := dMul_ok (a := 2) (b := k) (le_pow (i := 1) 9000 (by decide) (by decide)) (le_pow (i := 6) 9000 (by omega) (by decide))
  refine ⟨.list [.int (if 0 < (cell.natAbs : Int) - 10 ^ 18 then (cell.natAbs : Int) - 10 ^ 18 else 0), .int (x * 83 + 2 * k + if cell < 0 then 1 else 0), .int 0], ?_, _, _, _, rfl, ?_, ?_, Int.le_refl 0, Int.le_refl 0⟩
  · unfold m__law_source
    generalize dMul = mul' at *
    generalize dPow = pow' at *
    generalize dMod = mod' at *
    simp [fAbs_i, p18, p45, fInt_i, fInt_b, e1, e2, e3, show 3 ≤ lim by decide, fMax2]
  · split <;> omega
  · refine le_pow (i := 160) 200 ?_ (by decide)
    have h7 : (2 : Nat) ^ 160 = 2 ^ 158 * 4 := by rw [show 160 = 158 + 2 from rfl, Nat.pow_add]
    have h8 : (2 : Nat) ^ 158 ≥ 2 ^ 10 := Nat.pow_le_pow_right (by decide) (by decide)
    generalize (2 : Nat) ^ 158 = t at *
    split <;> omega
end Gn
namespace Gn
open PySem PySem.Spec PyProof.Rows L2 Dd
theorem cut_take (xs : List D) {m : Int} (hm : 0 ≤ m) : Dd.cutD xs none (some m) = xs.take m.toNat := by
  unfold Dd.cutD
  have h1 : HT.sIx xs.length 0 none = 0 := rfl
  have h2 : HT.sIx xs.length xs.length (some m) = min m.toNat xs.length := by
    unfold HT.sIx
    simp only
    split <;> omega
  rw [h1, h2, Nat.sub_zero, List.drop_zero]
  rcases Nat.le_total m.toNat xs.length with h | h
  · rw [Nat.min_eq_left h]
  · rw [Nat.min_eq_right h, List.take_of_length_le (Nat.le_refl _), List.take_of_length_le h]
theorem sl_take (xs : List Int) {m : Int} (hm : 0 ≤ m) : dSl (.list (xs.map PyData.int)) none (some m) = some (.list ((xs.take m.toNat).map PyData.int), .ow) := by
  show some (PyData.list (Dd.cutD _ none (some m)), Tg.ow) = _
  rw [cut_take _ hm, List.map_take]
/-- the cells of the script that a law walks -/
theorem items_ok (ns : List Int) (K : Int) (hK : 1 ≤ K) : ∃ xs : List Int, xs.length ≤ K.toNat ∧
    dSl (.list (ns.map PyData.int ++ [.int 0])) none (some (if 1 < (if K < (ns.length : Int) then K else (ns.length : Int)) then (if K < (ns.length : Int) then K else (ns.length : Int)) else 1)) = some (.list (xs.map PyData.int), .ow) := by
  have e : ns.map PyData.int ++ [.int 0] = (ns ++ [0]).map PyData.int := by simp
  generalize hm : (if 1 < (if K < (ns.length : Int) then K else (ns.length : Int)) then (if K < (ns.length : Int) then K else (ns.length : Int)) else 1) = m
  have h0 : 0 ≤ m ∧ m ≤ K := by
    subst hm
    split <;> split <;> omega
  refine ⟨(ns ++ [0]).take m.toNat, ?_, by rw [e, sl_take _ h0.1]⟩
  rw [List.length_take]
  omega
end Gn
namespace Gn
open PySem PySem.Spec PyProof.Rows L2 Dd
@[simp] theorem x_opRev {xs : List D} : opRev (.list xs) = some (.list xs.reverse, .ow) := rfl
/-- the cells of a port -/
def cellsAt (cs : List Cell) (side : Nat) (o : Int) : List Nat := (List.range cs.length).filter fun i => decide (portAt (cellI cs i) side = o)
abbrev cellsTo (cs : List Cell) (o : Int) : List Nat := cellsAt cs 2 o
abbrev cellsFrom (cs : List Cell) (o : Int) : List Nat := cellsAt cs 1 o
theorem zipIdx_range (cs : List Cell) : cs.zipIdx = (List.range cs.length).map fun i => (cellI cs i, i) := by
  refine List.ext_getElem (by simp) fun i h1 h2 => ?_
  have hi : i < cs.length := by simpa using h1
  simp [cellI, hi]
theorem cellsAt_zip (cs : List Cell) (side : Nat) (o : Int) : (cs.zipIdx.filter fun p => decide (portAt p.1 side = o)).map (fun p => nD p.2) = (cellsAt cs side o).map nD := by
  unfold cellsAt
  rw [zipIdx_range, List.filter_map, List.map_map]
  rfl
theorem mem_cellsAt {cs : List Cell} {side : Nat} {o : Int} {i : Nat} : i ∈ cellsAt cs side o ↔ i < cs.length ∧ portAt (cellI cs i) side = o := by
  unfold cellsAt
  rw [List.mem_filter, List.mem_range, decide_eq_true_eq]
theorem cellsAt_len (cs : List Cell) (side : Nat) (o : Int) : (cellsAt cs side o).length ≤ cs.length := by
  have := List.length_filter_le (fun i => decide (portAt (cellI cs i) side = o)) (List.range cs.length)
  rw [List.length_range] at this
  exact this
theorem cellsAt_nodup (cs : List Cell) (side : Nat) (o : Int) : (cellsAt cs side o).Nodup := List.nodup_range.filter _
theorem cells_to_ok {cs : List Cell} (hc : cs.length ≤ 60) (o : Int) : m_cells_to [csD cs, .int o] = some (nsD (cellsTo cs o), .ow) := by
  have h1 := lcl_map (enc := fun p : Cell × Nat => PyData.tuple [nD p.2, cD p.1]) (vs := [2, 3]) (g := gT (gsC (gN 2) (gsC (gN 3) gsN)) 2) (t := tB (e2 dEq (oE (e2 dIxA (oV 3) (oE (eC (.int 2))))) (oV 1))) (m := eV 2) (e := [some (csD cs, .sh), some (.int o, .sh), none, none]) (fun p => decide (portAt p.1 2 = o)) (fun p => nD p.2) cs.zipIdx fun p _ => by
    have hx : dIxA (cD p.1) (.int 2) = some (.int (portAt p.1 2), .sh) := ixA_t (i := 2) rfl
    refine ⟨_, by simp; rfl, _, by simp [hx]; rfl, by simp, fun _ => ⟨.sh, _, by simp; rfl, by simp⟩⟩
  rw [cellsAt_zip, ← enumD_map] at h1
  have hl : (cellsAt cs 2 o).length ≤ lim := by
    have := cellsAt_len cs 2 o
    unfold lim
    omega
  simp [m_cells_to, eLc, h1, hl]
theorem cells_from_ok {cs : List Cell} (hc : cs.length ≤ 60) (o : Int) : m_cells_from [csD cs, .int o] = some (nsD (cellsFrom cs o), .ow) := by
  have h1 := lcl_map (enc := fun p : Cell × Nat => PyData.tuple [nD p.2, cD p.1]) (vs := [2, 3]) (g := gT (gsC (gN 2) (gsC (gN 3) gsN)) 2) (t := tB (e2 dEq (oE (e2 dIxA (oV 3) (oE (eC (.int 1))))) (oV 1))) (m := eV 2) (e := [some (csD cs, .sh), some (.int o, .sh), none, none]) (fun p => decide (portAt p.1 1 = o)) (fun p => nD p.2) cs.zipIdx fun p _ => by
    have hx : dIxA (cD p.1) (.int 1) = some (.int (portAt p.1 1), .sh) := ixA_t (i := 1) rfl
    refine ⟨_, by simp; rfl, _, by simp [hx]; rfl, by simp, fun _ => ⟨.sh, _, by simp; rfl, by simp⟩⟩
  rw [cellsAt_zip, ← enumD_map] at h1
  have hl : (cellsAt cs 1 o).length ≤ lim := by
    have := cellsAt_len cs 1 o
    unfold lim
    omega
  simp [m_cells_from, eLc, h1, hl]
def ownSlots (cs : List Cell) : List Int := cs.map (·.1)
theorem own_slots_ok {cs : List Cell} (hc : cs.length ≤ 60) : m_own_slots [csD cs] = some (iD (ownSlots cs), .ow) := by
  have h1 := lcl_all (enc := cD) (vs := [1, 2, 3]) (g := gT (gsC (gN 1) (gsC (gN 2) (gsC (gN 3) gsN))) 3) (m := eV 1) (e := [some (csD cs, .sh), none, none, none]) (fun c => .int c.1) cs fun c _ => by
    refine ⟨_, .sh, _, by simp [cD]; rfl, by simp; rfl, by simp⟩
  have hl : cs.length ≤ lim := by unfold lim; omega
  simp [m_own_slots, eLc, cV, h1, hl, ownSlots]
def outletsOf (cs : List Cell) : List Int := isortU (cs.map (·.2.2))
theorem outlets_of_ok {cs : List Cell} (hc : cs.length ≤ 60) : m_outlets_of [csD cs] = some (iD (outletsOf cs), .ow) := by
  have h1 := lcl_all (enc := cD) (vs := [1, 2, 3]) (g := gT (gsC (gN 1) (gsC (gN 2) (gsC (gN 3) gsN))) 3) (m := eV 3) (e := [some (csD cs, .sh), none, none, none]) (fun c => .int c.2.2) cs fun c _ => by
    refine ⟨_, .sh, _, by simp [cD]; rfl, by simp; rfl, by simp⟩
  have hl : cs.length ≤ lim := by unfold lim; omega
  have hm : (cs.map fun c => PyData.int c.2.2) = (cs.map (·.2.2)).map PyData.int := by rw [List.map_map]; rfl
  have hs : opSS (.list (cs.map fun c => PyData.int c.2.2)) = some (iD (outletsOf cs), .ow) := by
    rw [hm]
    show (intsD _).bind _ = _
    rw [intsD_map]
    show (if _ ∧ _ then _ else _) = _
    have := isortU_len (cs.map (·.2.2))
    rw [List.length_map] at this
    rw [if_pos ⟨by rw [List.length_map]; omega, by omega⟩]
    rfl
  have hl2 : (cs.map fun c => PyData.int c.2.2).length ≤ lim := by rw [List.length_map]; exact hl
  generalize (cs.map fun c => PyData.int c.2.2) = xs at *
  simp [m_outlets_of, eLc, cV, h1, hl2, hs]
def sentStep (acc : List Int) (s : Int) : List Int := acc ++ [match acc.getLast? with
  | none => s
  | some p => max s (p + 1)]
def sent (starts : List Int) : List Int := starts.foldl sentStep []
def sendSlots (cs : List Cell) (o : Int) : List Int := sent ((cellsTo cs o).map fun i => (cellI cs i).1)
theorem sentStep_len (acc : List Int) (s : Int) : (sentStep acc s).length = acc.length + 1 := by simp [sentStep]
theorem sent_len : ∀ (starts acc : List Int), (starts.foldl sentStep acc).length = acc.length + starts.length
  | [], acc => rfl
  | s :: starts, acc => by rw [List.foldl_cons, sent_len starts, sentStep_len, List.length_cons]; omega
theorem sendSlots_len (cs : List Cell) (o : Int) : (sendSlots cs o).length = (cellsTo cs o).length := by
  unfold sendSlots sent
  rw [sent_len, List.length_map, List.length_nil, Nat.zero_add]
theorem eq_nil_i (l : List Int) : dEq (iD l) (.list []) = some (.bool l.isEmpty, .sh) := by
  show (if okD (iD l) (.list []) = true then some (PyData.bool (PyData.eqv (iD l) (.list [])), Tg.sh) else none) = _
  have hq : (iD l).plain = true := plainAll_map (enc := PyData.int) (fun _ => rfl) l
  rw [if_pos (okD_r hq rfl (by decide))]
  cases l <;> rfl
theorem ix_last {l : List Int} {p : Int} (h : l.getLast? = some p) : dIxA (iD l) (.int (-1)) = some (.int p, .sh) := by
  have hn : l ≠ [] := fun q => by rw [q] at h; cases h
  have hlp : 0 < l.length := List.length_pos_iff.mpr hn
  have h1 : L2.ixN (l.map PyData.int).length (-1) = some (l.length - 1) := by
    rw [List.length_map]
    unfold L2.ixN
    rw [if_neg (by omega), if_pos (by omega)]
    congr 1
    omega
  have h2 : dIx (iD l) (.int (-1)) = some (.int p, .sh) := by
    unfold dIx
    show ((L2.atI (l.map PyData.int) (-1)).map _) = _
    unfold L2.atI
    rw [h1]
    show (((l.map PyData.int)[l.length - 1]?).map _) = _
    rw [List.getElem?_map, ← List.getLast?_eq_getElem?, h]
    rfl
  unfold dIxA alt2
  rw [h2]
theorem fMax2_i {a b : Int} : fMax2 [.int a, .int b] = some (.int (max a b), .sh) := by
  show some (PyData.int (if b > a then b else a), Tg.sh) = _
  congr 3
  split <;> omega
theorem cell_ix {cs : List Cell} {i : Nat} (h : i < cs.length) : dIxA (csD cs) (nD i) = some (cD (cellI cs i), .sh) := ixA_l (by simp [cellI, h])
theorem cell_0 (c : Cell) : dIxA (cD c) (.int 0) = some (.int c.1, .sh) := ixA_t (i := 0) rfl
theorem cell_1 (c : Cell) : dIxA (cD c) (.int 1) = some (.int c.2.1, .sh) := ixA_t (i := 1) rfl
theorem cell_2 (c : Cell) : dIxA (cD c) (.int 2) = some (.int c.2.2, .sh) := ixA_t (i := 2) rfl
theorem b0_sending_ok {cs : List Cell} {o : Int} {i : Nat} (hi : i < cs.length) {acc : List Int} (ha : acc.length < lim) {j_slot : Option (D × Tg)} (q_slot : Jk j_slot) : b0_sending_slots [some (csD cs, .sh), some (.int o, .sh), some (iD acc, .ow), some (nD i, .sh), j_slot] = some (.nx [some (csD cs, .sh), some (.int o, .sh), some (iD (sentStep acc (cellI cs i).1), .ow), some (nD i, .sh), some (.int (cellI cs i).1, .sh)]) := by
  have h1 := cell_ix hi
  have h2 := cell_0 (cellI cs i)
  have h3 := eq_nil_i acc
  unfold sentStep
  cases hl : acc.getLast? with
  | none =>
    rw [List.getLast?_eq_none_iff] at hl
    subst hl
    simp only [iD, List.map_nil, List.nil_append, List.map_cons] at *
    have h3' : dEq (.list []) (.list []) = some (.bool true, .sh) := h3
    have hlim : 0 < lim := by decide
    simp [b0_sending_slots, h1, h2, h3', q_slot, put_j q_slot, hlim]
  | some p =>
    have h4 := ix_last hl
    have h5 : acc.isEmpty = false := by
      cases acc with
      | nil => cases hl
      | cons a r => rfl
    rw [h5] at h3
    have hneg : dNeg (.int 1) = some (.int (-1), .sh) := rfl
    have hml : (acc.map PyData.int).length < lim := by rw [List.length_map]; exact ha
    simp only [iD] at *
    rw [List.map_append]
    generalize acc.map PyData.int = A at *
    simp [b0_sending_slots, h1, h2, h3, h4, hneg, fMax2_i, put_j q_slot, hml]
theorem sending_slots_ok {cs : List Cell} (hc : cs.length ≤ 60) (o : Int) : m_sending_slots [csD cs, .int o] = some (iD (sendSlots cs o), .ow) := by
  have h0 := cells_to_ok hc o
  obtain ⟨e', h1, j_index, j_slot, q_index, q_slot, rfl⟩ := fl_pre (enc := nD) (g := gN 3) (b := b0_sending_slots) (cs := cellsTo cs o) (fun pre (e : Ev) => (∃ j_index j_slot, Jk j_index ∧ Jk j_slot ∧ e = [some (csD cs, .sh), some (.int o, .sh), some (iD ((pre.map fun i => (cellI cs i).1).foldl sentStep []), .ow), j_index, j_slot]))
    (fun pre i post he e ⟨j_index, j_slot, q_index, q_slot, q_env⟩ => by
      subst q_env
      have hi : i ∈ cellsTo cs o := by rw [he]; simp
      have hl := congrArg List.length he
      have hl2 : (cellsTo cs o).length ≤ cs.length := cellsAt_len cs 2 o
      rw [List.length_append] at hl
      have hlen := sent_len (pre.map fun i => (cellI cs i).1) []
      rw [List.length_map, List.length_nil] at hlen
      have hb := b0_sending_ok (o := o) (mem_cellsAt.mp hi).1 (acc := (pre.map fun i => (cellI cs i).1).foldl sentStep []) (by unfold lim; omega) q_slot
      rw [List.map_append, List.foldl_append]
      exact ⟨_, _, by simp [put_j q_index, put_j q_slot], hb, some (nD i, .sh), some (.int (cellI cs i).1, .sh), jk_h, jk_h, rfl⟩) (cellsTo cs o) [] rfl [some (csD cs, .sh), some (.int o, .sh), some (iD ([]), .ow), none, none] ⟨none, none, jk_n, jk_n, rfl⟩
  unfold sendSlots sent
  generalize ((cellsTo cs o).map fun i => (cellI cs i).1).foldl sentStep [] = w at *
  have h1' : fl (gN 3) b0_sending_slots ((cellsTo cs o).map nD) [some (csD cs, .sh), some (.int o, .sh), some (.list [], .ow), none, none] = _ := h1
  simp [m_sending_slots, h0, h1']
end Gn
namespace Gn
open PySem PySem.Spec PyProof.Rows L2 Dd
def rdy (ready : List Int) (i : Nat) : Int := ready[i]?.getD 0
theorem ints_ix {l : List Int} {i : Nat} (h : i < l.length) : dIxA (iD l) (nD i) = some (.int (rdy l i), .sh) := ixA_l (by simp [rdy, h])
def choice (cs : List Cell) (ready : List Int) (o : Int) (p : Int × Nat) : Int := max 0 ((((cellsTo cs o).countP fun i => decide (rdy ready i ≤ p.1) : Nat) : Int) - (p.2 : Int))
def choiceO (cs : List Cell) (ready : List Int) (o : Int) : List Int := (sendSlots cs o).zipIdx.map (choice cs ready o)
def choices (cs : List Cell) (ready : List Int) : List Int := (outletsOf cs).flatMap (choiceO cs ready)
theorem b0_choices_ok {cs : List Cell} (hc : cs.length ≤ 60) {ready : List Int} {o : Int} {acc : List Int} (ha : acc.length < lim) (p : Int × Nat) : b0_choices_of [some (csD cs, .sh), some (iD ready, .sh), some (iD acc, .ow), some (.int o, .sh), some (iD ((cellsTo cs o).map (rdy ready)), .ow), some (nD p.2, .sh), some (.int p.1, .sh), none, none] = some (.nx [some (csD cs, .sh), some (iD ready, .sh), some (iD (acc ++ [choice cs ready o p]), .ow), some (.int o, .sh), some (iD ((cellsTo cs o).map (rdy ready)), .ow), some (nD p.2, .sh), some (.int p.1, .sh), none, none]) := by
  have h1 := lcl_map (enc := PyData.int) (vs := [8]) (g := gN 8) (t := tB (e2 dLe (oV 8) (oV 6))) (m := eV 8) (e := [some (csD cs, .sh), some (iD ready, .sh), some (iD acc, .ow), some (.int o, .sh), none, some (nD p.2, .sh), some (.int p.1, .sh), none, none]) (fun s => decide (s ≤ p.1)) PyData.int ((cellsTo cs o).map (rdy ready)) fun s _ => by
    refine ⟨_, by simp; rfl, _, by simp; rfl, by simp, fun _ => ⟨.sh, _, by simp; rfl, by simp⟩⟩
  have hlen : (((cellsTo cs o).map (rdy ready)).filter fun s => decide (s ≤ p.1)).length = (cellsTo cs o).countP fun i => decide (rdy ready i ≤ p.1) := by
    rw [← List.countP_eq_length_filter, List.countP_map]
    rfl
  have hle : ((cellsTo cs o).countP fun i => decide (rdy ready i ≤ p.1)) ≤ lim := by
    have h2 := List.countP_le_length (p := fun i => decide (rdy ready i ≤ p.1)) (l := cellsTo cs o)
    have h3 : (cellsTo cs o).length ≤ cs.length := cellsAt_len cs 2 o
    unfold lim
    omega
  have hml : (acc.map PyData.int).length < lim := by rw [List.length_map]; exact ha
  have hll : ((((cellsTo cs o).map (rdy ready)).filter fun s => decide (s ≤ p.1)).map PyData.int).length = (cellsTo cs o).countP fun i => decide (rdy ready i ≤ p.1) := by
    rw [List.length_map, hlen]
  unfold choice
  simp only [iD] at *
  rw [List.map_append]
  generalize ((((cellsTo cs o).map (rdy ready)).filter fun s => decide (s ≤ p.1)).map PyData.int) = F at *
  generalize ((cellsTo cs o).map (rdy ready)).map PyData.int = G at *
  generalize acc.map PyData.int = A at *
  generalize ((cellsTo cs o).countP fun i => decide (rdy ready i ≤ p.1)) = m at *
  simp [b0_choices_of, eLc, cV, h1, hll, hle, hml, fMax2_i]
theorem choiceO_len (cs : List Cell) (ready : List Int) (o : Int) : (choiceO cs ready o).length = (cellsTo cs o).length := by
  unfold choiceO
  rw [List.length_map, List.length_zipIdx, sendSlots_len]
theorem b1_choices_ok {cs : List Cell} (hc : cs.length ≤ 60) {ready : List Int} (hr : ready.length = cs.length) {o : Int} {acc : List Int} (ha : acc.length + 60 < lim) {j_some j_left j_slot : Option (D × Tg)} (q_some : Jk j_some) (q_left : Jk j_left) (q_slot : Jk j_slot) :
    ∃ k_some k_left k_slot, Jk k_some ∧ Jk k_left ∧ Jk k_slot ∧ b1_choices_of [some (csD cs, .sh), some (iD ready, .sh), some (iD acc, .ow), some (.int o, .sh), j_some, j_left, j_slot, none, none] = some (.nx [some (csD cs, .sh), some (iD ready, .sh), some (iD (acc ++ choiceO cs ready o), .ow), some (.int o, .sh), k_some, k_left, k_slot, none, none]) := by
  have h0 := cells_to_ok hc o
  have h2 := sending_slots_ok hc o
  have hle : (cellsTo cs o).length ≤ cs.length := cellsAt_len cs 2 o
  have h1 := lcl_all (enc := nD) (vs := [7]) (g := gN 7) (m := e2 dIxA (oV 1) (oV 7)) (e := [some (csD cs, .sh), some (iD ready, .sh), some (iD acc, .ow), some (.int o, .sh), j_some, j_left, j_slot, none, none]) (fun i => .int (rdy ready i)) (cellsTo cs o) fun i hi => by
    have hix := ints_ix (l := ready) (i := i) (by rw [hr]; exact (mem_cellsAt.mp hi).1)
    refine ⟨_, .sh, _, by simp; rfl, by simp [hix]; rfl, by simp⟩
  have hm : ((cellsTo cs o).map fun i => PyData.int (rdy ready i)) = ((cellsTo cs o).map (rdy ready)).map PyData.int := by rw [List.map_map]; rfl
  rw [hm] at h1
  have hll : (((cellsTo cs o).map (rdy ready)).map PyData.int).length ≤ lim := by rw [List.length_map, List.length_map]; unfold lim; omega
  obtain ⟨e', h3, hP⟩ := fl_pre (enc := fun p : Int × Nat => PyData.tuple [nD p.2, .int p.1]) (g := gT (gsC (gN 5) (gsC (gN 6) gsN)) 2) (b := b0_choices_of) (cs := (sendSlots cs o).zipIdx) (fun pre (e : Ev) => (∃ j_left j_slot, Jk j_left ∧ Jk j_slot ∧ e = [some (csD cs, .sh), some (iD ready, .sh), some (iD (acc ++ pre.map (choice cs ready o)), .ow), some (.int o, .sh), some (iD ((cellsTo cs o).map (rdy ready)), .ow), j_left, j_slot, none, none]))
    (fun pre p post he e ⟨j_left, j_slot, q_left, q_slot, q_env⟩ => by
      subst q_env
      have hl := congrArg List.length he
      rw [List.length_append, List.length_zipIdx, sendSlots_len] at hl
      have hb := b0_choices_ok hc (ready := ready) (o := o) (acc := acc ++ pre.map (choice cs ready o)) (by rw [List.length_append, List.length_map]; omega) p
      rw [List.append_assoc] at hb
      rw [List.map_append]
      exact ⟨_, _, by simp [put_j q_left, put_j q_slot], hb, some (nD p.2, .sh), some (.int p.1, .sh), jk_h, jk_h, rfl⟩) (sendSlots cs o).zipIdx [] rfl [some (csD cs, .sh), some (iD ready, .sh), some (iD (acc), .ow), some (.int o, .sh), some (iD ((cellsTo cs o).map (rdy ready)), .ow), j_left, j_slot, none, none] ⟨j_left, j_slot, q_left, q_slot, by simp⟩
  obtain ⟨k_left, k_slot, r_left, r_slot, rfl⟩ := hP
  refine ⟨some (iD ((cellsTo cs o).map (rdy ready)), .ow), k_left, k_slot, jk_w, r_left, r_slot, ?_⟩
  rw [← enumD_map] at h3
  unfold choiceO
  simp only [iD] at *
  generalize ((cellsTo cs o).map (rdy ready)).map PyData.int = G at *
  generalize (acc ++ (sendSlots cs o).zipIdx.map (choice cs ready o)).map PyData.int = W at *
  generalize acc.map PyData.int = A at *
  generalize (sendSlots cs o).map PyData.int = S at *
  simp [b1_choices_of, eLc, cI, h0, h1, h2, h3, hll, put_j q_some]
theorem outlets_len (cs : List Cell) : (outletsOf cs).length ≤ cs.length := by
  have := isortU_len (cs.map (·.2.2))
  rw [List.length_map] at this
  exact this
theorem fm_len {α β : Type} {f : α → List β} {b : Nat} {l : List α} (h : ∀ x ∈ l, (f x).length ≤ b) : (l.flatMap f).length ≤ l.length * b := by
  rw [List.length_flatMap]
  exact sum_le_mul h
theorem choices_of_ok {cs : List Cell} (hc : cs.length ≤ 60) {ready : List Int} (hr : ready.length = cs.length) : m_choices_of [csD cs, iD ready] = some (iD (choices cs ready), .ow) := by
  have h0 := outlets_of_ok hc
  have hol := outlets_len cs
  obtain ⟨e', h1, j_outlet, j_some, j_left, j_slot, q_outlet, q_some, q_left, q_slot, rfl⟩ := fl_pre (enc := PyData.int) (g := gN 3) (b := b1_choices_of) (cs := outletsOf cs) (fun pre (e : Ev) => (∃ j_outlet j_some j_left j_slot, Jk j_outlet ∧ Jk j_some ∧ Jk j_left ∧ Jk j_slot ∧ e = [some (csD cs, .sh), some (iD ready, .sh), some (iD (pre.flatMap (choiceO cs ready)), .ow), j_outlet, j_some, j_left, j_slot, none, none]))
    (fun pre o post he e ⟨j_outlet, j_some, j_left, j_slot, q_outlet, q_some, q_left, q_slot, q_env⟩ => by
      subst q_env
      have hl := congrArg List.length he
      rw [List.length_append] at hl
      have hfl : (pre.flatMap (choiceO cs ready)).length ≤ pre.length * 60 := fm_len fun x _ => by
        rw [choiceO_len]
        have : (cellsTo cs x).length ≤ cs.length := cellsAt_len cs 2 x
        omega
      obtain ⟨k_some, k_left, k_slot, r1, r2, r3, hb⟩ := b1_choices_ok hc hr (o := o) (acc := pre.flatMap (choiceO cs ready)) (by unfold lim; omega) q_some q_left q_slot
      rw [List.flatMap_append, List.flatMap_cons, List.flatMap_nil, List.append_nil]
      exact ⟨_, _, by simp [put_j q_outlet, put_j q_some, put_j q_left, put_j q_slot], hb, some (.int o, .sh), k_some, k_left, k_slot, jk_h, r1, r2, r3, rfl⟩) (outletsOf cs) [] rfl [some (csD cs, .sh), some (iD ready, .sh), some (iD ([]), .ow), none, none, none, none, none, none] ⟨none, none, none, none, jk_n, jk_n, jk_n, jk_n, rfl⟩
  unfold choices
  generalize (outletsOf cs).flatMap (choiceO cs ready) = w at *
  have h1' : fl (gN 3) b1_choices_of ((outletsOf cs).map PyData.int) [some (csD cs, .sh), some (iD ready, .sh), some (.list [], .ow), none, none, none, none, none, none] = _ := h1
  simp [m_choices_of, h0, h1']
def prodL (xs : List Int) : Int := xs.foldl (· * ·) 1
theorem prod_abs : ∀ (xs : List Int) (acc : Int) (k : Nat), acc.natAbs ≤ 2 ^ k → (∀ x ∈ xs, x.natAbs ≤ 2 ^ 6) → (xs.foldl (· * ·) acc).natAbs ≤ 2 ^ (k + 6 * xs.length)
  | [], acc, k, h, _ => h
  | x :: xs, acc, k, h, hx => by
    have := prod_abs xs (acc * x) (k + 6) (abs_mul_le h (hx x List.mem_cons_self)) fun y hy => hx y (List.mem_cons_of_mem _ hy)
    rw [List.foldl_cons, List.length_cons]
    rwa [show k + 6 * (xs.length + 1) = k + 6 + 6 * xs.length by omega]
theorem product_of_ok {xs : List Int} (hl : xs.length ≤ 60) (hx : ∀ x ∈ xs, x.natAbs ≤ 2 ^ 6) : m_product_of [iD xs] = some (.int (prodL xs), .sh) := by
  obtain ⟨e', h1, j_number, q_number, rfl⟩ := fl_pre (enc := PyData.int) (g := gN 2) (b := b0_product_of) (cs := xs) (fun pre (e : Ev) => (∃ j_number, Jk j_number ∧ e = [some (iD xs, .sh), some (.int (prodL pre), .sh), j_number]))
    (fun pre x post he e ⟨j_number, q_number, q_env⟩ => by
      subst q_env
      have h2 := congrArg List.length he
      rw [List.length_append] at h2
      have h3 := prod_abs pre 1 0 (by decide) fun y hy => hx y (by rw [he]; exact List.mem_append_left _ hy)
      have h4 := dMul_ok (a := prodL pre) (b := x) (le_pow (i := 0 + 6 * pre.length) 9000 h3 (by omega)) (le_pow (i := 6) 9000 (hx x (by rw [he]; simp)) (by decide))
      have h5 : prodL (pre ++ [x]) = prodL pre * x := by simp [prodL]
      rw [h5]
      generalize prodL pre * x = y at *
      generalize prodL pre = z at *
      exact ⟨_, _, by simp [put_j q_number]; rfl, by simp [b0_product_of, h4], some (.int x, .sh), jk_h, rfl⟩) xs [] rfl [some (iD xs, .sh), some (.int (1), .sh), none] ⟨none, jk_n, rfl⟩
  have h1' : fl (gN 2) b0_product_of (xs.map PyData.int) [some (iD xs, .sh), some (.int 1, .sh), none] = _ := h1
  generalize prodL xs = w at *
  simp [m_product_of, h1']
end Gn
namespace Gn
open PySem PySem.Spec PyProof.Rows L2 Dd
/-- picks of cells by digits, slot by slot -/
inductive Picks (ready : Nat → Int) : List Nat → List Int → List Nat → List (Nat × Int) → Prop
  | nil {left : List Nat} : Picks ready left [] [] []
  | cons {left : List Nat} {s : Int} {ss : List Int} {d : Nat} {ds : List Nat} {c : Nat} {ps : List (Nat × Int)} : (left.filter fun i => decide (ready i ≤ s))[d]? = some c → Picks ready (left.erase c) ss ds ps → Picks ready left (s :: ss) (d :: ds) ((c, s) :: ps)
inductive PicksAll (cs : List Cell) (ready : Nat → Int) : List Int → List Nat → List (Nat × Int) → Prop
  | nil : PicksAll cs ready [] [] []
  | cons {o : Int} {os : List Int} {d1 d2 : List Nat} {p1 p2 : List (Nat × Int)} : Picks ready (cellsTo cs o) (sendSlots cs o) d1 p1 → PicksAll cs ready os d2 p2 → PicksAll cs ready (o :: os) (d1 ++ d2) (p1 ++ p2)
def setAll (f : List Int) (ps : List (Nat × Int)) : List Int := ps.foldl (fun f p => f.set p.1 p.2) f
theorem setAll_len : ∀ (ps : List (Nat × Int)) (f : List Int), (setAll f ps).length = f.length
  | [], _ => rfl
  | p :: ps, f => by
    show (setAll (f.set p.1 p.2) ps).length = _
    rw [setAll_len ps, List.length_set]
theorem plain_ns (l : List Nat) : PyData.plainAll (l.map nD) = true := plainAll_map (enc := nD) (fun _ => rfl) l
theorem depth_ns (l : List Nat) : PyData.depthAll (l.map nD) ≤ 0 := depthAll_map (enc := nD) (fun _ => Nat.le_refl 0) l
theorem place_ns (c : Nat) : ∀ {l : List Nat}, c ∈ l → ∃ j, SeqAt.dataPlace (l.map nD) (nD c) = some j ∧ (l.map nD).eraseIdx j = (l.erase c).map nD
  | a :: l, h => by
    unfold SeqAt.dataPlace
    rw [List.map_cons, List.findIdx?_cons, eqv_nD]
    by_cases e : a = c
    · subst e
      exact ⟨0, by simp, by simp⟩
    · obtain ⟨j, h1, h2⟩ := place_ns c (l := l) ((List.mem_cons.mp h).resolve_left fun q => e q.symm)
      unfold SeqAt.dataPlace at h1
      refine ⟨j + 1, by simp [e, h1], ?_⟩
      rw [List.eraseIdx_cons_succ, h2, List.erase_cons_tail (by simpa using e), List.map_cons]
theorem rem_ns {l : List Nat} {c : Nat} (hc : c ∈ l) : ∃ j, SeqAt.dataPlace (l.map nD) (nD c) = some j ∧ (l.map nD).eraseIdx j = (l.erase c).map nD ∧ (PyData.plainAll (l.map nD) && (nD c).plain && decide (min (PyData.depthAll (l.map nD)) (nD c).depth ≤ 60)) = true := by
  obtain ⟨j, h1, h2⟩ := place_ns c hc
  refine ⟨j, h1, h2, ?_⟩
  rw [plain_ns, Bool.true_and]
  have h3 := depth_ns l
  have h4 : (nD c).plain = true := rfl
  rw [h4, Bool.true_and, decide_eq_true_eq]
  omega
theorem b1_row_ok {cs : List Cell} {ready : List Int} (hr : ready.length = cs.length) {left : List Nat} (hl : ∀ i ∈ left, i < cs.length) (hll : left.length ≤ 60) {s : Int} {d c : Nat} {A : List D} {f : List Int} (hf : f.length = cs.length) (hd : (left.filter fun i => decide (rdy ready i ≤ s))[d]? = some c)
    {j_index j_many j_digit j_outlet j_some j_chosen : Option (D × Tg)} (q_some : Jk j_some) (q_chosen : Jk j_chosen) :
    b1_row_with [some (csD cs, .sh), some (iD ready, .sh), j_index, some (.list (A ++ [nD d]), .ow), j_many, j_digit, some (iD f, .ow), j_outlet, some (nsD left, .ow), some (.int s, .sh), j_some, j_chosen, none] =
      some (.nx [some (csD cs, .sh), some (iD ready, .sh), j_index, some (.list A, .ow), j_many, j_digit, some (iD (f.set c s), .ow), j_outlet, some (nsD (left.erase c), .ow), some (.int s, .sh), some (nsD (left.filter fun i => decide (rdy ready i ≤ s)), .ow), some (nD c, .sh), none]) := by
  have h1 := lcl_map (enc := nD) (vs := [12]) (g := gN 12) (t := tB (e2 dLe (oE (e2 dIxA (oV 1) (oV 12))) (oV 9))) (m := eV 12) (e := [some (csD cs, .sh), some (iD ready, .sh), j_index, some (.list (A ++ [nD d]), .ow), j_many, j_digit, some (iD f, .ow), j_outlet, none, some (.int s, .sh), j_some, j_chosen, none]) (fun i => decide (rdy ready i ≤ s)) nD left fun i hi => by
    have hix := ints_ix (l := ready) (i := i) (by rw [hr]; exact hl i hi)
    simp only [iD] at hix ⊢
    generalize ready.map PyData.int = R at *
    generalize f.map PyData.int = F at *
    refine ⟨_, by simp; rfl, _, by simp [hix]; rfl, by simp, fun _ => ⟨.sh, _, by simp; rfl, by simp⟩⟩
  have hcl : c ∈ left := (List.mem_filter.mp (List.mem_of_getElem? hd)).1
  have hcn := hl c hcl
  have hfl : ((left.filter fun i => decide (rdy ready i ≤ s)).map nD).length ≤ lim := by
    rw [List.length_map]
    have := List.length_filter_le (fun i => decide (rdy ready i ≤ s)) left
    unfold lim
    omega
  have hix := ns_ix hd
  obtain ⟨j, p1, p2, p3⟩ := rem_ns hcl
  have hset : (f.map PyData.int).set c (.int s) = (f.set c s).map PyData.int := by rw [List.map_set]
  have hfn : (f.map PyData.int).length = cs.length := by rw [List.length_map, hf]
  have hxn : L2.ixN cs.length (c : Int) = some c := ixN_nat hcn
  simp only [iD, nsD] at *
  generalize ((left.filter fun i => decide (rdy ready i ≤ s)).map nD) = F at *
  generalize (f.set c s).map PyData.int = G2 at *
  generalize f.map PyData.int = G at *
  generalize (left.erase c).map nD = L2' at *
  generalize left.map nD = L at *
  generalize ready.map PyData.int = R at *
  simp [b1_row_with, eLc, cV, h1, hfl, hix, put_j q_some, put_j q_chosen, hset, hfn, hxn]
  simp only [Bool.and_eq_true, decide_eq_true_eq] at p3
  simp [p1, p2, p3]
end Gn
namespace Gn
open PySem PySem.Spec PyProof.Rows L2 Dd
theorem row_inner {cs : List Cell} {ready : List Int} (hr : ready.length = cs.length) {j_index j_many j_digit j_outlet : Option (D × Tg)} : ∀ {left : List Nat} {slots : List Int} {ds : List Nat} {ps : List (Nat × Int)}, Picks (rdy ready) left slots ds ps → ∀ (A : List D) (f : List Int) (j_slot j_some j_chosen : Option (D × Tg)), Jk j_slot → Jk j_some → Jk j_chosen → (∀ i ∈ left, i < cs.length) → left.length ≤ 60 → f.length = cs.length →
    ∃ left' k_slot k_some k_chosen, Jk k_slot ∧ Jk k_some ∧ Jk k_chosen ∧ fl (gN 9) b1_row_with (slots.map PyData.int) [some (csD cs, .sh), some (iD ready, .sh), j_index, some (.list (A ++ (ds.map nD).reverse), .ow), j_many, j_digit, some (iD f, .ow), j_outlet, some (nsD left, .ow), j_slot, j_some, j_chosen, none] =
      some (.nx [some (csD cs, .sh), some (iD ready, .sh), j_index, some (.list A, .ow), j_many, j_digit, some (iD (setAll f ps), .ow), j_outlet, some (nsD left', .ow), k_slot, k_some, k_chosen, none])
  | left, _, _, _, .nil, A, f, j_slot, j_some, j_chosen, h1, h2, h3, _, _, _ => ⟨left, j_slot, j_some, j_chosen, h1, h2, h3, by simp [setAll]⟩
  | left, _, _, _, .cons (s := s) (ss := ss) (d := d) (ds := ds) (c := c) (ps := ps) hd h, A, f, j_slot, j_some, j_chosen, h1, h2, h3, hl, hll, hf => by
    have hb := b1_row_ok hr hl hll (A := A ++ (ds.map nD).reverse) hf hd (j_index := j_index) (j_many := j_many) (j_digit := j_digit) (j_outlet := j_outlet) h2 h3
    have hel : (left.erase c).length ≤ 60 := Nat.le_trans (List.length_erase_le) hll
    obtain ⟨left', k_slot, k_some, k_chosen, r1, r2, r3, ih⟩ := row_inner hr (j_index := j_index) (j_many := j_many) (j_digit := j_digit) (j_outlet := j_outlet) h A (f.set c s) (some (.int s, .sh)) (some (nsD (left.filter fun i => decide (rdy ready i ≤ s)), .ow)) (some (nD c, .sh)) jk_h jk_w jk_h (fun i hi => hl i (List.mem_of_mem_erase hi)) hel (by rw [List.length_set]; exact hf)
    refine ⟨left', k_slot, k_some, k_chosen, r1, r2, r3, ?_⟩
    have hap : A ++ ((d :: ds).map nD).reverse = A ++ (ds.map nD).reverse ++ [nD d] := by simp
    rw [hap, List.map_cons, fl_cons]
    simp only [x_gN, put_j h1, put_s, Option.map_some, Option.bind_some, hb]
    exact ih
theorem row_outer {cs : List Cell} (hc : cs.length ≤ 60) {ready : List Int} (hr : ready.length = cs.length) {j_index j_many j_digit : Option (D × Tg)} : ∀ {os : List Int} {ds : List Nat} {ps : List (Nat × Int)}, PicksAll cs (rdy ready) os ds ps → ∀ (f : List Int) (j_outlet j_left j_slot j_some j_chosen : Option (D × Tg)), Jk j_outlet → Jk j_left → Jk j_slot → Jk j_some → Jk j_chosen → f.length = cs.length →
    ∃ k_outlet k_left k_slot k_some k_chosen, fl (gN 7) b2_row_with (os.map PyData.int) [some (csD cs, .sh), some (iD ready, .sh), j_index, some (.list (ds.map nD).reverse, .ow), j_many, j_digit, some (iD f, .ow), j_outlet, j_left, j_slot, j_some, j_chosen, none] =
      some (.nx [some (csD cs, .sh), some (iD ready, .sh), j_index, some (.list [], .ow), j_many, j_digit, some (iD (setAll f ps), .ow), k_outlet, k_left, k_slot, k_some, k_chosen, none])
  | _, _, _, .nil, f, j_outlet, j_left, j_slot, j_some, j_chosen, _, _, _, _, _, _ => ⟨j_outlet, j_left, j_slot, j_some, j_chosen, by simp [setAll]⟩
  | _, _, _, .cons (o := o) (os := os) (d1 := d1) (d2 := d2) (p1 := p1) (p2 := p2) h1 h2, f, j_outlet, j_left, j_slot, j_some, j_chosen, q1, q2, q3, q4, q5, hf => by
    have g1 := cells_to_ok hc o
    have g2 := sending_slots_ok hc o
    have hle : (cellsTo cs o).length ≤ 60 := Nat.le_trans (cellsAt_len cs 2 o) hc
    obtain ⟨left', k_slot, k_some, k_chosen, r1, r2, r3, hi⟩ := row_inner hr (j_index := j_index) (j_many := j_many) (j_digit := j_digit) (j_outlet := some (.int o, .sh)) h1 (d2.map nD).reverse f j_slot j_some j_chosen q3 q4 q5 (fun i hi => (mem_cellsAt.mp hi).1) hle hf
    obtain ⟨k1, k2, k3, k4, k5, ih⟩ := row_outer hc hr (j_index := j_index) (j_many := j_many) (j_digit := j_digit) h2 (setAll f p1) (some (.int o, .sh)) (some (nsD left', .ow)) k_slot k_some k_chosen jk_h jk_w r1 r2 r3 (by rw [setAll_len]; exact hf)
    refine ⟨k1, k2, k3, k4, k5, ?_⟩
    have hap : ((d1 ++ d2).map nD).reverse = (d2.map nD).reverse ++ (d1.map nD).reverse := by simp
    have hsa : setAll f (p1 ++ p2) = setAll (setAll f p1) p2 := by
      unfold setAll
      rw [List.foldl_append]
    rw [hap, hsa, List.map_cons, fl_cons]
    have hb : b2_row_with [some (csD cs, .sh), some (iD ready, .sh), j_index, some (.list ((d2.map nD).reverse ++ (d1.map nD).reverse), .ow), j_many, j_digit, some (iD f, .ow), some (.int o, .sh), j_left, j_slot, j_some, j_chosen, none] = some (.nx [some (csD cs, .sh), some (iD ready, .sh), j_index, some (.list (d2.map nD).reverse, .ow), j_many, j_digit, some (iD (setAll f p1), .ow), some (.int o, .sh), some (nsD left', .ow), k_slot, k_some, k_chosen, none]) := by
      simp only [iD, nsD] at *
      generalize (d2.map nD).reverse = E2 at *
      generalize (d1.map nD).reverse = E1 at *
      generalize (sendSlots cs o).map PyData.int = S at *
      generalize (cellsTo cs o).map nD = C at *
      generalize f.map PyData.int = G at *
      generalize (setAll f p1).map PyData.int = G2 at *
      generalize ready.map PyData.int = R at *
      simp [b2_row_with, g1, g2, put_j q2, hi]
    simp only [x_gN, put_j q1, put_s, Option.map_some, Option.bind_some, hb]
    exact ih
def dgStep (st : Int × List Int) (m : Int) : Int × List Int := (st.1 / m, st.2 ++ [st.1 % m])
theorem dg_len : ∀ (ms : List Int) (st : Int × List Int), (ms.foldl dgStep st).2.length = st.2.length + ms.length
  | [], st => rfl
  | m :: ms, st => by
    rw [List.foldl_cons, dg_len ms, List.length_cons]
    simp [dgStep]
    omega
theorem row_with_ok {cs : List Cell} (hc : cs.length ≤ 60) {ready : List Int} (hr : ready.length = cs.length) {x : Int} (hpos : ∀ m ∈ choices cs ready, 0 < m ∧ m < 1073741824) {ds : List Nat} {ps : List (Nat × Int)} (hds : ((choices cs ready).reverse.foldl dgStep (x, [])).2 = (ds.map fun (d : Nat) => (d : Int)).reverse) (h : PicksAll cs (rdy ready) (outletsOf cs) ds ps) :
    m_row_with [csD cs, iD ready, .int x] = some (iD (setAll (List.replicate cs.length 0) ps), .ow) := by
  have g1 := choices_of_ok hc hr
  have g2 := outlets_of_ok hc
  have hcl : (choices cs ready).length ≤ 3600 := by
    have h1 : (choices cs ready).length ≤ (outletsOf cs).length * 60 := fm_len fun o _ => by
      rw [choiceO_len]
      exact Nat.le_trans (cellsAt_len cs 2 o) hc
    have := outlets_len cs
    omega
  obtain ⟨e', h1, j_many, j_digit, j_found, j_outlet, j_left, j_slot, j_some, j_chosen, q_many, q_digit, q_found, q_outlet, q_left, q_slot, q_some, q_chosen, rfl⟩ := fl_pre (enc := PyData.int) (g := gN 4) (b := b0_row_with) (cs := (choices cs ready).reverse) (fun pre (e : Ev) => (∃ j_many j_digit j_found j_outlet j_left j_slot j_some j_chosen, Jk j_many ∧ Jk j_digit ∧ Jk j_found ∧ Jk j_outlet ∧ Jk j_left ∧ Jk j_slot ∧ Jk j_some ∧ Jk j_chosen ∧ e = [some (csD cs, .sh), some (iD ready, .sh), some (.int (((pre.foldl dgStep (x, [])).1)), .sh), some (iD ((pre.foldl dgStep (x, [])).2), .ow), j_many, j_digit, j_found, j_outlet, j_left, j_slot, j_some, j_chosen, none]))
    (fun pre m post he e ⟨j_many, j_digit, j_found, j_outlet, j_left, j_slot, j_some, j_chosen, q_many, q_digit, q_found, q_outlet, q_left, q_slot, q_some, q_chosen, q_env⟩ => by
      subst q_env
      have hm := hpos m (List.mem_reverse.mp (by rw [he]; simp))
      have hl := congrArg List.length he
      rw [List.length_reverse, List.length_append] at hl
      have hdl := dg_len pre (x, [])
      rw [List.foldl_append]
      show ∃ e1 e2, _ ∧ _ ∧ (∃ j_many j_digit j_found j_outlet j_left j_slot j_some j_chosen, Jk j_many ∧ Jk j_digit ∧ Jk j_found ∧ Jk j_outlet ∧ Jk j_left ∧ Jk j_slot ∧ Jk j_some ∧ Jk j_chosen ∧ e2 = [some (csD cs, .sh), some (iD ready, .sh), some (.int (((dgStep (pre.foldl dgStep (x, [])) m).1)), .sh), some (iD ((dgStep (pre.foldl dgStep (x, [])) m).2), .ow), j_many, j_digit, j_found, j_outlet, j_left, j_slot, j_some, j_chosen, none])
      generalize pre.foldl dgStep (x, []) = st at *
      obtain ⟨y, w⟩ := st
      simp only [dgStep, List.length_nil] at *
      have hdm : fDivmod [.int y, .int m] = some (.tuple [.int (y / m), .int (y % m)], .sh) := by
        show (if 0 < m ∧ m < 1073741824 then some (PyData.tuple [.int (y / m), .int (y % m)], Tg.sh) else none) = _
        rw [if_pos hm]
      have hwl : (w.map PyData.int).length < lim := by rw [List.length_map]; unfold lim; omega
      simp only [iD, List.map_append, List.map_cons, List.map_nil]
      generalize ready.map PyData.int = R at *
      generalize w.map PyData.int = W at *
      generalize y / m = a at *
      generalize y % m = b at *
      refine ⟨_, _, by simp [put_j q_many, put_j q_digit, put_j q_found, put_j q_outlet, put_j q_left, put_j q_slot, put_j q_some, put_j q_chosen]; rfl, by simp [b0_row_with, hdm, put_j q_many, put_j q_digit, put_j q_found, put_j q_outlet, put_j q_left, put_j q_slot, put_j q_some, put_j q_chosen, hwl], some (.int m, .sh), some (.int b, .sh), j_found, j_outlet, j_left, j_slot, j_some, j_chosen, jk_h, jk_h, q_found, q_outlet, q_left, q_slot, q_some, q_chosen, rfl⟩) (choices cs ready).reverse [] rfl [some (csD cs, .sh), some (iD ready, .sh), some (.int ((x)), .sh), some (iD ([]), .ow), none, none, none, none, none, none, none, none, none] ⟨none, none, none, none, none, none, none, none, jk_n, jk_n, jk_n, jk_n, jk_n, jk_n, jk_n, jk_n, rfl⟩
  rw [hds] at h1
  have hdm : iD (ds.map fun (d : Nat) => (d : Int)).reverse = .list (ds.map nD).reverse := by
    rw [iD, List.map_reverse, List.map_map]
    rfl
  rw [hdm, List.map_reverse] at h1
  obtain ⟨k1, k2, k3, k4, k5, h2⟩ := row_outer hc hr (j_index := some (.int ((choices cs ready).reverse.foldl dgStep (x, [])).1, .sh)) (j_many := j_many) (j_digit := j_digit) h (List.replicate cs.length 0) j_outlet j_left j_slot j_some j_chosen q_outlet q_left q_slot q_some q_chosen (List.length_replicate ..)
  have hln : cs.length ≤ lim := by unfold lim; omega
  have h1' : fl (gN 4) b0_row_with ((choices cs ready).map PyData.int).reverse [some (csD cs, .sh), some (iD ready, .sh), some (.int x, .sh), some (.list [], .ow), none, none, none, none, none, none, none, none, none] = _ := h1
  simp only [iD] at *
  rw [List.map_replicate] at h2
  generalize ((choices cs ready).reverse.foldl dgStep (x, [])).1 = x' at *
  generalize (ds.map nD).reverse = E at *
  generalize (setAll (List.replicate cs.length 0) ps).map PyData.int = S at *
  generalize (choices cs ready).map PyData.int = C at *
  generalize (outletsOf cs).map PyData.int = O at *
  generalize ready.map PyData.int = R at *
  simp [m_row_with, g1, g2, h1', hln, show 1 ≤ lim by decide, put_j q_found, h2]
theorem own_len (cs : List Cell) : (ownSlots cs).length = cs.length := List.length_map _
theorem busy_count_ok {n : Int} (hn : 1 ≤ n ∧ n ≤ 8) {cs : List Cell} (h : CellsOk n cs) (hf : (choices cs (ownSlots cs)).length ≤ 60) (hx : ∀ x ∈ choices cs (ownSlots cs), x.natAbs ≤ 2 ^ 6) : m_busy_count [.int n, csD cs] = some (.int (prodL (choices cs (ownSlots cs))), .sh) := by
  have h1 := need_cells_ok hn h
  have h2 := own_slots_ok h.few
  have h3 := choices_of_ok h.few (own_len cs)
  have h4 := product_of_ok hf hx
  simp only [iD, csD] at *
  simp [m_busy_count, h1, h2, h3, h4]
theorem nth_busy_ok {n : Int} (hn : 1 ≤ n ∧ n ≤ 8) {cs : List Cell} (h : CellsOk n cs) (hf : (choices cs (ownSlots cs)).length ≤ 60) (hx : ∀ x ∈ choices cs (ownSlots cs), x.natAbs ≤ 2 ^ 6) {x : Int} (h0 : 0 ≤ x ∧ x < prodL (choices cs (ownSlots cs))) {r : D} (hr : m_row_with [csD cs, iD (ownSlots cs), .int x] = some (r, .ow)) (hs : Dd.scal r = false) : m_nth_busy [.int n, csD cs, .int x] = some (r, .ow) := by
  have h1 := need_cells_ok hn h
  have h2 := own_slots_ok h.few
  have h3 := choices_of_ok h.few (own_len cs)
  have h4 := product_of_ok hf hx
  have h5 : m_need_number [.int x, .int 0, .int (prodL (choices cs (ownSlots cs)) - 1)] = some (.none, .sh) := need_number_3 (by omega)
  simp only [iD, csD] at *
  simp [m_nth_busy, h1, h2, h3, h4, h5, hr, hs]
end Gn
namespace Gn
def sentR : Int → List Int → List Int
  | _, [] => []
  | nf, s :: r => max s nf :: sentR (max s nf + 1) r
theorem sent_acc : ∀ (starts acc : List Int) (p : Int), acc.getLast? = some p → starts.foldl sentStep acc = acc ++ sentR (p + 1) starts
  | [], acc, p, h => by simp [sentR]
  | s :: starts, acc, p, h => by
    have e : sentStep acc s = acc ++ [max s (p + 1)] := by
      unfold sentStep
      rw [h]
    rw [List.foldl_cons, e, sent_acc starts _ (max s (p + 1)) (by simp)]
    simp [sentR]
theorem sent_cons (s : Int) (r : List Int) : sent (s :: r) = sentR s (s :: r) := by
  unfold sent
  rw [List.foldl_cons, sent_acc r _ s (by simp [sentStep])]
  simp [sentStep, sentR]
theorem sentR_ge : ∀ (starts : List Int) (nf : Int), ∀ x ∈ sentR nf starts, nf ≤ x
  | [], _, _, h => nomatch h
  | s :: r, nf, x, h => by
    rcases List.mem_cons.mp h with rfl | h
    · omega
    · have := sentR_ge r (max s nf + 1) x h
      omega
theorem sentR_asc : ∀ (starts : List Int) (nf : Int), (sentR nf starts).Pairwise (· < ·)
  | [], _ => .nil
  | s :: r, nf => List.pairwise_cons.mpr ⟨fun x hx => by have := sentR_ge r _ x hx; omega, sentR_asc r _⟩
theorem sentR_len : ∀ (starts : List Int) (nf : Int), (sentR nf starts).length = starts.length
  | [], _ => rfl
  | s :: r, nf => by simp [sentR, sentR_len r]
theorem sentR_at : ∀ (starts : List Int) (nf : Int) (k : Nat) (s x : Int), starts[k]? = some s → (sentR nf starts)[k]? = some x → s ≤ x
  | s :: r, nf, 0, s', x, h1, h2 => by
    simp [sentR] at h1 h2
    omega
  | s :: r, nf, k + 1, s', x, h1, h2 => by
    simp [sentR] at h1 h2
    exact sentR_at r _ k s' x h1 h2
theorem sentR_top {B : Int} : ∀ (starts : List Int) (nf : Int), nf ≤ B → (∀ s ∈ starts, s ≤ B) → ∀ x ∈ sentR nf starts, x < B + starts.length
  | [], _, _, _, _, h => nomatch h
  | s :: r, nf, h1, h2, x, h => by
    have hs := h2 s List.mem_cons_self
    rw [List.length_cons]
    rcases List.mem_cons.mp h with rfl | h
    · omega
    · have hr : ∀ s ∈ r, s ≤ B + 1 := fun y hy => by have := h2 y (List.mem_cons_of_mem _ hy); omega
      have := sentR_top (B := B + 1) r _ (by omega) hr x h
      omega
theorem sentR_gap : ∀ (starts : List Int) (nf t : Int), starts.Pairwise (· ≤ ·) → nf ≤ t → ((sentR nf starts).countP fun x => decide (x < t)) < (starts.countP fun x => decide (x ≤ t)) → t ∈ sentR nf starts
  | [], _, _, _, _, h => by simp [sentR] at h
  | s :: r, nf, t, hp, hn, h => by
    rw [List.pairwise_cons] at hp
    unfold sentR at h ⊢
    rw [List.countP_cons, List.countP_cons] at h
    by_cases h1 : t = max s nf
    · rw [h1]; exact List.mem_cons_self
    · by_cases h2 : t < max s nf
      · have hz : (r.countP fun x => decide (x ≤ t)) = 0 := List.countP_eq_zero.mpr fun y hy q => by
          have := hp.1 y hy
          have := of_decide_eq_true q
          omega
        rw [hz, if_neg (by simp; omega), if_neg (by simp; omega)] at h
        omega
      · refine List.mem_cons_of_mem _ (sentR_gap r _ t hp.2 (by omega) ?_)
        simp only [show max s nf < t by omega, show s ≤ t by omega, decide_true, if_true] at h
        omega
/-- starts in order -/
theorem sent_asc {starts : List Int} : (sent starts).Pairwise (· < ·) := by
  cases starts with
  | nil => exact .nil
  | cons s r => rw [sent_cons]; exact sentR_asc _ _
theorem sent_at {starts : List Int} {k : Nat} {s x : Int} (h1 : starts[k]? = some s) (h2 : (sent starts)[k]? = some x) : s ≤ x := by
  cases starts with
  | nil => simp at h1
  | cons a r => rw [sent_cons] at h2; exact sentR_at _ _ k s x h1 h2
theorem sent_top {starts : List Int} {B : Int} (h : ∀ s ∈ starts, s ≤ B) : ∀ x ∈ sent starts, x < B + starts.length := by
  cases starts with
  | nil => exact fun _ h => nomatch h
  | cons s r => rw [sent_cons]; exact sentR_top _ _ (h s List.mem_cons_self) h
theorem sent_gap {starts : List Int} {t : Int} (hp : starts.Pairwise (· ≤ ·)) (h : ((sent starts).countP fun x => decide (x < t)) < (starts.countP fun x => decide (x ≤ t))) : t ∈ sent starts := by
  cases starts with
  | nil => simp [sent] at h
  | cons s r =>
    rw [sent_cons] at h ⊢
    refine sentR_gap _ _ t hp ?_ h
    have : 0 < ((s :: r).countP fun x => decide (x ≤ t)) := by omega
    obtain ⟨y, hy, q⟩ := List.countP_pos_iff.mp this
    have hq := of_decide_eq_true q
    rcases List.mem_cons.mp hy with rfl | hy
    · exact hq
    · have := (List.pairwise_cons.mp hp).1 y hy
      omega
theorem asc_lt {n : Int} {cs : List Cell} (h : CellsOk n cs) : ∀ (d i : Nat), i + d + 1 < cs.length → Asc (cellI cs i) (cellI cs (i + d + 1))
  | 0, i, hi => by
    have := h.asc i _ _ (List.getElem?_eq_getElem (by omega)) (List.getElem?_eq_getElem hi)
    simpa [cellI, hi, show i < cs.length by omega] using this
  | d + 1, i, hi => by
    have h1 := asc_lt h d i (by omega)
    have h2 := h.asc (i + d + 1) _ _ (List.getElem?_eq_getElem (by omega)) (List.getElem?_eq_getElem (show i + d + 1 + 1 < cs.length by omega))
    have e : cs[i + d + 1]'(by omega) = cellI cs (i + d + 1) := by simp [cellI, show i + d + 1 < cs.length by omega]
    have e2 : cs[i + d + 1 + 1]'(by omega) = cellI cs (i + (d + 1) + 1) := by simp [cellI, show i + (d + 1) + 1 = i + d + 1 + 1 by omega, show i + d + 1 + 1 < cs.length by omega]
    rw [e, e2] at h2
    unfold Asc at *
    omega
theorem asc_le {n : Int} {cs : List Cell} (h : CellsOk n cs) {i j : Nat} (hij : i < j) (hj : j < cs.length) : Asc (cellI cs i) (cellI cs j) := by
  have := asc_lt h (j - i - 1) i (by omega)
  rwa [show i + (j - i - 1) + 1 = j by omega] at this
def slotI (cs : List Cell) (i : Nat) : Int := (cellI cs i).1
theorem starts_asc {n : Int} {cs : List Cell} (h : CellsOk n cs) (side : Nat) (o : Int) : ((cellsAt cs side o).map (slotI cs)).Pairwise (· ≤ ·) := by
  refine List.pairwise_map.mpr (List.Pairwise.imp_of_mem ?_ ((List.pairwise_lt_range (n := cs.length)).filter _))
  intro i j hi hj hij
  have := asc_le h hij (mem_cellsAt.mp hj).1
  unfold Asc at this
  unfold slotI
  omega
theorem picks_facts {ready : Nat → Int} : ∀ {left : List Nat} {slots : List Int} {ds : List Nat} {ps : List (Nat × Int)}, Picks ready left slots ds ps → left.Nodup → ps.map (·.2) = slots ∧ (ps.map (·.1)).Nodup ∧ (∀ p ∈ ps, p.1 ∈ left ∧ ready p.1 ≤ p.2)
  | _, _, _, _, .nil, _ => ⟨rfl, List.nodup_nil, fun _ h => nomatch h⟩
  | left, _, _, _, .cons (s := s) (c := c) (ps := ps) hd h, hn => by
    obtain ⟨h1, h2, h3⟩ := picks_facts h (hn.erase c)
    have hc := List.mem_filter.mp (List.mem_of_getElem? hd)
    refine ⟨by simp [h1], ?_, fun p hp => ?_⟩
    · rw [List.map_cons, List.nodup_cons]
      refine ⟨fun q => ?_, h2⟩
      obtain ⟨p, hp, e⟩ := List.mem_map.mp q
      have := (h3 p hp).1
      rw [e] at this
      exact (hn.mem_erase_iff.mp this).1 rfl
    · rcases List.mem_cons.mp hp with rfl | hp
      · exact ⟨hc.1, of_decide_eq_true hc.2⟩
      · exact ⟨List.mem_of_mem_erase (h3 p hp).1, (h3 p hp).2⟩
theorem countP_erase {f : Nat → Bool} {left : List Nat} {c : Nat} (hc : c ∈ left) (hf : f c = true) : (left.erase c).countP f + 1 = left.countP f := by
  have h := (List.perm_cons_erase hc).countP_eq f
  rw [List.countP_cons, if_pos hf] at h
  exact h.symm
theorem picks_ex {ready : Nat → Int} : ∀ (slots : List Int) (ds left : List Nat), slots.Pairwise (· < ·) → ds.length = slots.length → (∀ k d s, ds[k]? = some d → slots[k]? = some s → d + k < left.countP fun i => decide (ready i ≤ s)) → ∃ ps, Picks ready left slots ds ps
  | [], [], left, _, _, _ => ⟨[], .nil⟩
  | [], d :: ds, left, _, h, _ => by simp at h
  | s :: ss, [], left, _, h, _ => by simp at h
  | s :: ss, d :: ds, left, hp, hl, h => by
    rw [List.pairwise_cons] at hp
    have h0 := h 0 d s rfl rfl
    rw [List.countP_eq_length_filter, Nat.add_zero] at h0
    obtain ⟨c, hc⟩ : ∃ c, (left.filter fun i => decide (ready i ≤ s))[d]? = some c := ⟨_, List.getElem?_eq_getElem h0⟩
    have hcm := List.mem_filter.mp (List.mem_of_getElem? hc)
    obtain ⟨ps, hps⟩ := picks_ex (ready := ready) ss ds (left.erase c) hp.2 (by simpa using hl) fun k d' s' h1 h2 => by
      have h3 := h (k + 1) d' s' (by simpa using h1) (by simpa using h2)
      have h4 := hp.1 s' (List.mem_of_getElem? h2)
      have h5 := of_decide_eq_true hcm.2
      have h6 := countP_erase (f := fun i => decide (ready i ≤ s')) hcm.1 (decide_eq_true (by omega))
      omega
    exact ⟨(c, s) :: ps, .cons hc hps⟩
end Gn
namespace Gn
structure BusyRow (cs : List Cell) (R : List Int) : Prop where
  len : R.length = cs.length
  perm : ∀ o, ((cellsTo cs o).map (rdy R)).Perm (sendSlots cs o)
  ge : ∀ i, i < cs.length → slotI cs i ≤ rdy R i
theorem set_at {f : List Int} {c i : Nat} {s : Int} (hc : c < f.length) : rdy (f.set c s) i = if i = c then s else rdy f i := by
  unfold rdy
  by_cases h : i = c
  · subst h
    simp [hc]
  · rw [if_neg h, List.getElem?_set_ne (fun q => h q.symm)]
theorem setAll_off {i : Nat} : ∀ {ps : List (Nat × Int)} {f : List Int}, (∀ p ∈ ps, p.1 < f.length) → i ∉ ps.map (·.1) → rdy (setAll f ps) i = rdy f i
  | [], _, _, _ => rfl
  | p :: ps, f, h, hi => by
    rw [List.map_cons, List.mem_cons, not_or] at hi
    show rdy (setAll (f.set p.1 p.2) ps) i = _
    rw [setAll_off (fun q hq => by rw [List.length_set]; exact h q (List.mem_cons_of_mem _ hq)) hi.2, set_at (h p List.mem_cons_self), if_neg hi.1]
theorem setAll_at {c : Nat} {s : Int} : ∀ {ps : List (Nat × Int)} {f : List Int}, (∀ p ∈ ps, p.1 < f.length) → (ps.map (·.1)).Nodup → (c, s) ∈ ps → rdy (setAll f ps) c = s
  | p :: ps, f, h, hn, hm => by
    rw [List.map_cons, List.nodup_cons] at hn
    have h2 : ∀ q ∈ ps, q.1 < (f.set p.1 p.2).length := fun q hq => by rw [List.length_set]; exact h q (List.mem_cons_of_mem _ hq)
    show rdy (setAll (f.set p.1 p.2) ps) c = _
    rcases List.mem_cons.mp hm with e | hm
    · rw [← e] at hn ⊢
      rw [setAll_off (by rw [← e] at h2; exact h2) hn.1, set_at (by have := h p List.mem_cons_self; rw [← e] at this; exact this), if_pos rfl]
    · exact setAll_at h2 hn.2 hm
theorem picksAll_facts {cs : List Cell} {ready : Nat → Int} : ∀ {os : List Int} {ds : List Nat} {ps : List (Nat × Int)}, PicksAll cs ready os ds ps → os.Nodup → (ps.map (·.1)).Nodup ∧ (∀ p ∈ ps, portAt (cellI cs p.1) 2 ∈ os ∧ p.1 < cs.length ∧ ready p.1 ≤ p.2) ∧ ∀ o ∈ os, ∃ p1 : List (Nat × Int), (∀ p ∈ p1, p ∈ ps) ∧ p1.map (·.2) = sendSlots cs o ∧ (p1.map (·.1)).Nodup ∧ ∀ p ∈ p1, p.1 ∈ cellsTo cs o
  | _, _, _, .nil, _ => ⟨List.nodup_nil, fun _ h => (nomatch h), fun _ h => nomatch h⟩
  | _, _, _, .cons (o := o) (os := os) (p1 := p1) (p2 := p2) h1 h2, hn => by
    rw [List.nodup_cons] at hn
    obtain ⟨a1, a2, a3⟩ := picks_facts h1 (cellsAt_nodup cs 2 o)
    obtain ⟨b1, b2, b3⟩ := picksAll_facts h2 hn.2
    refine ⟨?_, fun p hp => ?_, fun o' ho => ?_⟩
    · rw [List.map_append, List.nodup_append]
      refine ⟨a2, b1, fun x hx y hy e => ?_⟩
      obtain ⟨p, hp, rfl⟩ := List.mem_map.mp hx
      obtain ⟨q, hq, rfl⟩ := List.mem_map.mp hy
      have g1 := (mem_cellsAt.mp (a3 p hp).1).2
      have g2 := (b2 q hq).1
      rw [← e, g1] at g2
      exact hn.1 g2
    · rcases List.mem_append.mp hp with hp | hp
      · have g := mem_cellsAt.mp (a3 p hp).1
        exact ⟨by rw [g.2]; exact List.mem_cons_self, g.1, (a3 p hp).2⟩
      · have g := b2 p hp
        exact ⟨List.mem_cons_of_mem _ g.1, g.2⟩
    · rcases List.mem_cons.mp ho with rfl | ho
      · exact ⟨p1, fun p hp => List.mem_append_left _ hp, a1, a2, fun p hp => (a3 p hp).1⟩
      · obtain ⟨q1, c1, c2⟩ := b3 o' ho
        exact ⟨q1, fun p hp => List.mem_append_right _ (c1 p hp), c2⟩
theorem outlets_nodup (cs : List Cell) : (outletsOf cs).Nodup := (Dd.isortU_pair _).imp (fun h => Int.ne_of_lt h)
theorem mem_outlets {cs : List Cell} {o : Int} : o ∈ outletsOf cs ↔ ∃ i, i < cs.length ∧ portAt (cellI cs i) 2 = o := by
  unfold outletsOf
  rw [Dd.mem_isortU, List.mem_map]
  constructor
  · rintro ⟨c, hc, rfl⟩
    obtain ⟨i, hi, rfl⟩ := List.mem_iff_getElem.mp hc
    exact ⟨i, hi, by simp [cellI, hi, portAt]⟩
  · rintro ⟨i, hi, rfl⟩
    exact ⟨cs[i], List.getElem_mem hi, by simp [cellI, hi, portAt]⟩
theorem perm_of_len {α : Type} [DecidableEq α] {l m : List α} (hl : l.Nodup) (hs : ∀ x ∈ l, x ∈ m) (hlen : m.length ≤ l.length) (hm : m.Nodup) : l.Perm m := by
  induction l generalizing m with
  | nil =>
    rw [List.length_nil] at hlen
    rw [List.eq_nil_of_length_eq_zero (by omega : m.length = 0)]
  | cons a l ih =>
    rw [List.nodup_cons] at hl
    have ha := hs a List.mem_cons_self
    have hp := List.perm_cons_erase ha
    have hme := hm.erase a
    refine .trans (.cons a (ih hl.2 (fun x hx => ?_) ?_ hme)) hp.symm
    · exact hm.mem_erase_iff.mpr ⟨fun e => hl.1 (e ▸ hx), hs x (List.mem_cons_of_mem _ hx)⟩
    · have := hp.length_eq
      rw [List.length_cons] at this hlen
      omega
theorem busy_of_picks {cs : List Cell} {ready : List Int} (hr : ∀ i, i < cs.length → slotI cs i ≤ rdy ready i) {ds : List Nat} {ps : List (Nat × Int)} (h : PicksAll cs (rdy ready) (outletsOf cs) ds ps) : BusyRow cs (setAll (List.replicate cs.length 0) ps) ∧ ∀ i, i < cs.length → rdy ready i ≤ rdy (setAll (List.replicate cs.length 0) ps) i := by
  obtain ⟨h1, h2, h3⟩ := picksAll_facts h (outlets_nodup cs)
  have hlt : ∀ p ∈ ps, p.1 < (List.replicate cs.length (0 : Int)).length := fun p hp => by rw [List.length_replicate]; exact (h2 p hp).2.1
  have hperm : ∀ o, ∀ p1 : List (Nat × Int), p1.map (·.2) = sendSlots cs o → (p1.map (·.1)).Nodup → (∀ p ∈ p1, p.1 ∈ cellsTo cs o) → (p1.map (·.1)).Perm (cellsTo cs o) := fun o p1 c2 c3 c4 => by
    refine perm_of_len c3 (fun x hx => ?_) ?_ (cellsAt_nodup cs 2 o)
    · obtain ⟨p, hp, rfl⟩ := List.mem_map.mp hx
      exact c4 p hp
    · have := congrArg List.length c2
      rw [List.length_map, sendSlots_len] at this
      rw [List.length_map, this]
      exact Nat.le_refl _
  have hrg : ∀ i, i < cs.length → rdy ready i ≤ rdy (setAll (List.replicate cs.length 0) ps) i := fun i hi => by
    obtain ⟨p1, c1, c2, c3, c4⟩ := h3 _ (mem_outlets.mpr ⟨i, hi, rfl⟩)
    have hp := hperm _ p1 c2 c3 c4
    obtain ⟨⟨c, s⟩, hpm, rfl⟩ := List.mem_map.mp (hp.symm.subset (mem_cellsAt.mpr ⟨hi, rfl⟩))
    rw [setAll_at hlt h1 (c1 _ hpm)]
    exact (h2 _ (c1 _ hpm)).2.2
  refine ⟨⟨by rw [setAll_len, List.length_replicate], fun o => ?_, fun i hi => Int.le_trans (hr i hi) (hrg i hi)⟩, hrg⟩
  by_cases ho : o ∈ outletsOf cs
  · obtain ⟨p1, c1, c2, c3, c4⟩ := h3 o ho
    have hp := hperm o p1 c2 c3 c4
    refine (hp.symm.map _).trans ?_
    rw [← c2, List.map_map]
    refine List.Perm.of_eq (List.map_congr_left fun p hpm => ?_)
    obtain ⟨c, s⟩ := p
    exact setAll_at hlt h1 (c1 _ hpm)
  · have he : cellsTo cs o = [] := List.eq_nil_iff_forall_not_mem.mpr fun i hi => ho (mem_outlets.mpr ⟨i, mem_cellsAt.mp hi⟩)
    have hs : sendSlots cs o = [] := List.eq_nil_of_length_eq_zero (by rw [sendSlots_len, he]; rfl)
    rw [he, hs]
    exact .refl _
def dgL : Int → List Int → List Int
  | _, [] => []
  | x, m :: ms => (x % m) :: dgL (x / m) ms
theorem dg_fold : ∀ (ms : List Int) (x : Int) (acc : List Int), (ms.foldl dgStep (x, acc)).2 = acc ++ dgL x ms
  | [], x, acc => by simp [dgL]
  | m :: ms, x, acc => by
    rw [List.foldl_cons]
    show (ms.foldl dgStep (x / m, acc ++ [x % m])).2 = _
    rw [dg_fold ms]
    simp [dgL]
theorem dgL_len : ∀ (ms : List Int) (x : Int), (dgL x ms).length = ms.length
  | [], _ => rfl
  | m :: ms, x => by simp [dgL, dgL_len ms]
theorem dgL_lt : ∀ (ms : List Int) (x : Int), (∀ m ∈ ms, 0 < m) → ∀ (k : Nat) (d m : Int), (dgL x ms)[k]? = some d → ms[k]? = some m → 0 ≤ d ∧ d < m
  | m' :: ms, x, h, 0, d, m, h1, h2 => by
    simp [dgL] at h1 h2
    subst h1 h2
    have := h m' List.mem_cons_self
    exact ⟨Int.emod_nonneg _ (by omega), Int.emod_lt_of_pos _ this⟩
  | m' :: ms, x, h, k + 1, d, m, h1, h2 => by
    simp [dgL] at h1 h2
    exact dgL_lt ms _ (fun y hy => h y (List.mem_cons_of_mem _ hy)) k d m h1 h2
theorem picksAll_ex {cs : List Cell} {ready : List Int} : ∀ (os : List Int) (ds : List Nat), ds.length = (os.flatMap (choiceO cs ready)).length → (∀ (k d : Nat) (m : Int), ds[k]? = some d → (os.flatMap (choiceO cs ready))[k]? = some m → (d : Int) < m) → ∃ ps, PicksAll cs (rdy ready) os ds ps
  | [], ds, hl, _ => by
    have : ds = [] := List.eq_nil_of_length_eq_zero (by simpa using hl)
    rw [this]
    exact ⟨[], .nil⟩
  | o :: os, ds, hl, h => by
    rw [List.flatMap_cons, List.length_append] at hl
    have hn : (choiceO cs ready o).length = (sendSlots cs o).length := by rw [choiceO_len, sendSlots_len]
    obtain ⟨p1, hp1⟩ := picks_ex (ready := rdy ready) (sendSlots cs o) (ds.take (choiceO cs ready o).length) (cellsTo cs o) sent_asc (by rw [List.length_take]; omega) fun k d s h1 h2 => by
      have hk : k < (choiceO cs ready o).length := by
        have := (List.getElem?_eq_some_iff.mp h2).1
        omega
      rw [List.getElem?_take_of_lt hk] at h1
      have hc : (choiceO cs ready o)[k]? = some (choice cs ready o (s, k)) := by
        unfold choiceO
        rw [List.getElem?_map, List.getElem?_zipIdx, h2]
        simp
      have := h k d _ h1 (by rw [List.flatMap_cons, List.getElem?_append_left hk]; exact hc)
      unfold choice at this
      simp only at this
      omega
    obtain ⟨p2, hp2⟩ := picksAll_ex (cs := cs) (ready := ready) os (ds.drop (choiceO cs ready o).length) (by rw [List.length_drop]; omega) fun k d m h1 h2 => by
      rw [List.getElem?_drop] at h1
      refine h _ d m h1 ?_
      rw [List.flatMap_cons, List.getElem?_append_right (by omega), Nat.add_sub_cancel_left]
      exact h2
    refine ⟨p1 ++ p2, ?_⟩
    have := PicksAll.cons hp1 hp2
    rwa [List.take_append_drop] at this
theorem row_ex {cs : List Cell} {ready : List Int} (hpos : ∀ m ∈ choices cs ready, 0 < m) (x : Int) : ∃ ds ps, ((choices cs ready).reverse.foldl dgStep (x, [])).2 = (ds.map fun (d : Nat) => (d : Int)).reverse ∧ PicksAll cs (rdy ready) (outletsOf cs) ds ps := by
  have hd := dg_fold (choices cs ready).reverse x []
  rw [List.nil_append] at hd
  have hlen := dgL_len (choices cs ready).reverse x
  rw [List.length_reverse] at hlen
  have hlt := dgL_lt (choices cs ready).reverse x fun m hm => hpos m (List.mem_reverse.mp hm)
  generalize dgL x (choices cs ready).reverse = D at *
  have hk : ∀ (k : Nat) (d m : Int), D.reverse[k]? = some d → (choices cs ready)[k]? = some m → 0 ≤ d ∧ d < m := fun k d m h1 h2 => by
    have hkl := (List.getElem?_eq_some_iff.mp h2).1
    rw [List.getElem?_reverse (by omega), hlen] at h1
    refine hlt _ d m h1 ?_
    rw [List.getElem?_reverse (by omega), show (choices cs ready).length - 1 - ((choices cs ready).length - 1 - k) = k by omega]
    exact h2
  have hnn : ∀ d ∈ D, 0 ≤ d := fun d hdm => by
    obtain ⟨k, hkk⟩ := List.mem_iff_getElem?.mp (List.mem_reverse.mpr hdm)
    have hkl := (List.getElem?_eq_some_iff.mp hkk).1
    rw [List.length_reverse, hlen] at hkl
    exact (hk k d _ hkk (List.getElem?_eq_getElem hkl)).1
  obtain ⟨ps, hps⟩ := picksAll_ex (cs := cs) (ready := ready) (outletsOf cs) (D.reverse.map Int.toNat) (by rw [List.length_map, List.length_reverse, hlen]; rfl) fun k d m h1 h2 => by
    rw [List.getElem?_map, Option.map_eq_some_iff] at h1
    obtain ⟨d', h3, rfl⟩ := h1
    have := hk k d' m h3 h2
    omega
  refine ⟨_, ps, ?_, hps⟩
  rw [hd, List.map_map, List.map_reverse, List.reverse_reverse]
  refine (List.map_id' _).symm.trans (List.map_congr_left fun d hdm => ?_)
  have := hnn d hdm
  simp only [Function.comp]
  omega
theorem count_ge {s : Int} : ∀ (l : List Int) (k : Nat) (x : Int), l.Pairwise (· ≤ ·) → l[k]? = some x → x ≤ s → k < l.countP fun y => decide (y ≤ s)
  | y :: l, 0, x, hp, h, hx => by
    simp at h
    subst h
    rw [List.countP_cons, if_pos (decide_eq_true hx)]
    omega
  | y :: l, k + 1, x, hp, h, hx => by
    rw [List.pairwise_cons] at hp
    have h' : l[k]? = some x := by simpa using h
    have := count_ge l k x hp.2 h' hx
    have hy := hp.1 x (List.mem_of_getElem? h')
    rw [List.countP_cons, if_pos (decide_eq_true (show y ≤ s by omega))]
    omega
theorem own_rdy {cs : List Cell} {i : Nat} : rdy (ownSlots cs) i = slotI cs i := by
  unfold rdy ownSlots slotI cellI
  rw [List.getElem?_map]
  cases cs[i]? <;> rfl
theorem choices_own {n : Int} {cs : List Cell} (h : CellsOk n cs) : ∀ m ∈ choices cs (ownSlots cs), 0 < m ∧ m ≤ cs.length := fun m hm => by
  obtain ⟨o, ho, h1⟩ := List.mem_flatMap.mp hm
  unfold choiceO at h1
  obtain ⟨⟨s, k⟩, h2, rfl⟩ := List.mem_map.mp h1
  have h3 := List.mem_zipIdx_iff_getElem?.mp h2
  have hk := (List.getElem?_eq_some_iff.mp h3).1
  rw [sendSlots_len] at hk
  have h4 : ((cellsTo cs o).map (slotI cs))[k]? = some (slotI cs ((cellsTo cs o)[k])) := by rw [List.getElem?_map, List.getElem?_eq_getElem hk]; rfl
  have h5 := sent_at h4 h3
  have h6 := count_ge _ k _ (starts_asc h 2 o) h4 h5
  rw [List.countP_map] at h6
  have h7 : ((cellsTo cs o).countP fun i => decide (rdy (ownSlots cs) i ≤ s)) = (cellsTo cs o).countP ((fun y => decide (y ≤ s)) ∘ slotI cs) := List.countP_congr fun i _ => by simp [own_rdy]
  have h8 := List.countP_le_length (p := fun i => decide (rdy (ownSlots cs) i ≤ s)) (l := cellsTo cs o)
  have h9 : (cellsTo cs o).length ≤ cs.length := cellsAt_len cs 2 o
  rw [← h7] at h6
  have e : choice cs (ownSlots cs) o (s, k) = max 0 ((((cellsTo cs o).countP fun i => decide (rdy (ownSlots cs) i ≤ s) : Nat) : Int) - (k : Int)) := rfl
  rw [e]
  omega
end Gn
namespace Gn
theorem countP_lt {α : Type} {f g : α → Bool} : ∀ {l : List α}, (∀ x ∈ l, f x = true → g x = true) → (∃ x ∈ l, g x = true ∧ f x = false) → l.countP f < l.countP g
  | a :: l, h, ⟨x, hx, hg, hf⟩ => by
    have hle : l.countP f ≤ l.countP g := List.countP_mono_left fun y hy => h y (List.mem_cons_of_mem _ hy)
    rw [List.countP_cons, List.countP_cons]
    rcases List.mem_cons.mp hx with rfl | hx
    · rw [hg, hf]
      simp
      omega
    · have := countP_lt (fun y hy => h y (List.mem_cons_of_mem _ hy)) ⟨x, hx, hg, hf⟩
      have h1 := h a List.mem_cons_self
      by_cases q : f a = true
      · rw [if_pos q, if_pos (h1 q)]
        omega
      · rw [if_neg q]
        omega
theorem busy_gap {n : Int} {cs : List Cell} (hc : CellsOk n cs) {R : List Int} (h : BusyRow cs R) {i : Nat} (hi : i < cs.length) {t : Int} (h1 : slotI cs i ≤ t) (h2 : t ≤ rdy R i) : t ∈ sendSlots cs (portAt (cellI cs i) 2) := by
  refine sent_gap (starts_asc hc 2 _) ?_
  have e1 : ((sendSlots cs (portAt (cellI cs i) 2)).countP fun x => decide (x < t)) = (cellsTo cs (portAt (cellI cs i) 2)).countP fun j => decide (rdy R j < t) := by
    rw [← (h.perm _).countP_eq, List.countP_map]
    rfl
  have e2 : (((cellsTo cs (portAt (cellI cs i) 2)).map fun i => (cellI cs i).1).countP fun x => decide (x ≤ t)) = (cellsTo cs (portAt (cellI cs i) 2)).countP fun j => decide (slotI cs j ≤ t) := by
    rw [List.countP_map]
    rfl
  show ((sendSlots cs (portAt (cellI cs i) 2)).countP fun x => decide (x < t)) < _
  rw [e1, e2]
  refine countP_lt (fun j hj q => ?_) ⟨i, mem_cellsAt.mpr ⟨hi, rfl⟩, decide_eq_true h1, decide_eq_false (by omega)⟩
  have := h.ge j (mem_cellsAt.mp hj).1
  have := of_decide_eq_true q
  exact decide_eq_true (by omega)
theorem stay_short {n : Int} {cs : List Cell} (hc : CellsOk n cs) {R : List Int} (h : BusyRow cs R) {i : Nat} (hi : i < cs.length) : rdy R i - slotI cs i < cs.length := by
  have hsub : ∀ t ∈ rng (slotI cs i) (rdy R i - slotI cs i + 1).toNat, t ∈ sendSlots cs (portAt (cellI cs i) 2) := fun t ht => by
    rw [mem_rng] at ht
    have := h.ge i hi
    exact busy_gap hc h hi ht.1 (by omega)
  have hl := List.Nodup.length_le_of_subset (rng_nodup _ _) hsub
  have hl2 : (cellsTo cs (portAt (cellI cs i) 2)).length ≤ cs.length := cellsAt_len cs 2 _
  rw [sendSlots_len] at hl
  unfold rng at hl
  rw [List.length_map, List.length_range] at hl
  omega
theorem sum_perm {l m : List Int} (h : l.Perm m) : l.sum = m.sum := by
  induction h with
  | nil => rfl
  | cons x _ ih => simp [ih]
  | swap x y l => simp; omega
  | trans _ _ ih1 ih2 => exact ih1.trans ih2
theorem sum_le_eq {f g : Nat → Int} : ∀ {l : List Nat}, (∀ x ∈ l, f x ≤ g x) → (l.map f).sum ≤ (l.map g).sum ∧ ((l.map f).sum = (l.map g).sum → ∀ x ∈ l, f x = g x)
  | [], _ => ⟨Int.le_refl _, fun _ _ h => nomatch h⟩
  | a :: l, h => by
    obtain ⟨h1, h2⟩ := sum_le_eq (f := f) (g := g) (l := l) fun x hx => h x (List.mem_cons_of_mem _ hx)
    have h3 := h a List.mem_cons_self
    simp only [List.map_cons, List.sum_cons]
    refine ⟨by omega, fun e x hx => ?_⟩
    rcases List.mem_cons.mp hx with rfl | hx
    · omega
    · exact h2 (by omega) x hx
theorem range_rdy {v : List Int} {n : Nat} (h : v.length = n) : v = (List.range n).map (rdy v) := by
  refine List.ext_getElem (by simp [h]) fun i h1 h2 => ?_
  simp [rdy, h1]
theorem load_at {cs : List Cell} {v : List Int} (h : v.length = cs.length) {side : Nat} {s e : Int} : load cs v side s e = (cellsAt cs side e).countP fun i => decide (rdy v i = s) := by
  conv =>
    lhs
    rw [range_rdy h]
  rw [load_range]
  unfold cellsAt
  rw [List.countP_filter]
theorem nodup_of_load {l : List Nat} {f : Nat → Int} (hn : l.Nodup) (h : ∀ s, (l.countP fun i => decide (f i = s)) ≤ 1) : (l.map f).Nodup := by
  refine List.nodup_iff_count.mpr fun s => ?_
  rw [List.count_eq_countP, List.countP_map]
  refine Nat.le_trans (Nat.le_of_eq (List.countP_congr fun i _ => ?_)) (h s)
  simp
theorem load_of_nodup {l : List Nat} {f : Nat → Int} (h : (l.map f).Nodup) (s : Int) : (l.countP fun i => decide (f i = s)) ≤ 1 := by
  have := List.nodup_iff_count.mp h s
  rw [List.count_eq_countP, List.countP_map] at this
  refine Nat.le_trans (Nat.le_of_eq (List.countP_congr fun i _ => ?_)) this
  simp
/-- with one cell in a slot at each output a busy row has no plan but itself -/
theorem busy_one {n : Int} {cs : List Cell} (hc : CellsOk n cs) {R : List Int} (h : BusyRow cs R) {v : List Int} (hv : v.length = cs.length) (hb : ∀ i, i < cs.length → slotI cs i ≤ rdy v i ∧ rdy v i ≤ rdy R i) (hk : ∀ s e, load cs v 2 s e ≤ 1) : v = R := by
  have key : ∀ i, i < cs.length → rdy v i = rdy R i := fun i hi => by
    have hnd : ((cellsTo cs (portAt (cellI cs i) 2)).map (rdy v)).Nodup := nodup_of_load (cellsAt_nodup cs 2 _) fun s => by
      rw [← load_at hv]
      exact hk _ _
    have hperm : ((cellsTo cs (portAt (cellI cs i) 2)).map (rdy v)).Perm (sendSlots cs (portAt (cellI cs i) 2)) := by
      refine perm_of_len hnd (fun t ht => ?_) (by rw [List.length_map, sendSlots_len]; exact Nat.le_refl _) (sent_asc.imp fun h => Int.ne_of_lt h)
      obtain ⟨j, hj, rfl⟩ := List.mem_map.mp ht
      obtain ⟨hj1, hj2⟩ := mem_cellsAt.mp hj
      have := hb j hj1
      rw [← hj2]
      exact busy_gap hc h hj1 this.1 this.2
    have hs := (sum_perm hperm).trans (sum_perm (h.perm _)).symm
    exact (sum_le_eq fun j hj => (hb j (mem_cellsAt.mp hj).1).2).2 hs i (mem_cellsAt.mpr ⟨hi, rfl⟩)
  rw [range_rdy hv, range_rdy h.len]
  exact List.map_congr_left fun i hi => key i (List.mem_range.mp hi)
theorem busy_load {cs : List Cell} {R : List Int} (h : BusyRow cs R) (s e : Int) : load cs R 2 s e ≤ 1 := by
  rw [load_at h.len]
  exact load_of_nodup ((h.perm e).symm.nodup (sent_asc.imp fun h => Int.ne_of_lt h)) s
theorem mem_boxes : ∀ {L : List (List Int)} {w : List Int}, w ∈ boxes L ↔ w.length = L.length ∧ ∀ (i : Nat) x l, w[i]? = some x → L[i]? = some l → x ∈ l
  | [], w => by
    simp only [boxes, List.mem_singleton]
    constructor
    · rintro rfl
      exact ⟨rfl, fun i x l h => by simp at h⟩
    · exact fun h => List.eq_nil_of_length_eq_zero h.1
  | l :: L, w => by
    simp only [boxes, List.mem_flatMap, List.mem_map]
    constructor
    · rintro ⟨x, hx, w, hw, rfl⟩
      obtain ⟨h1, h2⟩ := mem_boxes.mp hw
      refine ⟨by simp [h1], fun i y l' hy hl => ?_⟩
      cases i with
      | zero =>
        simp at hy hl
        subst hy hl
        exact hx
      | succ i => exact h2 i y l' (by simpa using hy) (by simpa using hl)
    · rintro ⟨h1, h2⟩
      cases w with
      | nil => simp at h1
      | cons x w => exact ⟨x, h2 0 x l rfl rfl, w, mem_boxes.mpr ⟨by simpa using h1, fun i y l' hy hl => h2 (i + 1) y l' (by simpa using hy) (by simpa using hl)⟩, rfl⟩
theorem boxes_nodup : ∀ {L : List (List Int)}, (∀ l ∈ L, l.Nodup) → (boxes L).Nodup
  | [], _ => by simp [boxes]
  | l :: L, h => by
    unfold boxes
    refine fm_nodup (h l List.mem_cons_self) (fun x _ => ?_) fun x _ y _ z hx hy => ?_
    · exact List.Pairwise.map _ (fun a b hab e => hab (List.cons.inj e).2) (boxes_nodup fun l' hl => h l' (List.mem_cons_of_mem _ hl))
    · obtain ⟨a, _, rfl⟩ := List.mem_map.mp hx
      obtain ⟨b, _, e⟩ := List.mem_map.mp hy
      exact (List.cons.inj e).1.symm
theorem spans_at {cs : List Cell} {R : List Int} (hl : R.length = cs.length) {i : Nat} (hi : i < cs.length) : (spans cs R)[i]? = some (slotI cs i, rdy R i) := by
  unfold spans
  simp [List.getElem?_zipWith, slotI, cellI, rdy, hi, hl]
theorem mem_box_row {cs : List Cell} {R : List Int} (hl : R.length = cs.length) {w : List Int} : w ∈ boxes ((spans cs R).map spanL) ↔ w.length = cs.length ∧ ∀ i, i < cs.length → slotI cs i ≤ rdy w i ∧ rdy w i ≤ rdy R i := by
  have hsl : (spans cs R).length = cs.length := by
    unfold spans
    rw [List.length_zipWith, hl, Nat.min_self]
  rw [mem_boxes, List.length_map, hsl]
  constructor
  · rintro ⟨h1, h2⟩
    refine ⟨h1, fun i hi => ?_⟩
    have := h2 i (rdy w i) (spanL (slotI cs i, rdy R i)) (by simp [rdy, h1, hi]) (by rw [List.getElem?_map, spans_at hl hi]; rfl)
    exact mem_spanL.mp this
  · rintro ⟨h1, h2⟩
    refine ⟨h1, fun i x l hx hl' => ?_⟩
    have hi : i < cs.length := by
      have := (List.getElem?_eq_some_iff.mp hx).1
      omega
    rw [List.getElem?_map, spans_at hl hi] at hl'
    cases hl'
    have := h2 i hi
    have e : rdy w i = x := by
      unfold rdy
      rw [hx]
      rfl
    rw [e] at this
    exact mem_spanL.mpr this
theorem plans_nodup (cs : List Cell) (S : Spans) (p q : Int) : (plans cs S p q).Nodup := (boxes_nodup fun l hl => by
  obtain ⟨s, _, rfl⟩ := List.mem_map.mp hl
  exact rng_nodup _ _).filter _
open Classical in
theorem mem_plans' {cs : List Cell} {S : Spans} {p q : Int} {w : List Int} : w ∈ plans cs S p q ↔ w ∈ boxes (S.map spanL) ∧ Keeps cs p q w := by
  unfold plans
  rw [List.mem_filter, decide_eq_true_eq]
theorem mem_plans_row {cs : List Cell} {R : List Int} (hl : R.length = cs.length) {p q : Int} {w : List Int} : w ∈ plans cs (spans cs R) p q ↔ (w.length = cs.length ∧ ∀ i, i < cs.length → slotI cs i ≤ rdy w i ∧ rdy w i ≤ rdy R i) ∧ Keeps cs p q w := by
  rw [mem_plans', mem_box_row hl]
open Classical in
/-- the plans of a busy row with one slow output side -/
theorem busy_plans {n : Int} {cs : List Cell} (hc : CellsOk n cs) {R : List Int} (h : BusyRow cs R) {p : Int} : plans cs (spans cs R) p 1 = if (∀ s e, (load cs R 1 s e : Int) ≤ p) then [R] else [] := by
  have h1 : ∀ w, w ∈ plans cs (spans cs R) p 1 ↔ w = R ∧ ∀ s e, (load cs R 1 s e : Int) ≤ p := fun w => by
    rw [mem_plans_row h.len]
    constructor
    · rintro ⟨⟨h1, h2⟩, hk⟩
      have e := busy_one hc h h1 h2 fun s e => by have := (hk s e).2; omega
      subst e
      exact ⟨rfl, fun s e => (hk s e).1⟩
    · rintro ⟨rfl, hk⟩
      exact ⟨⟨h.len, fun i hi => ⟨h.ge i hi, Int.le_refl _⟩⟩, fun s e => ⟨hk s e, by have := busy_load h s e; omega⟩⟩
  have hn := plans_nodup cs (spans cs R) p 1
  generalize plans cs (spans cs R) p 1 = l at *
  have hperm : l.Perm (if (∀ s e, (load cs R 1 s e : Int) ≤ p) then [R] else []) := by
    refine (List.perm_ext_iff_of_nodup hn (by split <;> simp)).mpr fun w => ?_
    rw [h1]
    split
    · rename_i hk
      simp [hk]
    · rename_i hk
      simp [hk]
  by_cases hk : ∀ s e, (load cs R 1 s e : Int) ≤ p
  · rw [if_pos hk] at hperm ⊢
    exact List.perm_singleton.mp hperm
  · rw [if_neg hk] at hperm ⊢
    exact List.perm_nil.mp hperm
end Gn
namespace Gn
open PySem PySem.Spec PyProof.Rows L2 Dd
section srt
variable {α : Type} {le : α → α → Bool}
theorem insD_perm (x : α) : ∀ l : List α, (insD le x l).Perm (x :: l)
  | [] => .refl _
  | y :: l => by
    unfold insD
    split
    · exact .refl _
    · exact ((insD_perm x l).cons y).trans (.swap x y l)
theorem isort_perm : ∀ l : List α, (isort le l).Perm l
  | [] => .refl _
  | y :: l => (insD_perm y (isort le l)).trans ((isort_perm l).cons y)
theorem insD_sorted (htr : ∀ a b c, le a b = true → le b c = true → le a c = true) (htot : ∀ a b, le a b = true ∨ le b a = true) (x : α) : ∀ {l : List α}, l.Pairwise (fun a b => le a b = true) → (insD le x l).Pairwise (fun a b => le a b = true)
  | [], _ => by simp [insD]
  | y :: l, h => by
    rw [List.pairwise_cons] at h
    unfold insD
    by_cases hxy : le x y = true
    · rw [if_pos hxy]
      refine List.pairwise_cons.mpr ⟨fun z hz => ?_, List.pairwise_cons.mpr h⟩
      rcases List.mem_cons.mp hz with rfl | hz
      · exact hxy
      · exact htr _ _ _ hxy (h.1 z hz)
    · rw [if_neg hxy]
      refine List.pairwise_cons.mpr ⟨fun z hz => ?_, insD_sorted htr htot x h.2⟩
      rcases List.mem_cons.mp ((insD_perm x l).subset hz) with rfl | hz
      · exact (htot y z).resolve_right hxy
      · exact h.1 z hz
theorem isort_sorted (htr : ∀ a b c, le a b = true → le b c = true → le a c = true) (htot : ∀ a b, le a b = true ∨ le b a = true) : ∀ l : List α, (isort le l).Pairwise (fun a b => le a b = true)
  | [] => .nil
  | y :: l => insD_sorted htr htot y (isort_sorted htr htot l)
theorem sorted_eq (has : ∀ a b, le a b = true → le b a = true → a = b) : ∀ {l m : List α}, l.Pairwise (fun a b => le a b = true) → m.Pairwise (fun a b => le a b = true) → l.Perm m → l = m
  | [], m, _, _, h => (List.nil_perm.mp h).symm
  | a :: l, m, hl, hm, h => by
    cases m with
    | nil => exact (List.perm_nil.mp h)
    | cons b m =>
      rw [List.pairwise_cons] at hl hm
      have hab : a = b := by
        rcases List.mem_cons.mp (h.subset List.mem_cons_self) with e | e
        · exact e
        · rcases List.mem_cons.mp (h.symm.subset List.mem_cons_self) with e2 | e2
          · exact e2.symm
          · exact has a b (hl.1 b e2) (hm.1 a e)
      subst hab
      rw [sorted_eq has hl.2 hm.2 ((List.perm_cons a).mp h)]
theorem insD_map {β : Type} {le' : β → β → Bool} (f : α → β) (h : ∀ a b, le' (f a) (f b) = le a b) (x : α) : ∀ l : List α, insD le' (f x) (l.map f) = (insD le x l).map f
  | [] => rfl
  | y :: l => by
    rw [List.map_cons]
    unfold insD
    rw [h, insD_map f h x l]
    split <;> rfl
theorem isort_map {β : Type} {le' : β → β → Bool} (f : α → β) (h : ∀ a b, le' (f a) (f b) = le a b) : ∀ l : List α, isort le' (l.map f) = (isort le l).map f
  | [] => rfl
  | y :: l => by
    rw [List.map_cons]
    unfold isort
    rw [isort_map f h l, insD_map f h]
end srt
def leI (a b : Int) : Bool := decide (a ≤ b)
def leP (a b : Int × Int) : Bool := decide (a.1 < b.1 ∨ (a.1 = b.1 ∧ a.2 ≤ b.2))
theorem leD_i (a b : Int) : leD (.int a) (.int b) = leI a b := by
  have h : leD (.int a) (.int b) = !PySem.W.dataLt (.int b) (.int a) := rfl
  rw [h, PySem.W.dataLt_int, leI, Bool.eq_iff_iff]
  simp
theorem leD_p (a b : Int × Int) : leD (pD a) (pD b) = leP a b := by
  have h : leD (pD a) (pD b) = !PySem.W.dataLt (.tuple [.int b.1, .int b.2]) (.tuple [.int a.1, .int a.2]) := rfl
  rw [h, dataLt_2, leP, Bool.eq_iff_iff]
  simp
  omega
theorem okSort_map {α : Type} {f : α → D} (h1 : ∀ a b, PySem.W.alike (f a) (f b) = true) (h2 : (∀ a, tup1 (f a) = true) ∨ ∀ a, noTup (f a) = true) (h3 : ∀ a, (f a).plain = true) (h4 : ∀ a, (f a).depth ≤ 60) {l : List α} (hl : l.length ≤ lim) : okSort (l.map f) = true := by
  unfold okSort
  simp only [Bool.and_eq_true, Bool.or_eq_true, List.all_eq_true, decide_eq_true_eq]
  refine ⟨⟨⟨⟨fun x hx y hy => ?_, ?_⟩, plainAll_map h3 l⟩, by rw [List.length_map]; exact hl⟩, fun x hx => ?_⟩
  · obtain ⟨a, _, rfl⟩ := List.mem_map.mp hx
    obtain ⟨b, _, rfl⟩ := List.mem_map.mp hy
    exact h1 a b
  · rcases h2 with h2 | h2
    · refine .inl fun x hx => ?_
      obtain ⟨a, _, rfl⟩ := List.mem_map.mp hx
      exact h2 a
    · refine .inr fun x hx => ?_
      obtain ⟨a, _, rfl⟩ := List.mem_map.mp hx
      exact h2 a
  · obtain ⟨a, _, rfl⟩ := List.mem_map.mp hx
    exact h4 a
theorem fSorted_i {l : List Int} (hl : l.length ≤ lim) : fSorted [iD l] = some (iD (isort leI l), .ow) := by
  show (if okSort (l.map PyData.int) = true then some (PyData.list (isort leD (l.map PyData.int)), Tg.ow) else none) = _
  rw [if_pos (okSort_map (f := PyData.int) (fun _ _ => rfl) (.inr fun _ => rfl) (fun _ => rfl) (fun _ => by show (0 : Nat) ≤ 60; decide) hl), isort_map (le := leI) PyData.int leD_i]
theorem fSorted_p {l : List (Int × Int)} (hl : l.length ≤ lim) : fSorted [.list (l.map pD)] = some (.list ((isort leP l).map pD), .ow) := by
  show (if okSort (l.map pD) = true then some (PyData.list (isort leD (l.map pD)), Tg.ow) else none) = _
  rw [if_pos (okSort_map (f := pD) (fun _ _ => rfl) (.inl fun _ => rfl) (fun _ => rfl) (fun _ => by rw [depth_pD]; decide) hl), isort_map (le := leP) pD leD_p]
theorem isortI_eq {l m : List Int} (h : l.Perm m) (hm : m.Pairwise (· ≤ ·)) : isort leI l = m := by
  refine sorted_eq (le := leI) (fun a b h1 h2 => ?_) (isort_sorted (fun a b c h1 h2 => ?_) (fun a b => ?_) l) (hm.imp fun h => decide_eq_true h) ((isort_perm l).trans h)
  · have := of_decide_eq_true h1
    have := of_decide_eq_true h2
    omega
  · have := of_decide_eq_true h1
    have := of_decide_eq_true h2
    exact decide_eq_true (by omega)
  · rcases Int.le_total a b with q | q
    · exact .inl (decide_eq_true q)
    · exact .inr (decide_eq_true q)
theorem ne_ii (l m : List Int) : dNe (iD l) (iD m) = some (.bool (!decide (l = m)), .sh) := by
  show (if okD (iD l) (iD m) = true then some (PyData.bool (!PyData.eqv (iD l) (iD m)), Tg.sh) else none) = _
  have hq : ∀ l : List Int, (iD l).plain = true := fun l => plainAll_map (enc := PyData.int) (fun _ => rfl) l
  have hd : (iD m).depth ≤ 60 := by
    have : (iD m).depth = PyData.depthAll (m.map PyData.int) + 1 := rfl
    have h2 := depthAll_map (enc := PyData.int) (k := 0) (fun _ => Nat.le_refl 0) m
    omega
  rw [if_pos (okD_r (hq l) (hq m) hd)]
  have he : PyData.eqv (iD l) (iD m) = decide (l = m) := eqvAll_map (enc := PyData.int) (fun a b => by
    show (a == b) = decide (a = b)
    by_cases h : a = b <;> simp [h]) l m
  rw [he]
theorem is_busy_row_ok {cs : List Cell} (hc : cs.length ≤ 60) {R : List Int} (h : BusyRow cs R) : m_is_busy_row [csD cs, iD R] = some (.bool true, .sh) := by
  have h0 := outlets_of_ok hc
  obtain ⟨e', h1, j_outlet, q_outlet, rfl⟩ := fl_pre (enc := PyData.int) (g := gN 2) (b := b0_is_busy_row) (cs := outletsOf cs) (fun pre (e : Ev) => (∃ j_outlet, Jk j_outlet ∧ e = [some (csD cs, .sh), some (iD R, .sh), j_outlet, none]))
    (fun pre o post he e ⟨j_outlet, q_outlet, q_env⟩ => by
      subst q_env
      have g1 := cells_to_ok hc o
      have g2 := sending_slots_ok hc o
      have hle : (cellsTo cs o).length ≤ cs.length := cellsAt_len cs 2 o
      have g3 := lcl_all (enc := nD) (vs := [3]) (g := gN 3) (m := e2 dIxA (oV 1) (oV 3)) (e := [some (csD cs, .sh), some (iD R, .sh), some (.int o, .sh), none]) (fun i => .int (rdy R i)) (cellsTo cs o) fun i hi => by
        have hix := ints_ix (l := R) (i := i) (by rw [h.len]; exact (mem_cellsAt.mp hi).1)
        refine ⟨_, .sh, _, by simp; rfl, by simp [hix]; rfl, by simp⟩
      have hm : ((cellsTo cs o).map fun i => PyData.int (rdy R i)) = ((cellsTo cs o).map (rdy R)).map PyData.int := by rw [List.map_map]; rfl
      rw [hm] at g3
      have hll : ((cellsTo cs o).map (rdy R)).length ≤ lim := by rw [List.length_map]; unfold lim; omega
      have g4 := fSorted_i hll
      rw [isortI_eq (h.perm o) (sent_asc.imp fun h => Int.le_of_lt h)] at g4
      have g5 := ne_ii (sendSlots cs o) (sendSlots cs o)
      rw [decide_eq_true rfl] at g5
      have hl3 : (((cellsTo cs o).map (rdy R)).map PyData.int).length ≤ lim := by rw [List.length_map]; exact hll
      simp only [iD, nsD] at *
      generalize ((cellsTo cs o).map (rdy R)).map PyData.int = G at *
      generalize (sendSlots cs o).map PyData.int = S at *
      generalize (cellsTo cs o).map nD = C at *
      generalize R.map PyData.int = RR at *
      refine ⟨[some (csD cs, .sh), some (.list RR, .sh), some (.int o, .sh), none], _, by simp [put_j q_outlet], by simp [b0_is_busy_row, eLc, cI, g1, g2, g3, g4, g5, hl3], some (.int o, .sh), jk_h, rfl⟩) (outletsOf cs) [] rfl [some (csD cs, .sh), some (iD R, .sh), none, none] ⟨none, jk_n, rfl⟩
  simp only [iD] at *
  generalize (outletsOf cs).map PyData.int = O at *
  generalize R.map PyData.int = RR at *
  simp [m_is_busy_row, h0, h1]
theorem need_busy_ok {n : Int} {cs : List Cell} {R : List Int} (hg : Good n cs R) (h : BusyRow cs R) : m_need_busy [.int n, csD cs, iD R] = some (.none, .sh) := by
  have h1 := need_row_ok hg
  have h2 := is_busy_row_ok hg.cells.few h
  simp [m_need_busy, h1, h2]
theorem most_at_once_ok {cs : List Cell} (hc : cs.length ≤ 60) (ws : List Int) {side : Nat} (hs : side = 1 ∨ side = 2) : m_most_at_once [csD cs, iD ws, .int (side : Int)] = some (.int (mload cs ws side), .sh) := by
  have h1 := loads_of_ok hc ws hs
  have g1 := opMaxV_t (cnt (lkeys cs ws side))
  unfold mload
  generalize cnt (lkeys cs ws side) = w1 at *
  simp only [tD2] at *
  generalize maxL (w1.map fun e => (e.2 : Int)) = m1 at *
  generalize w1.map (trow nD) = W1 at *
  simp [m_most_at_once, h1, g1]
theorem clash_number_ok {n : Int} {cs : List Cell} {R : List Int} (hg : Good n cs R) : m_clash_number [.int n, csD cs, iD R] = some (.int (mload cs R 1), .sh) := by
  have h1 := need_row_ok hg
  have h2 : m_most_at_once [csD cs, iD R, .int 1] = _ := most_at_once_ok hg.cells.few R (side := 1) (.inl rfl)
  simp [m_clash_number, h1, h2]
theorem plan_by_leaving_ok {n : Int} {cs : List Cell} {R : List Int} (hg : Good n cs R) (h : BusyRow cs R) {m : Int} (hm : 1 ≤ m) : m_plan_by_leaving [.int n, csD cs, iD R, .int m] = some (if mload cs R 1 ≤ m then (iD R, .ow) else (.none, .sh)) := by
  have h1 := need_row_ok hg
  have h2 : m_most_at_once [csD cs, iD R, .int 1] = _ := most_at_once_ok hg.cells.few R (side := 1) (.inl rfl)
  have h3 := need_busy_ok hg h
  have h4 : m_need_number [.int m, .int 1, .none] = some (.none, .sh) := need_number_2 hm
  by_cases hk : mload cs R 1 ≤ m
  · simp [m_plan_by_leaving, h1, h2, h3, h4, hk, fList]
  · simp [m_plan_by_leaving, h1, h2, h3, h4, hk]
/-- slots and ports with at least two cells -/
def crowd (cs : List Cell) (ws : List Int) (side : Nat) : List (Int × Int) := isort leP (((cnt (lkeys cs ws side)).filter fun e => decide (1 < (e.2 : Int))).map (·.1))
theorem rows_t {α : Type} (f : α → D) (w : List ((Int × Int) × α)) : rowsD (w.map (trow f)) = w.map fun e => PyData.tuple [pD e.1, f e.2] := by
  unfold rowsD
  rw [List.map_map]
  rfl
theorem crowded_ok {cs : List Cell} (hc : cs.length ≤ 60) (ws : List Int) {side : Nat} (hs : side = 1 ∨ side = 2) : m_crowded [csD cs, iD ws, .int (side : Int)] = some (.list ((crowd cs ws side).map pD), .ow) := by
  have h1 := loads_of_ok hc ws hs
  have hlen := cnt_len (lkeys cs ws side) []
  have hkl : (lkeys cs ws side).length ≤ 60 := by
    unfold lkeys
    rw [List.length_map, List.length_zip]
    omega
  unfold crowd
  have hw : (lkeys cs ws side).foldl cstep [] = cnt (lkeys cs ws side) := rfl
  rw [hw, List.length_nil] at hlen
  generalize cnt (lkeys cs ws side) = w at *
  have h2 := lcl_map (enc := fun e : (Int × Int) × Nat => PyData.tuple [pD e.1, nD e.2]) (vs := [3, 4]) (g := gT (gsC (gN 3) (gsC (gN 4) gsN)) 2) (t := tB (e2 dGt (oV 4) (oE (eC (.int 1))))) (m := eV 3) (e := [some (csD cs, .sh), some (iD ws, .sh), some (.int (side : Int), .sh), none, none]) (fun e => decide (1 < (e.2 : Int))) (fun e => pD e.1) w fun e _ => by
    refine ⟨_, by simp; rfl, _, by simp; rfl, by simp, fun _ => ⟨.sh, _, by simp; rfl, by simp⟩⟩
  rw [← rows_t] at h2
  have hm : (w.filter fun e => decide (1 < (e.2 : Int))).map (fun e => pD e.1) = ((w.filter fun e => decide (1 < (e.2 : Int))).map (·.1)).map pD := by rw [List.map_map]; rfl
  rw [hm] at h2
  have hfl := List.length_filter_le (fun e : (Int × Int) × Nat => decide (1 < (e.2 : Int))) w
  have hll : ((w.filter fun e => decide (1 < (e.2 : Int))).map (·.1)).length ≤ lim := by rw [List.length_map]; unfold lim; omega
  have h3 := fSorted_p hll
  generalize (w.filter fun e => decide (1 < (e.2 : Int))).map (·.1) = ks at *
  have hl4 : (ks.map pD).length ≤ lim := by rw [List.length_map]; exact hll
  simp only [tD2] at *
  generalize w.map (trow nD) = W at *
  generalize (isort leP ks).map pD = S at *
  generalize ks.map pD = KS at *
  simp [m_crowded, eLc, cI, h1, h2, h3, hl4]
theorem mem_crowd {cs : List Cell} {ws : List Int} {side : Nat} {k : Int × Int} : k ∈ crowd cs ws side ↔ 1 < load cs ws side k.1 k.2 := by
  unfold crowd
  rw [(isort_perm _).mem_iff, List.mem_map]
  constructor
  · rintro ⟨⟨k', n⟩, h, rfl⟩
    obtain ⟨h1, h2⟩ := List.mem_filter.mp h
    obtain ⟨h3, rfl⟩ := mem_cnt'.mp h1
    have := of_decide_eq_true h2
    rw [load_count]
    exact Int.ofNat_lt.mp this
  · intro h
    rw [load_count] at h
    have hk : k ∈ lkeys cs ws side := Decidable.byContradiction fun q => by
      have h' : 1 < ctk (lkeys cs ws side) k := h
      rw [ctk_zero q] at h'
      omega
    exact ⟨(k, ctk (lkeys cs ws side) k), List.mem_filter.mpr ⟨mem_cnt'.mpr ⟨hk, rfl⟩, decide_eq_true (Int.ofNat_lt.mpr h)⟩, rfl⟩
theorem crowd_nil {cs : List Cell} {ws : List Int} {side : Nat} : crowd cs ws side = [] ↔ mload cs ws side ≤ 1 := by
  rw [mload_le (by decide), List.eq_nil_iff_forall_not_mem]
  constructor
  · intro h s e
    have := h (s, e)
    rw [mem_crowd] at this
    have : ¬ 1 < load cs ws side s e := this
    omega
  · intro h k
    rw [mem_crowd]
    have := h k.1 k.2
    omega
theorem clashes_ok {n : Int} {cs : List Cell} {R : List Int} (hg : Good n cs R) : m_clashes [.int n, csD cs, iD R] = some (.list ((crowd cs R 1).map pD), .ow) := by
  have h1 := need_row_ok hg
  have h2 : m_crowded [csD cs, iD R, .int 1] = _ := crowded_ok hg.cells.few R (side := 1) (.inl rfl)
  generalize (crowd cs R 1).map pD = C at *
  simp [m_clashes, h1, h2]
theorem eq_nil_p (l : List (Int × Int)) : dEq (.list (l.map pD)) (.list []) = some (.bool l.isEmpty, .sh) := by
  show (if okD (.list (l.map pD)) (.list []) = true then some (PyData.bool (PyData.eqv (.list (l.map pD)) (.list [])), Tg.sh) else none) = _
  have hq : (PyData.list (l.map pD)).plain = true := plainAll_map (enc := pD) (fun _ => rfl) l
  rw [if_pos (okD_r hq rfl (by decide))]
  cases l <;> rfl
end Gn
namespace Gn
open PySem PySem.Spec PyProof.Rows L2 Dd
theorem nb (n : Int) (h : 0 ≤ n) (h2 : n ≤ 100000000000000000000000000000) : n.natAbs ≤ 2 ^ 8000 := le_pow (i := 200) 8000 (by omega) (by decide)
/-- what _law_few has made -/
structure FewInv (n : Int) (cs : List Cell) (at' port : Int) : Prop where
  len : cs.length ≤ 7
  ok : ∀ c ∈ cs, (0 ≤ c.1 ∧ c.1 ≤ at') ∧ (0 ≤ c.2.1 ∧ c.2.1 ≤ n - 1) ∧ 0 ≤ c.2.2 ∧ c.2.2 ≤ n - 1
  asc : ∀ (i : Nat) a b, cs[i]? = some a → cs[i + 1]? = some b → Asc a b
  at1 : 0 ≤ at' ∧ at' ≤ 3 * (cs.length : Int)
  prt : -1 ≤ port ∧ port ≤ n - 1
  last : ∀ c, cs.getLast? = some c → c.1 = at' ∧ c.2.1 = port
theorem FewInv.snoc {n : Int} {cs : List Cell} {at' port : Int} (h : FewInv n cs at' port) (hl : cs.length < 7) (hn : 1 ≤ n) {a p o : Int} (ha : (a = at' ∧ p = port + 1 ∧ port < n - 1) ∨ (at' + 1 ≤ a ∧ a ≤ at' + 2 ∧ p = 0)) (ho : 0 ≤ o ∧ o < n) : FewInv n (cs ++ [(a, p, o)]) a p := by
  have h1 := h.at1
  have h2 := h.prt
  refine ⟨by simp; omega, fun c hc => ?_, fun i x y hx hy => ?_, ?_, by omega, fun c hc => ?_⟩
  · rcases List.mem_append.mp hc with hc | hc
    · have := h.ok c hc
      omega
    · rw [List.mem_singleton] at hc
      subst hc
      simp only
      omega
  · rcases Nat.lt_trichotomy (i + 1) cs.length with q | q | q
    · rw [List.getElem?_append_left (by omega)] at hx
      rw [List.getElem?_append_left q] at hy
      exact h.asc i x y hx hy
    · rw [List.getElem?_append_left (by omega)] at hx
      rw [List.getElem?_append_right (by omega), q, Nat.sub_self] at hy
      have hl2 : cs.getLast? = some x := by rw [List.getLast?_eq_getElem?, ← q, Nat.add_sub_cancel]; exact hx
      obtain ⟨g1, g2⟩ := h.last x hl2
      simp at hy
      subst hy
      unfold Asc
      simp only
      omega
    · have := (List.getElem?_eq_some_iff.mp hy).1
      simp at this
      omega
  · simp
    omega
  · simp at hc
    subst hc
    exact ⟨rfl, rfl⟩
theorem few_body {n : Int} (hn : 1 ≤ n ∧ n ≤ 4) {k : Nat} {src : D} (h : Src k src) (hk : k < 2 ^ 99) {cs : List Cell} {at' port goal : Int} (hi : FewInv n cs at' port) (hl : cs.length < 7) (hg : 0 ≤ goal ∧ goal < n) {many : D} {j_same : Option (D × Tg)} (q_same : Jk j_same) :
    ∃ src' a p o same, Src (k + 4) src' ∧ FewInv n (cs ++ [(a, p, o)]) a p ∧ b0__law_few [some (src, .io), some (.int n, .sh), some (many, .sh), some (csD cs, .ow), some (.int at', .sh), some (.int port, .sh), some (.int goal, .sh), j_same] =
      some (.nx [some (src', .io), some (.int n, .sh), some (many, .sh), some (csD (cs ++ [(a, p, o)]), .ow), some (.int a, .sh), some (.int p, .sh), some (.int goal, .sh), some (same, .sh)]) := by
  have hcl : (cs.map cD).length < lim := by rw [List.length_map]; unfold lim; omega
  have l3 : 3 ≤ lim := by decide
  have l2 : 2 ≤ lim := by decide
  have pickO : ∀ r b : Int, 0 ≤ r ∧ r < n → 0 ≤ b ∧ b < 2 → ∃ o : Int, dIxA (.list [.int goal, .int r]) (.int b) = some (.int o, .sh) ∧ 0 ≤ o ∧ o < n := fun r b hr hb => by
    have : b = 0 ∨ b = 1 := by omega
    rcases this with rfl | rfl
    · exact ⟨goal, ixA_l (i := 0) rfl, hg⟩
    · exact ⟨r, ixA_l (i := 1) rfl, hr⟩
  by_cases hp : port < n - 1
  · obtain ⟨r1, s1, e1, a1, b1, h1⟩ := draw_ok h (by omega) (n := 3) (by decide) (nb _ (by decide) (by decide))
    by_cases hr : 0 < r1
    · obtain ⟨r2, s2, e2', a2, b2, h2⟩ := draw_ok h1 (by omega) (n := n) hn.1 (nb _ (by omega) (by omega))
      obtain ⟨r3, s3, e3, a3, b3, h3⟩ := draw_ok h2 (by omega) (n := 2) (by decide) (nb _ (by decide) (by decide))
      obtain ⟨o, ho, ho2⟩ := pickO r2 r3 ⟨a2, b2⟩ ⟨a3, b3⟩
      refine ⟨s3, at', port + 1, o, .bool true, h3.mono (by omega), hi.snoc hl hn.1 (.inl ⟨rfl, rfl, hp⟩) ho2, ?_⟩
      have hm : (cs ++ [(at', port + 1, o)]).map cD = cs.map cD ++ [.tuple [.int at', .int (port + 1), .int o]] := by simp [cD]
      simp only [csD, hm]
      generalize cs.map cD = C at *
      simp [b0__law_few, e1, e2', e3, hp, hr, ho, put_j q_same, hcl, l2, l3]
    · obtain ⟨r4, s4, e4, a4, b4, h4⟩ := draw_ok h1 (by omega) (n := 2) (by decide) (nb _ (by decide) (by decide))
      obtain ⟨r2, s2, e2', a2, b2, h2⟩ := draw_ok h4 (by omega) (n := n) hn.1 (nb _ (by omega) (by omega))
      obtain ⟨r3, s3, e3, a3, b3, h3⟩ := draw_ok h2 (by omega) (n := 2) (by decide) (nb _ (by decide) (by decide))
      obtain ⟨o, ho, ho2⟩ := pickO r2 r3 ⟨a2, b2⟩ ⟨a3, b3⟩
      refine ⟨s3, at' + 1 + r4, 0, o, .bool false, h3.mono (by omega), hi.snoc hl hn.1 (.inr ⟨by omega, by omega, rfl⟩) ho2, ?_⟩
      have hm : (cs ++ [(at' + 1 + r4, 0, o)]).map cD = cs.map cD ++ [.tuple [.int (at' + 1 + r4), .int 0, .int o]] := by simp [cD]
      simp only [csD, hm]
      generalize cs.map cD = C at *
      simp [b0__law_few, e1, e2', e3, e4, hp, hr, ho, put_j q_same, hcl, l2, l3]
  · obtain ⟨r4, s4, e4, a4, b4, h4⟩ := draw_ok h (by omega) (n := 2) (by decide) (nb _ (by decide) (by decide))
    obtain ⟨r2, s2, e2', a2, b2, h2⟩ := draw_ok h4 (by omega) (n := n) hn.1 (nb _ (by omega) (by omega))
    obtain ⟨r3, s3, e3, a3, b3, h3⟩ := draw_ok h2 (by omega) (n := 2) (by decide) (nb _ (by decide) (by decide))
    obtain ⟨o, ho, ho2⟩ := pickO r2 r3 ⟨a2, b2⟩ ⟨a3, b3⟩
    refine ⟨s3, at' + 1 + r4, 0, o, .bool false, h3.mono (by omega), hi.snoc hl hn.1 (.inr ⟨by omega, by omega, rfl⟩) ho2, ?_⟩
    have hm : (cs ++ [(at' + 1 + r4, 0, o)]).map cD = cs.map cD ++ [.tuple [.int (at' + 1 + r4), .int 0, .int o]] := by simp [cD]
    simp only [csD, hm]
    generalize cs.map cD = C at *
    simp [b0__law_few, e2', e3, e4, hp, ho, put_j q_same, hcl, l2, l3]
theorem few_loop {n : Int} (hn : 1 ≤ n ∧ n ≤ 4) {goal : Int} (hg : 0 ≤ goal ∧ goal < n) {many : Int} (hm : many ≤ 7) : ∀ (m fuel k : Nat) (src : D) (cs : List Cell) (at' port : Int) (j_same : Option (D × Tg)), Src k src → k + 4 * m < 2 ^ 99 → FewInv n cs at' port → (many - cs.length).toNat = m → m < fuel → Jk j_same →
    ∃ src' cs' a p k_same, Src (k + 4 * m) src' ∧ FewInv n cs' a p ∧ many ≤ cs'.length ∧ wl (tB (e2 dLt (oE (eN fLen (aC (oV 3) aN))) (oV 2))) b0__law_few fuel [some (src, .io), some (.int n, .sh), some (.int many, .sh), some (csD cs, .ow), some (.int at', .sh), some (.int port, .sh), some (.int goal, .sh), j_same] =
      some (.nx [some (src', .io), some (.int n, .sh), some (.int many, .sh), some (csD cs', .ow), some (.int a, .sh), some (.int p, .sh), some (.int goal, .sh), k_same])
  | m, 0, _, _, _, _, _, _, _, _, _, _, hf, _ => by omega
  | 0, fuel + 1, k, src, cs, at', port, j_same, h, _, hi, hc, _, _ => by
    refine ⟨src, cs, at', port, j_same, h, hi, by omega, wl_done ?_⟩
    have : ¬ (cs.length : Int) < many := by omega
    simp [this]
  | m + 1, fuel + 1, k, src, cs, at', port, j_same, h, hk, hi, hc, hf, q => by
    obtain ⟨src', a, p, o, same, h1, h2, h3⟩ := few_body hn h (by omega) hi (by omega) hg (many := .int many) q
    have hlen : (cs ++ [(a, p, o)]).length = cs.length + 1 := by simp
    obtain ⟨src2, cs', a', p', k_same, g1, g2, g3, g4⟩ := few_loop hn hg hm m fuel (k + 4) src' (cs ++ [(a, p, o)]) a p (some (same, .sh)) h1 (by omega) h2 (by omega) (by omega) jk_h
    refine ⟨src2, cs', a', p', k_same, g1.mono (by omega), g2, g3, (wl_succ ?_ h3).trans g4⟩
    have : (cs.length : Int) < many := by omega
    simp [this]
theorem law_few_ok {n : Int} (hn : 1 ≤ n ∧ n ≤ 4) {many : Int} (hm : many ≤ 7) {k : Nat} {src : D} (h : Src k src) (hk : k < 2 ^ 98) : ∃ src' cs a p, m__law_few src [.int n, .int many] = some ((csD cs, .ow), src') ∧ FewInv n cs a p ∧ Src (k + 29) src' := by
  obtain ⟨goal, s1, e1, a1, b1, h1⟩ := draw_ok h (by omega) (n := n) hn.1 (nb _ (by omega) (by omega))
  obtain ⟨src', cs, a, p, k_same, g1, g2, g3, g4⟩ := few_loop hn ⟨a1, b1⟩ hm (many - 0).toNat 100000 (k + 1) s1 [] 0 (-1) none h1 (by omega) ⟨by simp, by simp, by simp, by simp, by omega, by simp⟩ (by simp) (by omega) jk_n
  refine ⟨src', cs, a, p, ?_, g2, g1.mono (by omega)⟩
  have hneg : dNeg (.int 1) = some (.int (-1), .sh) := rfl
  have g4' : wl (tB (e2 dLt (oE (eN fLen (aC (oV 3) aN))) (oV 2))) b0__law_few 100000 [some (s1, .io), some (.int n, .sh), some (.int many, .sh), some (.list [], .ow), some (.int 0, .sh), some (.int (-1), .sh), some (.int goal, .sh), none] = _ := g4
  generalize cs.map cD = C at *
  simp [m__law_few, mFnI, ev0I, e1, hneg, sWhile, g4', puts]
theorem FewInv.cells {n : Int} (hn : 1 ≤ n ∧ n ≤ 4) {cs : List Cell} {a p : Int} (h : FewInv n cs a p) : CellsOk n cs := ⟨by have := h.len; omega, fun c hc => by
  have h1 := h.ok c hc
  have h2 := h.at1
  have h3 := h.len
  exact ⟨⟨h1.1.1, by omega⟩, h1.2⟩, h.asc⟩
end Gn
namespace Gn
open PySem PySem.Spec PyProof.Rows L2 Dd
theorem rdy_get {R : List Int} {i : Nat} {s : Int} (h : R[i]? = some s) : rdy R i = s := by
  unfold rdy
  rw [h]
  rfl
theorem cellI_get {cs : List Cell} {i : Nat} {c : Cell} (h : cs[i]? = some c) : cellI cs i = c := by
  unfold cellI
  rw [h]
  rfl
theorem inj_of_map {l : List Nat} {f : Nat → Int} (h : (l.map f).Nodup) (hl : l.Nodup) {i j : Nat} (hi : i ∈ l) (hj : j ∈ l) (e : f i = f j) : i = j := by
  induction l with
  | nil => cases hi
  | cons a l ih =>
    rw [List.map_cons, List.nodup_cons] at h
    rw [List.nodup_cons] at hl
    rcases List.mem_cons.mp hi with e1 | hi2 <;> rcases List.mem_cons.mp hj with e2 | hj2
    · rw [e1, e2]
    · exact (h.1 (List.mem_map.mpr ⟨j, hj2, by rw [← e, e1]⟩)).elim
    · exact (h.1 (List.mem_map.mpr ⟨i, hi2, by rw [e, e2]⟩)).elim
    · exact ih h.2 hl.2 hi2 hj2
theorem busy_row_ok {n : Int} {cs : List Cell} (hc : CellsOk n cs) {R : List Int} (h : BusyRow cs R) (hb : ∀ i, i < cs.length → slotI cs i ≤ 10 ^ 30) : RowOk cs R := by
  refine ⟨h.len, fun i c s hi hs => ?_, fun i j c d s t hij hi hj hs ht q => ?_⟩
  · have hil := (List.getElem?_eq_some_iff.mp hi).1
    have h1 := h.ge i hil
    have h2 := stay_short hc h hil
    have h3 := hb i hil
    have h4 := hc.few
    rw [rdy_get hs] at h1 h2
    have e : slotI cs i = c.1 := by unfold slotI; rw [cellI_get hi]
    omega
  · have hil := (List.getElem?_eq_some_iff.mp hi).1
    have hjl := (List.getElem?_eq_some_iff.mp hj).1
    have hn := (h.perm c.2.2).symm.nodup (sent_asc.imp fun h => Int.ne_of_lt h)
    have e1 : portAt (cellI cs i) 2 = c.2.2 := by rw [cellI_get hi]; rfl
    have e2 : portAt (cellI cs j) 2 = c.2.2 := by rw [cellI_get hj, q.1]; rfl
    have := inj_of_map hn (cellsAt_nodup cs 2 _) (mem_cellsAt.mpr ⟨hil, e1⟩) (mem_cellsAt.mpr ⟨hjl, e2⟩) (by rw [rdy_get hs, rdy_get ht, q.2])
    omega
/-- few cells with a busy row -/
structure FewBusy (n : Int) (cs : List Cell) (R : List Int) : Prop where
  size : 1 ≤ n ∧ n ≤ 8
  cells : CellsOk n cs
  few : cs.length ≤ 7
  low : ∀ i, i < cs.length → slotI cs i ≤ 10 ^ 30
  busy : BusyRow cs R
theorem FewBusy.good {n : Int} {cs : List Cell} {R : List Int} (h : FewBusy n cs R) : Good n cs R := ⟨h.size, h.cells, busy_row_ok h.cells h.busy h.low⟩
theorem FewBusy.few' {n : Int} {cs : List Cell} {R : List Int} (h : FewBusy n cs R) : Few n cs R := ⟨h.good, h.few, fun x hx => by
  obtain ⟨i, hi⟩ := List.mem_iff_getElem?.mp hx
  rw [List.getElem?_zip_eq_some] at hi
  have hil := (List.getElem?_eq_some_iff.mp hi.1).1
  have := stay_short h.cells h.busy hil
  have e : slotI cs i = x.1.1 := by unfold slotI; rw [cellI_get hi.1]
  rw [rdy_get hi.2, e] at this
  have := h.few
  omega⟩
theorem load_pos {cs : List Cell} {R : List Int} {p : Int} (hp : 0 ≤ p) : (∀ s e, (load cs R 1 s e : Int) ≤ p) ↔ mload cs R 1 ≤ p := (mload_le hp).symm
theorem plans_p1 {n : Int} {cs : List Cell} {R : List Int} (h : FewBusy n cs R) {p : Int} (hp : 0 ≤ p) : plans cs (spans cs R) p 1 = if mload cs R 1 ≤ p then [R] else [] := by
  rw [busy_plans h.cells h.busy]
  by_cases hk : mload cs R 1 ≤ p
  · rw [if_pos hk, if_pos ((load_pos hp).mpr hk)]
  · rw [if_neg hk, if_neg fun q => hk ((load_pos hp).mp q)]
theorem plans_p2 {n : Int} {cs : List Cell} {R : List Int} (h : FewBusy n cs R) {p : Int} (hp : 0 ≤ p) (hk : mload cs R 1 ≤ p) : 0 < (plans cs (spans cs R) p 2).length := by
  refine List.length_pos_of_mem (a := R) ((mem_plans_row h.busy.len).mpr ⟨⟨h.busy.len, fun i hi => ⟨h.busy.ge i hi, Int.le_refl _⟩⟩, fun s e => ⟨(load_pos hp).mpr hk s e, ?_⟩⟩)
  have := busy_load h.busy s e
  omega
theorem right_body {n : Int} {cs : List Cell} {R : List Int} (h : FewBusy n cs R) {m : Int} (hm : 1 ≤ m ∧ m ≤ 3) {j_pace j_is_due : Option (D × Tg)} (q1 : Jk j_pace) (q2 : Jk j_is_due) :
    b0__law_right [some (.int n, .sh), some (csD cs, .sh), some (iD R, .sh), some (.int m, .sh), j_pace, j_is_due] = some (.nx [some (.int n, .sh), some (csD cs, .sh), some (iD R, .sh), some (.int m, .sh), some (.tuple [.int m, .int 1], .sh), some (.bool (decide (mload cs R 1 ≤ m)), .sh)]) := by
  have hs1 : SpeedsOk m 1 := ⟨⟨by omega, by omega⟩, by decide, by decide⟩
  have hs2 : SpeedsOk m 2 := ⟨⟨by omega, by omega⟩, by decide, by decide⟩
  have g1 := clash_number_ok h.good
  have g2 := plan_count_ok h.few' hs1
  have g3 := has_plan_ok h.few' hs1
  have g4 := plan_by_leaving_ok h.good h.busy hm.1
  have g5 := plan_count_ok h.few' hs2
  have hp := plans_p1 h (p := m) (by omega)
  have l2 : 2 ≤ lim := by decide
  by_cases hk : mload cs R 1 ≤ m
  · rw [if_pos hk] at hp g4
    have hp2 := plans_p2 h (by omega) hk
    have g6 := nth_plan_ok h.few' hs1 (i := 0) (w := R) (by rw [hp]; rfl)
    have g6' : m_nth_plan [.int n, csD cs, iD R, .tuple [.int m, .int 1], .int 0] = some (iD R, .ow) := g6
    rw [hp] at g2 g3
    have g2' : m_plan_count [.int n, csD cs, iD R, .tuple [.int m, .int 1]] = some (.int 1, .sh) := g2
    have g3' : m_has_plan [.int n, csD cs, iD R, .tuple [.int m, .int 1]] = some (.bool true, .sh) := g3
    have g7 := ne_ii R R
    rw [decide_eq_true rfl] at g7
    have hb0 : dNe (.bool true) (.bool true) = some (.bool false, .sh) := rfl
    have hsc : Dd.scal (iD R) = false := rfl
    generalize (plans cs (spans cs R) m 2).length = k2 at *
    have hk2 : ¬ (k2 : Int) < 1 := by omega
    generalize mload cs R 1 = ml at *
    generalize csD cs = C at *
    generalize iD R = RR at *
    simp [b0__law_right, g1, g2', g3', g4, g5, g6', g7, hk, hk2, hsc, hb0, l2, put_j q1, put_j q2, fInt_b]
  · rw [if_neg hk] at hp g4
    rw [hp] at g2 g3
    have g2' : m_plan_count [.int n, csD cs, iD R, .tuple [.int m, .int 1]] = some (.int 0, .sh) := g2
    have g3' : m_has_plan [.int n, csD cs, iD R, .tuple [.int m, .int 1]] = some (.bool false, .sh) := g3
    have hb0 : dNe (.bool false) (.bool false) = some (.bool false, .sh) := rfl
    have hn0 : dNe .none .none = some (.bool false, .sh) := rfl
    generalize (plans cs (spans cs R) m 2).length = k2 at *
    have hk2 : ¬ (k2 : Int) < 0 := by omega
    generalize mload cs R 1 = ml at *
    generalize csD cs = C at *
    generalize iD R = RR at *
    simp [b0__law_right, g1, g2', g3', g4, g5, hk, hk2, hb0, hn0, l2, put_j q1, put_j q2, fInt_b]
theorem law_right_ok {n : Int} {cs : List Cell} {R : List Int} (h : FewBusy n cs R) : m__law_right [.int n, csD cs, iD R] = some (.bool true, .sh) := by
  obtain ⟨e', h1, j_many, j_pace, j_is_due, q_many, q_pace, q_is_due, rfl⟩ := fl_pre (enc := PyData.int) (g := gN 3) (b := b0__law_right) (cs := rng 1 3) (fun pre (e : Ev) => (∃ j_many j_pace j_is_due, Jk j_many ∧ Jk j_pace ∧ Jk j_is_due ∧ e = [some (.int n, .sh), some (csD cs, .sh), some (iD R, .sh), j_many, j_pace, j_is_due]))
    (fun pre m post he e ⟨j_many, j_pace, j_is_due, q_many, q_pace, q_is_due, q_env⟩ => by
      subst q_env
      have hm : m ∈ rng 1 3 := by rw [he]; simp
      rw [mem_rng] at hm
      have hb := right_body h (m := m) (by omega) q_pace q_is_due
      exact ⟨_, _, by simp [put_j q_many, put_j q_pace, put_j q_is_due], hb, some (.int m, .sh), _, _, jk_h, jk_h, jk_h, rfl⟩) (rng 1 3) [] rfl [some (.int n, .sh), some (csD cs, .sh), some (iD R, .sh), none, none, none] ⟨none, none, none, jk_n, jk_n, jk_n, rfl⟩
  have hs : SpeedsOk 1 1 := ⟨⟨by decide, by decide⟩, by decide, by decide⟩
  have g1 := clashes_ok h.good
  have g3 := has_plan_ok h.few' hs
  have hp := plans_p1 h (p := 1) (by decide)
  have hc : (crowd cs R 1).isEmpty = decide (0 < (plans cs (spans cs R) 1 1).length) := by
    rw [hp, Bool.eq_iff_iff, List.isEmpty_iff, crowd_nil, decide_eq_true_eq]
    by_cases hk : mload cs R 1 ≤ 1 <;> simp [hk]
  have g2 := eq_nil_p (crowd cs R 1)
  rw [hc] at g2
  have hbb : ∀ b : Bool, dEq (.bool b) (.bool b) = some (.bool true, .sh) := fun b => by cases b <;> rfl
  have hr : rngD 1 3 = (rng 1 3).map PyData.int := rngD_eq 1 3
  rw [← hr] at h1
  generalize decide (0 < (plans cs (spans cs R) 1 1).length) = b at *
  generalize (crowd cs R 1).map pD = K at *
  generalize csD cs = C at *
  generalize iD R = RR at *
  simp [m__law_right, h1, g1, g2, g3, hbb, show 2 ≤ lim by decide]
end Gn
namespace Gn
open PySem PySem.Spec PyProof.Rows L2 Dd
theorem prod_pos : ∀ (xs : List Int) (a : Int), 0 < a → (∀ x ∈ xs, 0 < x) → 0 < xs.foldl (· * ·) a
  | [], a, h, _ => h
  | x :: xs, a, h, hx => prod_pos xs (a * x) (Int.mul_pos h (hx x List.mem_cons_self)) fun y hy => hx y (List.mem_cons_of_mem _ hy)
structure Lot (n : Int) (cs : List Cell) : Prop where
  size : 1 ≤ n ∧ n ≤ 8
  cells : CellsOk n cs
  few : cs.length ≤ 7
  low : ∀ i, i < cs.length → slotI cs i ≤ 10 ^ 30
theorem Lot.count {n : Int} {cs : List Cell} (h : Lot n cs) : (choices cs (ownSlots cs)).length ≤ 60 ∧ (∀ x ∈ choices cs (ownSlots cs), x.natAbs ≤ 2 ^ 6) ∧ 0 < prodL (choices cs (ownSlots cs)) ∧ (prodL (choices cs (ownSlots cs))).natAbs ≤ 2 ^ 8000 := by
  have h1 := choices_own h.cells
  have h2 := h.few
  have h3 : (choices cs (ownSlots cs)).length ≤ (outletsOf cs).length * 7 := fm_len fun o _ => by
    rw [choiceO_len]
    exact Nat.le_trans (cellsAt_len cs 2 o) h2
  have h4 := outlets_len cs
  have h5 : ∀ x ∈ choices cs (ownSlots cs), x.natAbs ≤ 2 ^ 6 := fun x hx => by have := h1 x hx; omega
  have h6 := prod_abs (choices cs (ownSlots cs)) 1 0 (by decide) h5
  exact ⟨by omega, h5, prod_pos _ 1 (by decide) fun x hx => (h1 x hx).1, le_pow (i := 0 + 6 * (choices cs (ownSlots cs)).length) 8000 h6 (by omega)⟩
theorem Lot.row {n : Int} {cs : List Cell} (h : Lot n cs) {x : Int} (hx : 0 ≤ x ∧ x < prodL (choices cs (ownSlots cs))) : ∃ R, m_nth_busy [.int n, csD cs, .int x] = some (iD R, .ow) ∧ FewBusy n cs R := by
  obtain ⟨c1, c2, _, _⟩ := h.count
  have hpos := choices_own h.cells
  have hfew := h.few
  obtain ⟨ds, ps, h1, h2⟩ := row_ex (cs := cs) (ready := ownSlots cs) (fun m hm => (hpos m hm).1) x
  have h3 := row_with_ok h.cells.few (own_len cs) (fun m hm => ⟨(hpos m hm).1, by have := (hpos m hm).2; omega⟩) h1 h2
  have h4 := (busy_of_picks (fun i hi => by rw [own_rdy]; exact Int.le_refl _) h2).1
  exact ⟨_, nth_busy_ok h.size h.cells c1 c2 hx h3 rfl, h.size, h.cells, h.few, h.low, h4⟩
theorem k73_b0 {n : Int} {cs : List Cell} (hl : Lot n cs) {k : Nat} {src : D} (h : Src k src) (hk : k < 2 ^ 98) (sc kk ce x : D) {t : Tg} (ht : t = .sh ∨ t = .ow) : ∃ src', Src (k + 1) src' ∧ b0_law [some (sc, .sh), some (kk, .sh), some (ce, .sh), some (src, .ow), some (.int n, .sh), some (csD cs, t), some (x, .sh)] = some (.nx [some (sc, .sh), some (kk, .sh), some (ce, .sh), some (src', .ow), some (.int n, .sh), some (csD cs, .sh), some (x, .sh)]) := by
  obtain ⟨c1, c2, c3, c4⟩ := hl.count
  have g1 := busy_count_ok hl.size hl.cells c1 c2
  obtain ⟨r, s1, e1, a1, b1, h1⟩ := draw_ok h (by omega) (n := prodL (choices cs (ownSlots cs))) (by omega) c4
  obtain ⟨R, g2, hf⟩ := hl.row ⟨a1, b1⟩
  have g3 := law_right_ok hf
  have hsc : Dd.scal (iD R) = false := rfl
  refine ⟨s1, h1, ?_⟩
  generalize prodL (choices cs (ownSlots cs)) = pr at *
  generalize csD cs = C at *
  generalize iD R = RR at *
  rcases ht with rfl | rfl
  · simp [b0_law, g1, e1, g2, g3, hsc]
  · simp [b0_law, g1, e1, g2, g3, hsc]
theorem k73_b1 (sc : List Int) (k : Nat) (hk : k < 8) (cell : Int) {j_source j_wide j_lot j_turn : Option (D × Tg)} (q_source : Jk j_source) (q_wide : Jk j_wide) (q_lot : Jk j_lot) (q_turn : Jk j_turn) : ∃ k_source k_wide k_lot k_turn, Jk k_source ∧ Jk k_wide ∧ Jk k_lot ∧ Jk k_turn ∧ b1_law [some (iD sc, .sh), some (nD k, .sh), some (.int cell, .sh), j_source, j_wide, j_lot, j_turn] = some (.nx [some (iD sc, .sh), some (nD k, .sh), some (.int cell, .sh), k_source, k_wide, k_lot, k_turn]) := by
  obtain ⟨src, e1, h⟩ := source_ok cell (k : Int) (by omega) (by omega)
  obtain ⟨r1, s1, e2', a1, b1, h1⟩ := draw_ok h (by omega) (n := 4) (by decide) (nb _ (by decide) (by decide))
  obtain ⟨m, hm, hm2⟩ : ∃ m : Int, dIxA (.list [.int 5, .int 7]) (.int (if (!decide (sc = [])) = true then 1 else 0)) = some (.int m, .sh) ∧ 1 ≤ m ∧ m ≤ 7 := by
    by_cases hs : sc = []
    · exact ⟨5, by simp only [hs, decide_true, Bool.not_true]; exact ixA_l (i := 0) rfl, by decide, by decide⟩
    · exact ⟨7, by simp only [hs, decide_false, Bool.not_false, if_true]; exact ixA_l (i := 1) rfl, by decide, by decide⟩
  obtain ⟨r2, s2, e3, a2, b2, h2⟩ := draw_ok h1 (by omega) (n := m) (by omega) (nb _ (by omega) (by omega))
  obtain ⟨s3, cs, aa, pp, e4, hi, h3⟩ := law_few_ok (n := 1 + r1) (by omega) (many := r2) (by omega) h2 (by omega)
  have hlot : Lot (1 + r1) cs := ⟨by omega, hi.cells (by omega), hi.len, fun i hil => by
    have hc := hi.ok (cellI cs i) (by
      have e : cellI cs i = cs[i] := by simp [cellI, hil]
      rw [e]
      exact List.getElem_mem hil)
    have := hi.at1
    have := hi.len
    unfold slotI
    omega⟩
  obtain ⟨e', f1, src2, t, ht, h4, j6, q6, rfl⟩ := fl_pre (enc := nD) (g := gN 6) (b := b0_law) (cs := List.range 3) (fun pre (e : Ev) => ∃ src t, (t = Tg.sh ∨ t = Tg.ow) ∧ Src (31 + pre.length) src ∧ ∃ j6, Jk j6 ∧ e = [some (iD sc, .sh), some (nD k, .sh), some (.int cell, .sh), some (src, .ow), some (.int (1 + r1), .sh), some (csD cs, t), j6])
    (fun pre x post he e ⟨src, t, ht, h, j6, q6, q⟩ => by
      subst q
      have hl := congrArg List.length he
      rw [List.length_range, List.length_append] at hl
      obtain ⟨src', h', hb⟩ := k73_b0 hlot h (by omega) (iD sc) (nD k) (.int cell) (nD x) ht
      refine ⟨_, _, by simp [put_j q6], hb, src', .sh, .inl rfl, by rw [List.length_append]; exact h', some (nD x, .sh), jk_h, rfl⟩) (List.range 3) [] rfl [some (iD sc, .sh), some (nD k, .sh), some (.int cell, .sh), some (s3, .ow), some (.int (1 + r1), .sh), some (csD cs, .ow), j_turn] ⟨s3, .ow, .inr rfl, h3, j_turn, q_turn, rfl⟩
  refine ⟨some (src2, .ow), some (.int (1 + r1), .sh), some (csD cs, t), j6, jk_w, jk_h, ?_, q6, ?_⟩
  · rcases ht with rfl | rfl
    · exact jk_h
    · exact jk_w
  · rw [← rngD0] at f1
    have hsc : Dd.scal src = false := by
      obtain ⟨a, b, c, rfl, _⟩ := h
      rfl
    have hne := ne_ii sc []
    have hne' : dNe (iD sc) (.list []) = some (.bool (!decide (sc = [])), .sh) := hne
    generalize decide (sc = []) = bb at *
    generalize csD cs = C at *
    generalize iD sc = SC at *
    simp only [Bool.not_eq_true'] at hm
    simp [b1_law, e1, e2', e3, e4, put_j q_source, put_j q_wide, put_j q_lot, f1, hsc, hne', fInt_b, hm, show 2 ≤ lim by decide]
theorem law_true (ns : List Int) (h : ns.length ≤ 63) : m_law [.list (ns.map PyData.int)] = some (.bool true, .sh) := by
  obtain ⟨xs, hx, hsl⟩ := items_ok ns 8 (by decide)
  have hlim : ns.length + 1 ≤ lim := by unfold lim; omega
  obtain ⟨e', h1, hP⟩ := fl_pre (enc := fun p : Int × Nat => PyData.tuple [nD p.2, .int p.1]) (g := gT (gsC (gN 1) (gsC (gN 2) gsN)) 2) (b := b1_law) (cs := xs.zipIdx) (fun pre (e : Ev) => ∃ j1 j2 j3 j4 j5 j6, Jk j1 ∧ Jk j2 ∧ Jk j3 ∧ Jk j4 ∧ Jk j5 ∧ Jk j6 ∧ e = [some (iD ns, .sh), j1, j2, j3, j4, j5, j6])
    (fun pre x post he e ⟨j1, j2, j3, j4, j5, j6, q1, q2, q3, q4, q5, q6, q⟩ => by
      subst q
      have hm : x ∈ xs.zipIdx := by rw [he]; simp
      obtain ⟨c, i⟩ := x
      have hi := List.mem_zipIdx_iff_getElem?.mp hm
      have hil : i < xs.length := (List.getElem?_eq_some_iff.mp hi).1
      obtain ⟨k3, k4, k5, k6, r3, r4, r5, r6, hb⟩ := k73_b1 ns i (by omega) c q3 q4 q5 q6
      exact ⟨_, _, by simp [put_j q1, put_j q2], hb, _, _, _, _, _, _, jk_h, jk_h, r3, r4, r5, r6, rfl⟩) xs.zipIdx [] rfl [some (iD ns, .sh), none, none, none, none, none, none] ⟨none, none, none, none, none, none, jk_n, jk_n, jk_n, jk_n, jk_n, jk_n, rfl⟩
  rw [← enumD_map] at h1
  have hadd : dAdd (.list (ns.map PyData.int)) (.list [.int 0]) = some (.list (ns.map PyData.int ++ [.int 0]), .ow) := by
    show (if (ns.map PyData.int).length + 1 ≤ lim then some (PyData.list (ns.map PyData.int ++ [.int 0]), Tg.ow) else none) = _
    rw [List.length_map, if_pos hlim]
  have hl : (ns.map PyData.int).length = ns.length := List.length_map _
  simp only [iD] at *
  generalize ns.map PyData.int = S at *
  simp [m_law, hl, hadd, fMax2, fMin2, hsl, h1, show 1 ≤ lim by decide]
end Gn
open PySem PySem.W PyProof.Rows
set_option maxHeartbeats 0 in
theorem PySem.Challenge.cw_idealtwin_k73_whole_busy_rows_with_one_s_holds : PySem.Challenge.rw_idealtwin_k73_whole_busy_rows_with_one_s.Holds := by
  w_on; o_law; k_head; (case hw => w_witness2)
  k_fill
  refine L2.walk_of (l := PySem.Challenge.rw_idealtwin_k73_whole_busy_rows_with_one_s) (n := 63) (k := 9) (x := "script") (CX := fun _ => L2.CX0) (sp := fun w => Dd.spP _ Gn.m_law) rfl (by decide) rfl ⟨rfl, by decide, by decide⟩ (fun w h Y => PySem.W.kIn_of Y) ?F (fun _ H a ns hl hO hS => Dd.law_sp (Gn.law_true ns hl) rfl hS) (fun _ _ _ _ _ h => h)
  case F =>
    intro w mg fa h KX G hmg
    refine' Gn.all_mk KX G hmg ?a_is_integer ?l_is_integer ?c_is_integer ?k_is_integer ?lT_is_integer ?vT_is_integer ?a_need_size ?l_need_size ?c_need_size ?k_need_size ?a_is_cell ?l_is_cell ?c_is_cell ?k_is_cell ?a_cells_fault ?l_cells_fault ?c_cells_fault ?k_cells_fault ?a_need_cells ?l_need_cells ?c_need_cells ?k_need_cells ?a_row_fault ?l_row_fault ?c_row_fault ?k_row_fault ?a_need_row ?l_need_row ?c_need_row ?k_need_row ?a_need_number ?l_need_number ?c_need_number ?k_need_number ?lT_need_number ?vT_need_number ?a_cells_to ?l_cells_to ?c_cells_to ?k_cells_to ?a_sending_slots ?l_sending_slots ?c_sending_slots ?k_sending_slots ?a_outlets_of ?l_outlets_of ?c_outlets_of ?k_outlets_of ?a_is_busy_row ?l_is_busy_row ?c_is_busy_row ?k_is_busy_row ?a_need_busy ?l_need_busy ?c_need_busy ?k_need_busy ?a_choices_of ?l_choices_of ?c_choices_of ?k_choices_of ?a_product_of ?l_product_of ?c_product_of ?k_product_of ?a_row_with ?l_row_with ?c_row_with ?k_row_with ?a_own_slots ?l_own_slots ?c_own_slots ?k_own_slots ?a_busy_count ?l_busy_count ?c_busy_count ?k_busy_count ?a_nth_busy ?l_nth_busy ?c_nth_busy ?k_nth_busy ?a_need_speeds ?l_need_speeds ?c_need_speeds ?k_need_speeds ?a_loads_of ?l_loads_of ?c_loads_of ?k_loads_of ?a_crowded ?l_crowded ?c_crowded ?k_crowded ?a_most_at_once ?l_most_at_once ?c_most_at_once ?k_most_at_once ?a_clashes ?l_clashes ?c_clashes ?k_clashes ?a_clash_number ?l_clash_number ?c_clash_number ?k_clash_number ?a_plan_by_leaving ?l_plan_by_leaving ?c_plan_by_leaving ?k_plan_by_leaving ?a_check_few ?l_check_few ?c_check_few ?k_check_few ?a_spans_of ?l_spans_of ?c_spans_of ?k_spans_of ?a_tight_ports ?l_tight_ports ?c_tight_ports ?k_tight_ports ?a_picks_in ?l_picks_in ?c_picks_in ?k_picks_in ?a_ways_with ?l_ways_with ?c_ways_with ?k_ways_with ?a_parts_of ?l_parts_of ?c_parts_of ?k_parts_of ?a_count_with ?l_count_with ?c_count_with ?k_count_with ?a_need_few ?l_need_few ?c_need_few ?k_need_few ?a_has_plan ?l_has_plan ?c_has_plan ?k_has_plan ?a_plan_count ?l_plan_count ?c_plan_count ?k_plan_count ?a_nth_plan ?l_nth_plan ?c_nth_plan ?k_nth_plan ?a__law_source ?l__law_source ?c__law_source ?k__law_source ?a__law_draw ?l__law_draw ?c__law_draw ?k__law_draw ?a__law_few ?l__law_few ?c__law_few ?k__law_few ?a__law_right ?l__law_right ?c__law_right ?k__law_right ?a_law ?l_law ?c_law ?k_law ?z_abs ?z_all ?z_any ?z_bool ?z_divmod ?z_enumerate ?z_int ?z_isinstance ?z_len ?z_list ?z_max ?z_min ?z_range ?z_set ?z_sorted ?z_sum ?z_tuple ?z_zip ?c_MOST_CELLS ?c_MOST_FEW ?c_MOST_LEAVING ?c_MOST_SIZE ?c_MOST_SLOT ?c_MOST_SPEED
    (case a_is_integer => k_is); (case l_is_integer => k_is); (case c_is_integer => k_is); (case k_is_integer => k_is); (case lT_is_integer => k_is); (case vT_is_integer => first | exact .cons rfl (.cons rfl .nil) | exact .cons ⟨_, rfl⟩ (.cons rfl .nil) | exact .cons rfl .nil); (case a_need_size => k_is); (case l_need_size => k_is); (case c_need_size => k_is); (case k_need_size => k_is); (case a_is_cell => k_is); (case l_is_cell => k_is); (case c_is_cell => k_is); (case k_is_cell => k_is); (case a_cells_fault => k_is); (case l_cells_fault => k_is); (case c_cells_fault => k_is); (case k_cells_fault => k_is); (case a_need_cells => k_is); (case l_need_cells => k_is); (case c_need_cells => k_is); (case k_need_cells => k_is); (case a_row_fault => k_is); (case l_row_fault => k_is); (case c_row_fault => k_is); (case k_row_fault => k_is); (case a_need_row => k_is); (case l_need_row => k_is); (case c_need_row => k_is); (case k_need_row => k_is); (case a_need_number => k_is); (case l_need_number => k_is); (case c_need_number => k_is); (case k_need_number => k_is); (case lT_need_number => k_is); (case vT_need_number => first | exact .cons rfl (.cons rfl .nil) | exact .cons ⟨_, rfl⟩ (.cons rfl .nil) | exact .cons rfl .nil); (case a_cells_to => k_is); (case l_cells_to => k_is); (case c_cells_to => k_is); (case k_cells_to => k_is); (case a_sending_slots => k_is); (case l_sending_slots => k_is); (case c_sending_slots => k_is); (case k_sending_slots => k_is); (case a_outlets_of => k_is); (case l_outlets_of => k_is); (case c_outlets_of => k_is); (case k_outlets_of => k_is); (case a_is_busy_row => k_is); (case l_is_busy_row => k_is); (case c_is_busy_row => k_is); (case k_is_busy_row => k_is); (case a_need_busy => k_is); (case l_need_busy => k_is); (case c_need_busy => k_is); (case k_need_busy => k_is); (case a_choices_of => k_is); (case l_choices_of => k_is); (case c_choices_of => k_is); (case k_choices_of => k_is); (case a_product_of => k_is); (case l_product_of => k_is); (case c_product_of => k_is); (case k_product_of => k_is); (case a_row_with => k_is); (case l_row_with => k_is); (case c_row_with => k_is); (case k_row_with => k_is); (case a_own_slots => k_is); (case l_own_slots => k_is); (case c_own_slots => k_is); (case k_own_slots => k_is); (case a_busy_count => k_is); (case l_busy_count => k_is); (case c_busy_count => k_is); (case k_busy_count => k_is); (case a_nth_busy => k_is); (case l_nth_busy => k_is); (case c_nth_busy => k_is); (case k_nth_busy => k_is); (case a_need_speeds => k_is); (case l_need_speeds => k_is); (case c_need_speeds => k_is); (case k_need_speeds => k_is); (case a_loads_of => k_is); (case l_loads_of => k_is); (case c_loads_of => k_is); (case k_loads_of => k_is); (case a_crowded => k_is); (case l_crowded => k_is); (case c_crowded => k_is); (case k_crowded => k_is); (case a_most_at_once => k_is); (case l_most_at_once => k_is); (case c_most_at_once => k_is); (case k_most_at_once => k_is); (case a_clashes => k_is); (case l_clashes => k_is); (case c_clashes => k_is); (case k_clashes => k_is); (case a_clash_number => k_is); (case l_clash_number => k_is); (case c_clash_number => k_is); (case k_clash_number => k_is); (case a_plan_by_leaving => k_is); (case l_plan_by_leaving => k_is); (case c_plan_by_leaving => k_is); (case k_plan_by_leaving => k_is); (case a_check_few => k_is); (case l_check_few => k_is); (case c_check_few => k_is); (case k_check_few => k_is); (case a_spans_of => k_is); (case l_spans_of => k_is); (case c_spans_of => k_is); (case k_spans_of => k_is); (case a_tight_ports => k_is); (case l_tight_ports => k_is); (case c_tight_ports => k_is); (case k_tight_ports => k_is); (case a_picks_in => k_is); (case l_picks_in => k_is); (case c_picks_in => k_is); (case k_picks_in => k_is); (case a_ways_with => k_is); (case l_ways_with => k_is); (case c_ways_with => k_is); (case k_ways_with => k_is); (case a_parts_of => k_is); (case l_parts_of => k_is); (case c_parts_of => k_is); (case k_parts_of => k_is); (case a_count_with => k_is); (case l_count_with => k_is); (case c_count_with => k_is); (case k_count_with => k_is); (case a_need_few => k_is); (case l_need_few => k_is); (case c_need_few => k_is); (case k_need_few => k_is); (case a_has_plan => k_is); (case l_has_plan => k_is); (case c_has_plan => k_is); (case k_has_plan => k_is); (case a_plan_count => k_is); (case l_plan_count => k_is); (case c_plan_count => k_is); (case k_plan_count => k_is); (case a_nth_plan => k_is); (case l_nth_plan => k_is); (case c_nth_plan => k_is); (case k_nth_plan => k_is); (case a__law_source => k_is); (case l__law_source => k_is); (case c__law_source => k_is); (case k__law_source => k_is); (case a__law_draw => k_is); (case l__law_draw => k_is); (case c__law_draw => k_is); (case k__law_draw => k_is); (case a__law_few => k_is); (case l__law_few => k_is); (case c__law_few => k_is); (case k__law_few => k_is); (case a__law_right => k_is); (case l__law_right => k_is); (case c__law_right => k_is); (case k__law_right => k_is); (case a_law => k_is); (case l_law => k_is); (case c_law => k_is); (case k_law => k_is); (case z_abs => k_is); (case z_all => k_is); (case z_any => k_is); (case z_bool => k_is); (case z_divmod => k_is); (case z_enumerate => k_is); (case z_int => k_is); (case z_isinstance => k_is); (case z_len => k_is); (case z_list => k_is); (case z_max => k_is); (case z_min => k_is); (case z_range => k_is); (case z_set => k_is); (case z_sorted => k_is); (case z_sum => k_is); (case z_tuple => k_is); (case z_zip => k_is); (case c_MOST_CELLS => k_is); (case c_MOST_FEW => k_is); (case c_MOST_LEAVING => k_is); (case c_MOST_SIZE => k_is); (case c_MOST_SLOT => k_is); (case c_MOST_SPEED => k_is)
