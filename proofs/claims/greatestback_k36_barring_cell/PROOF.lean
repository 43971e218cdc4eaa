import PyProof.Rows.All
import Wide.All
import OpenK.AllK
import Wide.FinOn
import KE.KStateDown
import Lean
import HandS.ForMost
import HandS.ForExc
import HandS.Deep
import HandS.Defaults
import HandS.Conv
import HandS.Style
import HandS.TupAny
import HandS.TupMul
import HandS.Property
import HandS.MakeKwOnly
import HandS.IsInst
import HandS.Wide
import HandS.Strs
import HandS.ExcInit
import HandS.ExcCtx
import HandS.Hot
import HandS.HotCalls
import HandS.ExcField
import HandS.ExcIs
import HandS.TryMany
import HandS.SortKw
import HandS.DictComp
import HandS.FStr
import HandS.Zip
import HandS.WordsExc
import HandS.Head0
import HandS.Head1
import HandS.Head2
import HandS.HeadEnd
import HandS.HeadHook1
import HandS.HeadHook2
import HandS.ExcValue
import KE.GoesEnum
import HandS.HeadNt
import PySem.Challenge.RW_greatestback_k36_barring_cell
section
set_option Elab.async false
set_option linter.all false
set_option autoImplicit false
set_option maxRecDepth 100000
set_option maxHeartbeats 2000000
namespace Eng
open PySem PySem.Spec L2
open PyProof.Rows hiding St

/-! ### data, what it is in the heap -/
inductive D where
  | non | bl (b : Bool) | int (i : Int) | str (s : Str) | lst (l : List D) | tup (l : List D) | stp (l : List D) | scr (l : List Int) | ins (c : Nat) (l : List D) | exc (c : Nat) (l : List D)
  deriving Inhabited

structure Kx where
  K : PySem.W.Frag
  cs : List (Addr × List Str)
  es : List (Addr × List Str)
  hot : Option Addr
/-- an error, not looked into -/
def exq : HO := .ext fun _ => True

mutual
inductive Rep (G : Kx) (H : Hp) : V → D → Prop
  | non : Rep G H .non .non
  | bl (b : Bool) : Rep G H (.bl b) (.bl b)
  | int (i : Int) : Rep G H (.int i) (.int i)
  | str (s : Str) : Rep G H (.str s) (.str s)
  | lst {a : Addr} {vs : List V} {ds : List D} : H a = some (.lst vs) → vs.length ≤ sizeLine → Reps G H vs ds → Rep G H (.ref a) (.lst ds)
  | tup {a : Addr} {vs : List V} {ds : List D} : SqT G.K H a vs → vs.length ≤ sizeLine → Reps G H vs ds → Rep G H (.ref a) (.tup ds)
  | stp {a : Addr} {o : Obj} {vs : List V} {ds : List D} : H a = some (.frz o (.tup vs)) → o.cls = .type "tuple" → o.dict = none → vs.length ≤ sizeLine → Reps G H vs ds → Rep G H (.ref a) (.stp ds)
  | scr {a : Addr} {ns : List Int} : SqL G.K H a (ns.map V.int) → ns.length ≤ sizeLine → Rep G H (.ref a) (.scr ns)
  | ins {a C dx : Addr} {c : Nat} {names : List Str} {vs : List V} {ds : List D} : H a = some (.ins C dx (names.zip vs)) → G.cs[c]? = some (C, names) → vs.length = names.length → Reps G H vs ds → Rep G H (.ref a) (.ins c ds)
  | exc {a dx C : Addr} {oe : Obj} {c : Nat} {names : List Str} {vs : List V} {ds : List D} : H a = some (.frz oe exq) → oe.cls = .ref C → oe.dict = some dx → (∃ fv, oe.data = .fields fv) → H dx = some (.xd (names.zip vs)) → G.es[c]? = some (C, names) → vs.length = names.length → Reps G H vs ds → Rep G H (.ref a) (.exc c ds)
inductive Reps (G : Kx) (H : Hp) : List V → List D → Prop
  | nil : Reps G H [] []
  | cons {v : V} {d : D} {vs : List V} {ds : List D} : Rep G H v d → Reps G H vs ds → Reps G H (v :: vs) (d :: ds)
end

theorem rd_mono {H H' : Hp} (s : Same H H') {a : Addr} {u : HO} (h : Rd H a u) : Rd H' a u := by
  rcases h with h | ⟨o, h⟩
  · exact .inl (s _ _ h)
  · exact .inr ⟨o, s _ _ h⟩
theorem sqt_mono {K : PySem.W.Frag} {H H' : Hp} (s : Same H H') {a : Addr} {vs : List V} (h : SqT K H a vs) : SqT K H' a vs := by
  rcases h with h | h
  · exact .inl (rd_mono s h)
  · exact .inr h
theorem sql_mono {K : PySem.W.Frag} {H H' : Hp} (s : Same H H') {a : Addr} {vs : List V} (h : SqL K H a vs) : SqL K H' a vs := by
  rcases h with h | h
  · exact .inl (rd_mono s h)
  · exact .inr h
section
variable {G : Kx} {H H' : Hp}
mutual
theorem Rep.mono (s : Same H H') : ∀ {v : V} {d : D}, Rep G H v d → Rep G H' v d
  | _, _, .non => .non
  | _, _, .bl b => .bl b
  | _, _, .int i => .int i
  | _, _, .str x => .str x
  | _, _, .lst h n r => .lst (s _ _ h) n (Reps.mono s r)
  | _, _, .tup h n r => .tup (sqt_mono s h) n (Reps.mono s r)
  | _, _, .stp h c d n r => .stp (s _ _ h) c d n (Reps.mono s r)
  | _, _, .scr h n => .scr (sql_mono s h) n
  | _, _, .ins h c n r => .ins (s _ _ h) c n (Reps.mono s r)
  | _, _, .exc h h1 h2 h3 h4 c n r => .exc (s _ _ h) h1 h2 h3 (s _ _ h4) c n (Reps.mono s r)
theorem Reps.mono (s : Same H H') : ∀ {vs : List V} {ds : List D}, Reps G H vs ds → Reps G H' vs ds
  | _, _, .nil => .nil
  | _, _, .cons h r => .cons (Rep.mono s h) (Reps.mono s r)
end
theorem Reps.length : ∀ {vs : List V} {ds : List D}, Reps G H vs ds → vs.length = ds.length
  | _, _, .nil => rfl
  | _, _, .cons _ r => congrArg (· + 1) (Reps.length r)
theorem Reps.append : ∀ {vs ws : List V} {ds es : List D}, Reps G H vs ds → Reps G H ws es → Reps G H (vs ++ ws) (ds ++ es)
  | _, _, _, _, .nil, h => h
  | _, _, _, _, .cons r t, h => .cons r (Reps.append t h)
theorem Reps.get : ∀ {vs : List V} {ds : List D} {i : Nat} {v : V}, Reps G H vs ds → vs[i]? = some v → ∃ d, ds[i]? = some d ∧ Rep G H v d
  | _, _, 0, _, .cons r _, e => by simp at e; subst e; exact ⟨_, rfl, r⟩
  | _, _, i + 1, v, .cons _ t, e => by
    obtain ⟨d, h1, h2⟩ := Reps.get (i := i) (v := v) t (by simpa using e)
    exact ⟨d, by simpa using h1, h2⟩
theorem Reps.get' : ∀ {vs : List V} {ds : List D} {i : Nat} {d : D}, Reps G H vs ds → ds[i]? = some d → ∃ v, vs[i]? = some v ∧ Rep G H v d
  | _, _, 0, _, .cons r _, e => by simp at e; subst e; exact ⟨_, rfl, r⟩
  | _, _, i + 1, d, .cons _ t, e => by
    obtain ⟨v, h1, h2⟩ := Reps.get' (i := i) (d := d) t (by simpa using e)
    exact ⟨v, by simpa using h1, h2⟩
theorem Reps.take : ∀ {vs : List V} {ds : List D} (n : Nat), Reps G H vs ds → Reps G H (vs.take n) (ds.take n)
  | _, _, 0, _ => .nil
  | _, _, _ + 1, .nil => .nil
  | _, _, n + 1, .cons r t => .cons r (Reps.take n t)
theorem Reps.drop : ∀ {vs : List V} {ds : List D} (n : Nat), Reps G H vs ds → Reps G H (vs.drop n) (ds.drop n)
  | _, _, 0, r => r
  | _, _, _ + 1, .nil => .nil
  | _, _, n + 1, .cons _ t => Reps.drop n t
theorem Reps.set {v : V} {d : D} (r : Rep G H v d) : ∀ {vs : List V} {ds : List D} (i : Nat), Reps G H vs ds → Reps G H (vs.set i v) (ds.set i d)
  | _, _, _, .nil => .nil
  | _, _, 0, .cons _ t => .cons r t
  | _, _, i + 1, .cons q t => .cons q (Reps.set r i t)
theorem Reps.eraseIdx : ∀ {vs : List V} {ds : List D} (i : Nat), Reps G H vs ds → Reps G H (vs.eraseIdx i) (ds.eraseIdx i)
  | _, _, _, .nil => .nil
  | _, _, 0, .cons _ t => t
  | _, _, i + 1, .cons q t => .cons q (Reps.eraseIdx i t)
theorem Reps.reverse : ∀ {vs : List V} {ds : List D}, Reps G H vs ds → Reps G H vs.reverse ds.reverse
  | _, _, .nil => .nil
  | _, _, .cons q t => by rw [List.reverse_cons, List.reverse_cons]; exact (Reps.reverse t).append (.cons q .nil)
theorem Reps.ints : ∀ (ns : List Int), Reps G H (ns.map V.int) (ns.map D.int)
  | [] => .nil
  | n :: r => .cons (.int n) (Reps.ints r)
end

/-! ### slots -/
/-- what is ours: a list, an instance that is being made or changed -/
inductive Ob where
  | l (xs : List D) | o (c : Nat) (fs : List (Str × D))
inductive Slot where
  | emp | fro (d : D) | own (l : Ob) | io (l : Ob)
def Slot.mine : Slot → Bool
  | .own _ => true
  | .io _ => true
  | _ => false
abbrev En := List Slot
def OwnAt (G : Kx) (Fz H : Hp) (x : Ob) (a : Addr) : Prop := match x with
  | .l l => ∃ vs, H a = some (.lst vs) ∧ Fz a = none ∧ vs.length ≤ sizeLine ∧ Reps G Fz vs l
  | .o c fs => ∃ C dx names vs, H a = some (.ins C dx vs) ∧ Fz a = none ∧ G.cs[c]? = some (C, names) ∧ vs.map (·.1) = fs.map (·.1) ∧ Reps G Fz (vs.map (·.2)) (fs.map (·.2))
def Slot.rel (G : Kx) (Fz H : Hp) : Slot → Option V → Prop
  | .emp, _ => True
  | .fro d, o => ∃ v, o = some v ∧ Rep G Fz v d
  | .own l, o => ∃ a, o = some (.ref a) ∧ OwnAt G Fz H l a
  | .io l, o => ∃ a, o = some (.ref a) ∧ OwnAt G Fz H l a
/-- the error that is being handled -/
def HotF (Fz : Hp) (x : Addr) : Prop := ∃ (o : Obj) (vs : Array Value), Fz x = some (.frz o exq) ∧ o.data = .fields vs ∧ vs[2]? = some .none
theorem HotF.mono {Fz Fz' : Hp} {x : Addr} (h : HotF Fz x) (s : Same Fz Fz') : HotF Fz' x := let ⟨o, vs, e, d, c⟩ := h; ⟨o, vs, s _ _ e, d, c⟩
structure RelS (G : Kx) (Fz : Hp) (σ : St) (H : Hp) (env : En) : Prop where
  sub : Same Fz H
  len : σ.length = env.length
  at_ : ∀ (i : Nat) (s : Slot), env[i]? = some s → ∃ o, σ[i]? = some o ∧ s.rel G Fz H o
  sep : ∀ (i j : Nat) (si sj : Slot) (a : Addr), env[i]? = some si → env[j]? = some sj → si.mine = true → sj.mine = true → σ[i]? = some (some (.ref a)) → σ[j]? = some (some (.ref a)) → i = j
  hot : ∀ x, G.hot = some x → HotF Fz x
def Own (σ : St) (env : En) (p : Addr) : Prop := ∃ (i : Nat) (s : Slot), env[i]? = some s ∧ s.mine = true ∧ σ[i]? = some (some (.ref p))
structure Ext (Fz : Hp) (σ : St) (env : En) (H : Hp) (Fz' : Hp) (σ' : St) (env' : En) (H' : Hp) : Prop where
  sub : Same Fz Fz'
  keep : ∀ p o, H p = some o → ¬ Own σ env p → H' p = some o ∧ ¬ Own σ' env' p ∧ (Fz p = none → Fz' p = none)
  ios : ∀ (i : Nat) (l : Ob), env[i]? = some (.io l) → (∃ l', env'[i]? = some (.io l')) ∧ σ'[i]? = σ[i]?
  live : ∀ a, H' a = none → H a = none
theorem Ext.refl (Fz : Hp) (σ : St) (env : En) (H : Hp) : Ext Fz σ env H Fz σ env H := ⟨fun _ _ h => h, fun _ _ h n => ⟨h, n, fun z => z⟩, fun _ l h => ⟨⟨l, h⟩, rfl⟩, fun _ h => h⟩
theorem Ext.trans {F0 F1 F2 : Hp} {σ0 σ1 σ2 : St} {e0 e1 e2 : En} {H0 H1 H2 : Hp} (a : Ext F0 σ0 e0 H0 F1 σ1 e1 H1) (b : Ext F1 σ1 e1 H1 F2 σ2 e2 H2) : Ext F0 σ0 e0 H0 F2 σ2 e2 H2 :=
  ⟨fun p o h => b.sub p o (a.sub p o h), fun p o h n => let ⟨h1, n1, f1⟩ := a.keep p o h n; let ⟨h2, n2, f2⟩ := b.keep p o h1 n1; ⟨h2, n2, fun z => f2 (f1 z)⟩, fun i l h => by
    obtain ⟨⟨l1, h1⟩, s1⟩ := a.ios i l h
    obtain ⟨h2, s2⟩ := b.ios i l1 h1
    exact ⟨h2, s2.trans s1⟩, fun q h => a.live q (b.live q h)⟩

/-! ### results -/
inductive R (α : Type) where
  | ok (a : α) (env : En)
  | err (c : Nat) (fs : List D) (env : En)
  | bad
abbrev M (α : Type) := En → R α
def M.pure {α : Type} (a : α) : M α := fun e => .ok a e
def M.bind {α β : Type} (m : M α) (f : α → M β) : M β := fun e => match m e with
  | .ok a e' => f a e'
  | .err c fs e' => .err c fs e'
  | .bad => .bad
instance : Monad M where
  pure := M.pure
  bind := M.bind
def bad {α : Type} : M α := fun _ => .bad

/-- an error of the class c that carries fs, without its object -/
def ErrIs (G : Kx) (Fz H : Hp) (cls : Value) (x : Option Addr) (c : Nat) (fs : List D) : Prop :=
  ∃ (C : Addr) (names : List Str) (vs : List V) (dx : Addr), cls = .ref C ∧ G.es[c]? = some (C, names) ∧ x = some dx ∧ Fz dx = some (.xd (names.zip vs)) ∧ vs.length = names.length ∧ Reps G Fz vs fs

/-- how a result of the machine is a result of ours: by the frozen heap, the heap ahead, the heap behind, slots, env -/
abbrev RP (ω α : Type) := Kx → Hp → Hp → Hp → St → En → ω → α → Prop
def rpD : RP V D := fun G Fz _ _ _ _ v d => Rep G Fz v d
def rpL : RP (List V) (List D) := fun G Fz _ _ _ _ v d => Reps G Fz v d
def rpB : RP Bool Bool := fun _ _ _ _ _ _ a b => a = b
/-- a value that may be a new list of ours -/
def rpS : RP V Slot := fun G Fz H0 H σ env v s => match s with
  | .fro d => Rep G Fz v d
  | .own l => ∃ a, v = .ref a ∧ OwnAt G Fz H l a ∧ H0 a = none ∧ ¬ Own σ env a
  | _ => False
def Post {ω α : Type} (rp : RP ω α) (G : Kx) (W : WX) (Fz : Hp) (σ : St) (env : En) (H : Hp) (Q : ω → Hp → Prop) : R α → Prop
  | .ok d env' => ∀ Fz' v H', Ext Fz σ env H Fz' σ env' H' → RelS G Fz' σ H' env' → rp G Fz' H H' σ env' v d → Q v H'
  | .err c fs env' => ∀ Fz' H' cls x, Ext Fz σ env H Fz' σ env' H' → RelS G Fz' σ H' env' → ErrIs G Fz' H' cls x c fs → W cls x σ H'
  | .bad => False
/-- the reading of a mirror; hv: values that are held -/
def tOf {ω α : Type} (rp : RP ω α) (G : Kx) (W : WX) (hv : List (V × D)) (m : M α) : St → Hp → (ω → Hp → Prop) → Prop := fun σ H Q =>
  ∃ Fz env, RelS G Fz σ H env ∧ (∀ p ∈ hv, Rep G Fz p.1 p.2) ∧ Post rp G W Fz σ env H Q (m env)
/-- results that don't look at the heap ahead -/
def rpFlat {ω α : Type} (rp : RP ω α) : Prop := ∀ G Fz H0 H1 H σ env v d, rp G Fz H0 H σ env v d → rp G Fz H1 H σ env v d
theorem flatD : rpFlat rpD := fun _ _ _ _ _ _ _ _ _ h => h
theorem flatL : rpFlat rpL := fun _ _ _ _ _ _ _ _ _ h => h
theorem flatB : rpFlat rpB := fun _ _ _ _ _ _ _ _ _ h => h
/-- the heap ahead may be an elder one -/
def rpBack {ω α : Type} (rp : RP ω α) : Prop := ∀ G Fz (H0 H1 H : Hp) σ env v d, (∀ a, H1 a = none → H0 a = none) → rp G Fz H1 H σ env v d → rp G Fz H0 H σ env v d
theorem backD : rpBack rpD := fun _ _ _ _ _ _ _ _ _ _ h => h
theorem backL : rpBack rpL := fun _ _ _ _ _ _ _ _ _ _ h => h
theorem backB : rpBack rpB := fun _ _ _ _ _ _ _ _ _ _ h => h
theorem backS : rpBack rpS := fun _ _ _ _ _ _ _ _ d k h => by
  cases d with
  | own l => obtain ⟨a, e, o, n, w⟩ := h; exact ⟨a, e, o, k a n, w⟩
  | fro d => exact h
  | emp => exact h
  | io l => exact h
section
variable {G : Kx} {W : WX} {hv : List (V × D)} {σ : St} {H : Hp}
theorem Post.mono {ω α : Type} {rp : RP ω α} {Fz : Hp} {env : En} {Q Q' : ω → Hp → Prop} {r : R α} (h : Post rp G W Fz σ env H Q r) (k : ∀ v H', Q v H' → Q' v H') : Post rp G W Fz σ env H Q' r := by
  cases r with
  | ok d e => exact fun Fz' v H' x r q => k v H' (h Fz' v H' x r q)
  | err c fs e => exact h
  | bad => exact h
theorem tOf.mono {ω α : Type} {rp : RP ω α} {m : M α} {Q Q' : ω → Hp → Prop} (h : tOf rp G W hv m σ H Q) (k : ∀ v H', Q v H' → Q' v H') : tOf rp G W hv m σ H Q' := by
  obtain ⟨Fz, env, r, hh, p⟩ := h
  exact ⟨Fz, env, r, hh, p.mono k⟩
theorem hv_mono {Fz Fz' : Hp} (s : Same Fz Fz') (h : ∀ p ∈ hv, Rep G Fz p.1 p.2) : ∀ p ∈ hv, Rep G Fz' p.1 p.2 := fun p hp => (h p hp).mono s
/-- one result behind another -/
theorem Post.then_ {ω α β : Type} {rp : RP ω β} (bk : rpBack rp) {Fz Fz1 : Hp} {env env1 : En} {H1 : Hp} {Q : ω → Hp → Prop} {r : R β} (x : Ext Fz σ env H Fz1 σ env1 H1) (h : Post rp G W Fz σ env H Q r) : Post rp G W Fz1 σ env1 H1 Q r := by
  cases r with
  | ok d e => exact fun Fz' v H' x' r' q => h Fz' v H' (x.trans x') r' (bk _ _ _ _ _ _ _ _ _ x.live q)
  | err c fs e => exact fun Fz' H' cls y x' r' q => h Fz' H' cls y (x.trans x') r' q
  | bad => exact h
theorem tOf.bind_ {ω α : Type} {rp : RP ω α} (bk : rpBack rp) {ma : M D} {f : D → M α} {Q : ω → Hp → Prop} (h : tOf rp G W hv (M.bind ma f) σ H Q) :
    tOf rpD G W [] ma σ H fun x H1 => ∃ d, tOf rp G W ((x, d) :: hv) (f d) σ H1 Q := by
  obtain ⟨Fz, env, r, hh, p⟩ := h
  refine ⟨Fz, env, r, (fun _ z => nomatch z), ?_⟩
  unfold M.bind at p
  cases e : ma env with
  | ok d e1 =>
    rw [e] at p
    exact fun Fz1 x H1 x1 r1 rx => ⟨d, Fz1, e1, r1, fun q hq => by
      rcases List.mem_cons.mp hq with rfl | hq
      · exact rx
      · exact hv_mono x1.sub hh q hq, Post.then_ (α := α) bk x1 p⟩
  | err c fs e1 => rw [e] at p; exact p
  | bad => rw [e] at p; exact p
/-- the same for a list of arguments -/
theorem tOf.bindL {ω α : Type} {rp : RP ω α} (bk : rpBack rp) {ma : M (List D)} {f : List D → M α} {Q : ω → Hp → Prop} (h : tOf rp G W hv (M.bind ma f) σ H Q) :
    tOf rpL G W [] ma σ H fun xs H1 => ∃ ds, xs.length = ds.length ∧ tOf rp G W (xs.zip ds ++ hv) (f ds) σ H1 Q := by
  obtain ⟨Fz, env, r, hh, p⟩ := h
  refine ⟨Fz, env, r, (fun _ z => nomatch z), ?_⟩
  unfold M.bind at p
  cases e : ma env with
  | ok ds e1 =>
    rw [e] at p
    refine fun Fz1 xs H1 x1 r1 rx => ⟨ds, Reps.length rx, Fz1, e1, r1, fun q hq => ?_, Post.then_ (α := α) bk x1 p⟩
    rcases List.mem_append.mp hq with hq | hq
    · clear p e
      have aux : ∀ (xs : List V) (ds : List D), Reps G Fz1 xs ds → ∀ q ∈ xs.zip ds, Rep G Fz1 q.1 q.2 := by
        intro xs
        induction xs with
        | nil => intro ds _ q hq; simp at hq
        | cons x xs ih =>
          intro ds h q hq
          cases h with
          | cons h1 h2 =>
            rcases List.mem_cons.mp hq with rfl | hq
            · exact h1
            · exact ih _ h2 q hq
      exact aux xs ds rx q hq
    · exact hv_mono x1.sub hh q hq
  | err c fs e1 => rw [e] at p; exact p
  | bad => rw [e] at p; exact p
/-- for tests -/
theorem tOf.bindB {ω α : Type} {rp : RP ω α} (bk : rpBack rp) {ma : M Bool} {f : Bool → M α} {Q : ω → Hp → Prop} (h : tOf rp G W hv (M.bind ma f) σ H Q) :
    tOf rpB G W [] ma σ H fun b H1 => tOf rp G W hv (f b) σ H1 Q := by
  obtain ⟨Fz, env, r, hh, p⟩ := h
  refine ⟨Fz, env, r, (fun _ z => nomatch z), ?_⟩
  unfold M.bind at p
  cases e : ma env with
  | ok d e1 =>
    rw [e] at p
    intro Fz1 x H1 x1 r1 rx
    have rx' : x = d := rx
    subst rx'
    exact ⟨Fz1, e1, r1, hv_mono x1.sub hh, Post.then_ (α := α) bk x1 p⟩
  | err c fs e1 => rw [e] at p; exact p
  | bad => rw [e] at p; exact p
/-- a value at once -/
theorem tOf.ret {d : D} {v : V} {Q : V → Hp → Prop} (h : tOf rpD G W hv (M.pure d) σ H Q) (r : ∀ Fz, Same Fz H → (∀ p ∈ hv, Rep G Fz p.1 p.2) → Rep G Fz v d) : Q v H := by
  obtain ⟨Fz, env, rl, hh, p⟩ := h
  exact p Fz v H (Ext.refl _ _ _ _) rl (r Fz rl.sub hh)
theorem tOf.retB {b : Bool} {Q : Bool → Hp → Prop} (h : tOf rpB G W hv (M.pure b) σ H Q) : Q b H := by
  obtain ⟨Fz, env, rl, hh, p⟩ := h
  exact p Fz b H (Ext.refl _ _ _ _) rl rfl
end
end Eng

end
section
set_option Elab.async false
set_option linter.all false
set_option autoImplicit false
set_option maxRecDepth 100000
set_option maxHeartbeats 2000000
namespace Eng
open PySem PySem.Spec L2
open PyProof.Rows hiding St

/-! ### changes of the state -/
section
variable {G : Kx} {Fz H : Hp} {σ : St} {env : En} {i : Nat}
theorem RelS.getfro {d : D} (r : RelS G Fz σ H env) (h : env[i]? = some (.fro d)) : ∃ v, σ[i]? = some (some v) ∧ Rep G Fz v d := by
  obtain ⟨o, e, v, rfl, q⟩ := r.at_ i _ h
  exact ⟨v, e, q⟩
theorem RelS.getmine {s : Slot} {l : Ob} (r : RelS G Fz σ H env) (h : env[i]? = some s) (hs : s = .own l ∨ s = .io l) : ∃ a, σ[i]? = some (some (.ref a)) ∧ OwnAt G Fz H l a := by
  obtain ⟨o, e, q⟩ := r.at_ i _ h
  rcases hs with rfl | rfl
  · obtain ⟨a, rfl, q⟩ := q; exact ⟨a, e, q⟩
  · obtain ⟨a, rfl, q⟩ := q; exact ⟨a, e, q⟩
theorem getElem?_lt {α : Type} {l : List α} {i : Nat} {x : α} (h : l[i]? = some x) : i < l.length := (List.getElem?_eq_some_iff.mp h).1
theorem same_upd {Fz : Hp} {a : Addr} {o : HO} (h : Fz a = none) : Same Fz (upd Fz a o) := fun b u e => by rw [upd_ne (ne_of_none e h)]; exact e
theorem OwnAt.mono {Fz' H' : Hp} {l : Ob} {a : Addr} (o : OwnAt G Fz H l a) (s : Same Fz Fz') (n : Fz' a = none) (k : ∀ u, H a = some u → H' a = some u) : OwnAt G Fz' H' l a := by
  cases l with
  | l l =>
    obtain ⟨vs, h, _, z, r⟩ := o
    exact ⟨vs, k _ h, n, z, r.mono s⟩
  | o c fs =>
    obtain ⟨C, dx, names, vs, h, _, hc, e, r⟩ := o
    exact ⟨C, dx, names, vs, k _ h, n, hc, e, r.mono s⟩
theorem OwnAt.obj {l : Ob} {a : Addr} (o : OwnAt G Fz H l a) : (∃ u, H a = some u) ∧ Fz a = none := by
  cases l with
  | l l => obtain ⟨vs, h, n, _⟩ := o; exact ⟨⟨_, h⟩, n⟩
  | o c fs => obtain ⟨C, dx, names, vs, h, n, _⟩ := o; exact ⟨⟨_, h⟩, n⟩
/-- the heap grows, the frozen part too, by what is new or no own list of ours -/
theorem RelS.grow {Fz' H' : Hp} (r : RelS G Fz σ H env) (s : Same Fz Fz') (sub : Same Fz' H') (n : ∀ a, Own σ env a → Fz' a = none) (k : ∀ a u, Own σ env a → H a = some u → H' a = some u) : RelS G Fz' σ H' env := by
  refine ⟨sub, r.len, fun j sj e => ?_, r.sep, fun x e => (r.hot x e).mono s⟩
  obtain ⟨o, h1, h2⟩ := r.at_ j sj e
  refine ⟨o, h1, ?_⟩
  cases sj with
  | emp => trivial
  | fro d => obtain ⟨v, rfl, q⟩ := h2; exact ⟨v, rfl, q.mono s⟩
  | own l =>
    obtain ⟨a, rfl, q⟩ := h2
    have w : Own σ env a := ⟨j, _, e, rfl, h1⟩
    exact ⟨a, rfl, q.mono s (n a w) fun u => k a u w⟩
  | io l =>
    obtain ⟨a, rfl, q⟩ := h2
    have w : Own σ env a := ⟨j, _, e, rfl, h1⟩
    exact ⟨a, rfl, q.mono s (n a w) fun u => k a u w⟩
theorem RelS.ownObj (r : RelS G Fz σ H env) {a : Addr} (w : Own σ env a) : (∃ u, H a = some u) ∧ Fz a = none := by
  obtain ⟨j, s, e, m, h⟩ := w
  obtain ⟨o, h1, h2⟩ := r.at_ j s e
  rw [h] at h1; cases h1
  cases s with
  | own l => obtain ⟨b, eb, o⟩ := h2; cases eb; exact o.obj
  | io l => obtain ⟨b, eb, o⟩ := h2; cases eb; exact o.obj
  | emp => cases m
  | fro d => cases m
/-- a new object, frozen -/
theorem RelS.alloc {a : Addr} {o : HO} (r : RelS G Fz σ H env) (n : H a = none) : RelS G (upd Fz a o) σ (upd H a o) env ∧ Ext Fz σ env H (upd Fz a o) σ env (upd H a o) := by
  have nF : Fz a = none := by
    cases e : Fz a with
    | none => rfl
    | some u => have := r.sub _ _ e; rw [n] at this; cases this
  have ne : ∀ b, Own σ env b → b ≠ a := fun b w z => by
    obtain ⟨⟨vs, q⟩, _⟩ := r.ownObj w
    rw [z, n] at q; cases q
  have sub : Same (upd Fz a o) (upd H a o) := fun b u e => by
    by_cases hb : b = a
    · subst hb; rw [upd_same] at e ⊢; exact e
    · rw [upd_ne hb] at e ⊢; exact r.sub b u e
  refine ⟨r.grow (same_upd nF) sub (fun b w => by rw [upd_ne (ne b w)]; exact (r.ownObj w).2) fun b u w e => by rw [upd_ne (ne b w)]; exact e, same_upd nF, fun p u e w => ⟨by rw [upd_ne (ne_of_none e n)]; exact e, w, fun z => by rw [upd_ne (ne_of_none e n)]; exact z⟩, fun _ l h => ⟨⟨l, h⟩, rfl⟩, fun b e => ?_⟩
  by_cases hb : b = a
  · subst hb; exact n
  · rw [upd_ne hb] at e; exact e
/-- a new list of ours: the frozen part stays -/
theorem RelS.allocO {a : Addr} {o : HO} (r : RelS G Fz σ H env) (n : H a = none) : RelS G Fz σ (upd H a o) env ∧ Ext Fz σ env H Fz σ env (upd H a o) ∧ Fz a = none ∧ ¬ Own σ env a := by
  have nF : Fz a = none := by
    cases e : Fz a with
    | none => rfl
    | some u => have := r.sub _ _ e; rw [n] at this; cases this
  have ne : ∀ b, Own σ env b → b ≠ a := fun b w z => by
    obtain ⟨⟨vs, q⟩, _⟩ := r.ownObj w
    rw [z, n] at q; cases q
  refine ⟨r.grow (fun _ _ e => e) (fun b u e => by rw [upd_ne (ne_of_none e nF)]; exact r.sub b u e) (fun b w => (r.ownObj w).2) fun b u w e => by rw [upd_ne (ne b w)]; exact e, ⟨fun _ _ e => e, fun p u e w => ⟨by rw [upd_ne (ne_of_none e n)]; exact e, w, fun z => z⟩, fun _ l h => ⟨⟨l, h⟩, rfl⟩, fun b e => ?_⟩, nF, fun w => ne a w rfl⟩
  by_cases hb : b = a
  · subst hb; exact n
  · rw [upd_ne hb] at e; exact e
theorem set_get {α : Type} {l : List α} {i j : Nat} {x y : α} (h : (l.set i x)[j]? = some y) : (j = i ∧ y = x) ∨ (j ≠ i ∧ l[j]? = some y) := by
  by_cases e : j = i
  · subst e
    by_cases hl : j < l.length
    · rw [List.getElem?_set_self hl] at h; exact .inl ⟨rfl, (Option.some.inj h).symm⟩
    · rw [List.getElem?_eq_none (by simpa using hl)] at h; cases h
  · rw [List.getElem?_set_ne (Ne.symm e)] at h; exact .inr ⟨e, h⟩
/-- an own list is frozen -/
theorem RelS.freeze {l : List D} (r : RelS G Fz σ H env) (h : env[i]? = some (.own (.l l))) : ∃ a vs, σ[i]? = some (some (.ref a)) ∧ Rep G (upd Fz a (.lst vs)) (.ref a) (.lst l) ∧
    RelS G (upd Fz a (.lst vs)) σ H (env.set i (.fro (.lst l))) ∧ Ext Fz σ env H (upd Fz a (.lst vs)) σ (env.set i (.fro (.lst l))) H := by
  obtain ⟨a, e, vs, q, n, z, rp⟩ := r.getmine h (.inl rfl)
  have s : Same Fz (upd Fz a (.lst vs)) := same_upd n
  have rep : Rep G (upd Fz a (.lst vs)) (.ref a) (.lst l) := .lst upd_same z (rp.mono s)
  have hi := getElem?_lt h
  have sub : Same (upd Fz a (.lst vs)) H := fun b u eb => by
    by_cases hb : b = a
    · subst hb; rw [upd_same] at eb; rw [q]; exact eb
    · rw [upd_ne hb] at eb; exact r.sub b u eb
  refine ⟨a, vs, e, rep, ⟨sub, by rw [List.length_set]; exact r.len, fun j sj ej => ?_, fun j k sj sk b ej ek mj mk => ?_, fun x e => (r.hot x e).mono s⟩, ⟨s, fun p u ep w => ⟨ep, ?_, fun z => ?_⟩, fun j k ej => ?_, fun _ e => e⟩⟩
  · rcases set_get ej with ⟨rfl, rfl⟩ | ⟨nj, ej⟩
    · exact ⟨_, e, _, rfl, rep⟩
    · obtain ⟨o, h1, h2⟩ := r.at_ j sj ej
      refine ⟨o, h1, ?_⟩
      have key : ∀ b, sj.mine = true → o = some (V.ref b) → (upd Fz a (.lst vs)) b = none ∨ b = a := fun b _ _ => by
        by_cases hb : b = a
        · exact .inr hb
        · left
          rename_i m eo
          rw [upd_ne hb]
          subst eo
          exact (r.ownObj ⟨j, sj, ej, m, h1⟩).2
      cases sj with
      | emp => trivial
      | fro d => obtain ⟨v, rfl, w⟩ := h2; exact ⟨v, rfl, w.mono s⟩
      | own l' =>
        obtain ⟨b, rfl, w⟩ := h2
        refine ⟨b, rfl, w.mono s ?_ fun _ z => z⟩
        rcases key b rfl rfl with z | z
        · exact z
        · subst z; exact absurd (r.sep j i _ _ b ej h rfl rfl h1 e) nj
      | io l' =>
        obtain ⟨b, rfl, w⟩ := h2
        refine ⟨b, rfl, w.mono s ?_ fun _ z => z⟩
        rcases key b rfl rfl with z | z
        · exact z
        · subst z; exact absurd (r.sep j i _ _ b ej h rfl rfl h1 e) nj
  · rcases set_get ej with ⟨rfl, rfl⟩ | ⟨nj, ej⟩
    · cases mj
    · rcases set_get ek with ⟨rfl, rfl⟩ | ⟨nk, ek⟩
      · cases mk
      · exact r.sep j k sj sk b ej ek mj mk
  · rintro ⟨j, sj, ej, m, hj⟩
    rcases set_get ej with ⟨rfl, rfl⟩ | ⟨nj, ej⟩
    · cases m
    · exact w ⟨j, sj, ej, m, hj⟩
  · rw [upd_ne (fun q : p = a => w ⟨i, _, h, rfl, by rw [q]; exact e⟩)]; exact z
  · have nj : j ≠ i := fun z => by subst z; rw [h] at ej; cases ej
    exact ⟨⟨k, by rw [List.getElem?_set_ne (Ne.symm nj)]; exact ej⟩, rfl⟩
end

/-! ### judgements -/
abbrev QE (G : Kx) (X : Cx) (W : WX) (e : Expr) (m : M D) : Prop := PE X e (tOf rpD G W [] m)
abbrev QO (G : Kx) (X : Cx) (W : WX) (e : Expr) (m : M Slot) : Prop := PE X e (tOf rpS G W [] m)
abbrev QT (G : Kx) (X : Cx) (W : WX) (e : Expr) (m : M Bool) : Prop := PT X e (tOf rpB G W [] m)
abbrev QA (G : Kx) (X : Cx) (W : WX) (es : List Expr) (m : M (List D)) : Prop := PA X es (tOf rpL G W [] m)
theorem PE_imp {X : Cx} {e : Expr} {t t' : TE} (h : PE X e t) (k : ∀ σ H Q, t' σ H Q → t σ H Q) : PE X e t' := ⟨fun p s σ H Q I q => h.run p s σ H Q I (k σ H Q q)⟩
theorem PT_imp {X : Cx} {e : Expr} {t t' : TT} (h : PT X e t) (k : ∀ σ H Q, t' σ H Q → t σ H Q) : PT X e t' := ⟨fun p s σ H Q I q => h.run p s σ H Q I (k σ H Q q)⟩
theorem PA_imp {X : Cx} {es : List Expr} {t t' : TA} (h : PA X es t) (k : ∀ σ H Q, t' σ H Q → t σ H Q) : PA X es t' := ⟨fun z p s σ H Q I q => h.run z p s σ H Q I (k σ H Q q)⟩
theorem PS_imp {X : Cx} {e : Stmt} {t t' : TS} (h : PS X e t) (k : ∀ D σ H, t' D σ H → t D σ H) : PS X e t' := ⟨fun p s σ H Q I q => h.run p s σ H Q I (k Q σ H q)⟩
theorem PSs_imp {X : Cx} {e : List Stmt} {t t' : TS} (h : PSs X e t) (k : ∀ D σ H, t' D σ H → t D σ H) : PSs X e t' := ⟨fun p s σ H Q I q => h.run p s σ H Q I (k Q σ H q)⟩

section
variable {G : Kx} {X : Cx} {W : WX} {e a b c : Expr} {es : List Expr} {pos : Pos} {ma mb mc : M D} {hv : List (V × D)}

/-! ### what is ours is frozen, or comes as it is -/
def mFrz (m : M Slot) : M D := fun env => match m env with
  | .ok (.fro d) e => .ok d e
  | .ok (.own (.l l)) e => .ok (.lst l) e
  | .ok _ _ => .bad
  | .err c fs e => .err c fs e
  | .bad => .bad
theorem post_frz {Fz : Hp} {σ : St} {env : En} {H : Hp} {Q : V → Hp → Prop} {m : M Slot} (h : Post rpD G W Fz σ env H Q (mFrz m env)) : Post rpS G W Fz σ env H Q (m env) := by
  unfold mFrz at h
  cases e : m env with
  | ok s e1 =>
    rw [e] at h
    cases s with
    | fro d => exact h
    | own l0 =>
     cases l0 with
     | o c fs => exact h.elim
     | l l =>
      intro Fz' v H' x r q
      obtain ⟨p, rfl, ⟨vs, hp, n, z, rp⟩, h0, nw⟩ := q
      have sm : Same Fz' (upd Fz' p (.lst vs)) := same_upd n
      have sub : Same (upd Fz' p (.lst vs)) H' := fun b u eb => by
        by_cases hb : b = p
        · subst hb; rw [upd_same] at eb; rw [hp]; exact eb
        · rw [upd_ne hb] at eb; exact r.sub b u eb
      refine h (upd Fz' p (.lst vs)) (.ref p) H' ⟨fun b u q => sm b u (x.sub b u q), fun q u e w => let ⟨k1, k2, k3⟩ := x.keep q u e w; ⟨k1, k2, fun z => by rw [upd_ne (ne_of_none e h0)]; exact k3 z⟩, x.ios, x.live⟩ (r.grow sm sub (fun b w => ?_) fun _ _ _ q => q) (.lst upd_same z (rp.mono sm))
      rw [upd_ne (fun z : b = p => nw (by rw [← z]; exact w))]
      exact (r.ownObj w).2
    | emp => exact h.elim
    | io l => exact h.elim
  | err c fs e1 => rw [e] at h; exact h
  | bad => rw [e] at h; exact h
theorem qe_frz {m : M Slot} (h : QO G X W e m) : QE G X W e (mFrz m) := PE_imp h fun σ H Q ⟨Fz, env, r, hh, p⟩ => ⟨Fz, env, r, hh, post_frz p⟩
def mFro (m : M D) : M Slot := m.bind fun d => M.pure (.fro d)
theorem qo_fro (h : QE G X W e ma) : QO G X W e (mFro ma) := PE_imp h fun σ H Q ⟨Fz, env, r, hh, p⟩ => ⟨Fz, env, r, hh, by
  unfold mFro M.bind at p
  cases e : ma env with
  | ok d e1 => rw [e] at p; exact p
  | err c fs e1 => rw [e] at p; exact p
  | bad => rw [e] at p; exact p⟩

/-! ### names, constants -/
def mVar (i : Nat) : M D := fun env => match env[i]? with
  | some (.fro d) => .ok d env
  | some (.own (.l l)) => .ok (.lst l) (env.set i (.fro (.lst l)))
  | _ => .bad
theorem qe_var (i : Nat) {x : Str} (h : PE X (.Name x pos) (tVar i)) : QE G X W (.Name x pos) (mVar i) := PE_imp h fun σ H Q ⟨Fz, env, r, hh, p⟩ => by
  unfold mVar at p
  cases e : env[i]? with
  | none => rw [e] at p; exact p.elim
  | some s =>
    rw [e] at p
    cases s with
    | fro d =>
      obtain ⟨v, e1, q⟩ := r.getfro e
      exact ⟨v, e1, p Fz v H (Ext.refl _ _ _ _) r q⟩
    | own l0 =>
      cases l0 with
      | o c fs => exact p.elim
      | l l =>
        obtain ⟨a, vs, e1, q, r', x'⟩ := r.freeze e
        exact ⟨_, e1, p _ _ H x' r' q⟩
    | emp => exact p.elim
    | io l => exact p.elim
/-- a name whose own list is handed on -/
def mMove (i : Nat) : M Slot := fun env => match env[i]? with
  | some (.fro d) => .ok (.fro d) env
  | some (.own l) => .ok (.own l) (env.set i .emp)
  | _ => .bad
theorem qe_c {d : D} {v : V} (h : PE X e (tC v)) (r : ∀ Fz, Rep G Fz v d) : QE G X W e (M.pure d) := PE_imp h fun σ H Q q => q.ret fun Fz _ _ => r Fz
theorem qe_int {i : Int} {j : Nat} {pos : Pos} : QE G X W (.Constant (.int i) j pos) (M.pure (.int i)) := qe_c pe_int fun _ => .int i
theorem qe_bl {i : Bool} {j : Nat} {pos : Pos} : QE G X W (.Constant (.bool i) j pos) (M.pure (.bl i)) := qe_c pe_bl fun _ => .bl i
theorem qe_non {j : Nat} {pos : Pos} : QE G X W (.Constant .none j pos) (M.pure .non) := qe_c pe_non fun _ => .non
theorem qe_str {x : Str} {j : Nat} {pos : Pos} : QE G X W (.Constant (.str x) j pos) (M.pure (.str x)) := qe_c pe_str fun _ => .str x

/-! ### operators -/
/-- an operator's rule serves f -/
def Op2 {α : Type} (rp : RP V α) (G : Kx) (W : WX) (r : R2) (f : D → D → M α) : Prop := ∀ (x y : V) (d1 d2 : D) (σ : St) (H : Hp) (Q : VK), tOf rp G W [(y, d2), (x, d1)] (f d1 d2) σ H Q → r x y H Q
def mBin {α : Type} (f : D → D → M α) (ma mb : M D) : M α := ma.bind fun x => mb.bind fun y => f x y
theorem t_bin {α : Type} {rp : RP V α} (bk : rpBack rp) {r : R2} {f : D → D → M α} (hf : Op2 rp G W r f) {σ : St} {H : Hp} {Q : VK} (h : tOf rp G W [] (mBin f ma mb) σ H Q) : tOp r (tOf rpD G W [] ma) (tOf rpD G W [] mb) σ H Q :=
  (tOf.bind_ bk h).mono fun x H1 ⟨d1, h1⟩ => (tOf.bind_ bk h1).mono fun y H2 ⟨d2, h2⟩ => hf x y d1 d2 σ H2 Q h2
theorem q_bin {α : Type} {rp : RP V α} (bk : rpBack rp) {op : Operator} {r : R2} {f : D → D → M α} (ho : OpR X (binaryOp op) r) (hf : Op2 rp G W r f) (ha : QE G X W a ma) (hb : QE G X W b mb) : PE X (.BinOp a op b pos) (tOf rp G W [] (mBin f ma mb)) :=
  PE_imp (pe_op ho ha hb) fun _ _ _ h => t_bin bk hf h
theorem q_ix {α : Type} {rp : RP V α} (bk : rpBack rp) {r : R2} {f : D → D → M α} (ho : IxR X r) (hf : Op2 rp G W r f) (ha : QE G X W a ma) (hb : QE G X W b mb) (hm : PlainIx b) : PE X (.Subscript a b pos) (tOf rp G W [] (mBin f ma mb)) :=
  PE_imp (pe_ix ho ha hb hm) fun _ _ _ h => t_bin bk hf h
theorem q_cmp {op : CmpOp} {r : R2} {f : D → D → M D} (ho : OpR X (compareOp op) r) (hf : Op2 rpD G W r f) (ha : QE G X W a ma) (hb : QE G X W b mb) (hm : behindInMarks op b = false) : QE G X W (.Compare a [op] [b] pos) (mBin f ma mb) :=
  PE_imp (pe_cmpR ho ha hb hm) fun _ _ _ h => t_bin backD hf h
/-- a comparison as a test -/
def mTst (m : M D) : M Bool := m.bind fun d => match d with
  | .bl b => M.pure b
  | _ => bad
theorem t_tst {m : M D} {σ : St} {H : Hp} {Q : Bool → Hp → Prop} (h : tOf rpB G W [] (mTst m) σ H Q) : tOf rpD G W [] m σ H fun x H' => ∃ k, x = .bl k ∧ Q k H' :=
  (tOf.bind_ backB h).mono fun x H1 ⟨d, h1⟩ => by
    cases d with
    | bl b =>
      obtain ⟨Fz, env, r, hh, p⟩ := h1
      have := hh _ (List.mem_cons_self)
      cases this
      exact ⟨b, rfl, p Fz b H1 (Ext.refl _ _ _ _) r rfl⟩
    | _ => obtain ⟨Fz, env, r, hh, p⟩ := h1; exact p.elim
theorem qt_cmp {op : CmpOp} {r : R2} {f : D → D → M D} (ho : OpR X (compareOp op) r) (hf : Op2 rpD G W r f) (ha : QE G X W a ma) (hb : QE G X W b mb) (hm : behindInMarks op b = false) : QT G X W (.Compare a [op] [b] pos) (mTst (mBin f ma mb)) :=
  PT_imp (pt_cmpR ho ha hb hm) fun _ _ _ h => (t_tst h).elim (fun Fz ⟨env, r', hh, p⟩ => by exact (t_bin backD hf ⟨Fz, env, r', hh, p⟩))
theorem qt_val (h : QE G X W e ma) (he : ∀ whole, isTrue e X.env whole = (do let v ← whole; standAt e.pos; holding [v] (truthy v))) : QT G X W e (mTst ma) :=
  PT_imp (pt_val h he) fun _ _ _ h => t_tst h
/-- truth of any datum -/
def dTru : D → Option Bool
  | .non => some false
  | .bl b => some b
  | .int i => some (i != 0)
  | .lst l => some (!l.isEmpty)
  | .tup l => some (!l.isEmpty)
  | .stp l => some (!l.isEmpty)
  | _ => none
def mTru (m : M D) : M Bool := m.bind fun d => match dTru d with
  | some b => M.pure b
  | none => bad
theorem isEmpty_eq {Fz : Hp} {vs : List V} {ds : List D} (h : Reps G Fz vs ds) : vs.isEmpty = ds.isEmpty := by cases h <;> rfl
theorem qt_tru (hK : X.K = G.K) (h : QE G X W e ma) (he : ∀ whole, isTrue e X.env whole = (do let v ← whole; standAt e.pos; holding [v] (truthy v))) : QT G X W e (mTru ma) :=
  PT_imp (pt_truth h he) fun σ H Q h => (tOf.bind_ backB h).mono fun x H1 ⟨d, h1⟩ => by
    obtain ⟨Fz, env, r, hh, p⟩ := h1
    have rx : Rep G Fz x d := hh _ (List.mem_cons_self)
    have go : ∀ b, dTru d = some b → TruV X.K x H1 b → ∃ k, TruV X.K x H1 k ∧ Q k H1 := fun b e t => by
      rw [e] at p
      exact ⟨b, t, p Fz b H1 (Ext.refl _ _ _ _) r rfl⟩
    rw [hK] at *
    cases rx with
    | non => exact go false rfl rfl
    | bl b => exact go b rfl rfl
    | int i => exact go _ rfl rfl
    | lst h1 h2 h3 => exact go _ rfl (.inl ⟨_, SqL.of (r.sub _ _ h1), by rw [isEmpty_eq h3]⟩)
    | tup h1 h2 h3 => exact go _ rfl (.inr (.inl ⟨_, sqt_mono r.sub h1, by rw [isEmpty_eq h3]⟩))
    | stp h1 _ _ h2 h3 => exact go _ rfl (.inr (.inl ⟨_, .inl (.inr ⟨_, r.sub _ _ h1⟩), by rw [isEmpty_eq h3]⟩))
    | str s => exact p.elim
    | scr _ _ => exact p.elim
    | ins _ _ _ _ => exact p.elim
    | exc _ _ _ _ _ _ _ _ => exact p.elim

/-! ### and, or, not, if else -/
def mNotB (m : M Bool) : M Bool := m.bind fun b => M.pure (!b)
theorem qt_not {m : M Bool} (h : QT G X W a m) : QT G X W (.UnaryOp .Not a pos) (mNotB m) := PT_imp (pt_not h) fun σ H Q q => (tOf.bindB backB q).mono fun b H1 h1 => h1.retB
def mAndB (m n : M Bool) : M Bool := m.bind fun b => if b then n else M.pure false
def mOrB (m n : M Bool) : M Bool := m.bind fun b => if b then M.pure true else n
abbrev QW (G : Kx) (X : Cx) (W : WX) (e : Expr) (m : M Bool) : Prop := PW X e (tOf rpB G W [] m)
theorem qw_and1 {m : M Bool} (h : QT G X W a m) : QW G X W (.BoolOp .And [a] pos) m := pw_and1 h
theorem qw_or1 {m : M Bool} (h : QT G X W a m) : QW G X W (.BoolOp .Or [a] pos) m := pw_or1 h
theorem qw_and {m n : M Bool} (h : QT G X W a m) (h2 : QW G X W (.BoolOp .And (b :: es) pos) n) : QW G X W (.BoolOp .And (a :: b :: es) pos) (mAndB m n) :=
  ⟨fun wh p s σ H Q I q => (pw_and h h2).run wh p s σ H Q I ((tOf.bindB backB q).mono fun b H1 h1 => by
    cases b with
    | true => exact iteT h1
    | false => exact iteF h1.retB)⟩
theorem qw_or {m n : M Bool} (h : QT G X W a m) (h2 : QW G X W (.BoolOp .Or (b :: es) pos) n) : QW G X W (.BoolOp .Or (a :: b :: es) pos) (mOrB m n) :=
  ⟨fun wh p s σ H Q I q => (pw_or h h2).run wh p s σ H Q I ((tOf.bindB backB q).mono fun b H1 h1 => by
    cases b with
    | true => exact iteT h1.retB
    | false => exact iteF h1)⟩
theorem qt_w {m : M Bool} (h : QW G X W e m) : QT G X W e m := h.pt
/-- as values, of bools -/
def dBl : D → M Bool
  | .bl b => M.pure b
  | _ => bad
def mAndV (m n : M D) : M D := m.bind fun d => (dBl d).bind fun b => if b then n else M.pure (.bl false)
def mOrV (m n : M D) : M D := m.bind fun d => (dBl d).bind fun b => if b then M.pure (.bl true) else n
def mNotV (m : M D) : M D := m.bind fun d => (dBl d).bind fun b => M.pure (.bl (!b))
theorem t_bl {α : Type} {rp : RP V α} {x : V} {d : D} {f : Bool → M α} {σ : St} {H : Hp} {Q : VK} (h : tOf rp G W ((x, d) :: hv) ((dBl d).bind f) σ H Q) : ∃ b, x = .bl b ∧ tOf rp G W hv (f b) σ H Q := by
  obtain ⟨Fz, env, r, hh, p⟩ := h
  have rx := hh _ (List.mem_cons_self)
  cases d with
  | bl b => cases rx; exact ⟨b, rfl, Fz, env, r, fun q hq => hh q (List.mem_cons_of_mem _ hq), p⟩
  | _ => exact p.elim
theorem qe_one_and (h : QE G X W a ma) : QE G X W (.BoolOp .And [a] pos) ma := pe_one h
theorem qe_one_or (h : QE G X W a ma) : QE G X W (.BoolOp .Or [a] pos) ma := pe_one h
theorem qe_and (h : QE G X W a ma) (h2 : QE G X W (.BoolOp .And (b :: es) pos) mb) : QE G X W (.BoolOp .And (a :: b :: es) pos) (mAndV ma mb) :=
  PE_imp (pe_and h h2) fun σ H Q q => (tOf.bind_ backD q).mono fun x H1 ⟨d, h1⟩ => by
    obtain ⟨k, e, h2⟩ := t_bl h1
    refine ⟨k, e, ?_⟩
    cases k with
    | true => exact iteT h2
    | false => exact iteF (h2.ret fun _ _ _ => .bl false)
theorem qe_or (h : QE G X W a ma) (h2 : QE G X W (.BoolOp .Or (b :: es) pos) mb) : QE G X W (.BoolOp .Or (a :: b :: es) pos) (mOrV ma mb) :=
  PE_imp (pe_or h h2) fun σ H Q q => (tOf.bind_ backD q).mono fun x H1 ⟨d, h1⟩ => by
    obtain ⟨k, e, h2⟩ := t_bl h1
    refine ⟨k, e, ?_⟩
    cases k with
    | true => exact iteT (h2.ret fun _ _ _ => .bl true)
    | false => exact iteF h2
theorem qe_not (h : QE G X W a ma) : QE G X W (.UnaryOp .Not a pos) (mNotV ma) :=
  PE_imp (pe_not h) fun σ H Q q => (tOf.bind_ backD q).mono fun x H1 ⟨d, h1⟩ => by
    obtain ⟨k, e, h2⟩ := t_bl h1
    exact ⟨k, e, h2.ret fun _ _ _ => .bl _⟩
def mIfE {α : Type} (m : M Bool) (x y : M α) : M α := m.bind fun b => if b then x else y
theorem q_ifE {α : Type} {rp : RP V α} (bk : rpBack rp) {m : M Bool} {x y : M α} (hc : QT G X W c m) (ha : PE X a (tOf rp G W [] x)) (hb : PE X b (tOf rp G W [] y)) : PE X (.IfExp c a b pos) (tOf rp G W [] (mIfE m x y)) :=
  PE_imp (pe_ifExp hc ha hb) fun σ H Q q => (tOf.bindB bk q).mono fun k H1 h1 => by
    cases k with
    | true => exact iteT h1
    | false => exact iteF h1

/-! ### arguments, displays -/
def mNil : M (List D) := M.pure []
def mCons (m : M D) (n : M (List D)) : M (List D) := m.bind fun d => n.bind fun ds => M.pure (d :: ds)
theorem qa_nil : QA G X W [] mNil := PA_imp pa_nil fun σ H Q ⟨Fz, env, r, hh, p⟩ => p Fz [] H (Ext.refl _ _ _ _) r .nil
theorem zip_hv {Fz : Hp} : ∀ {xs : List V} {ds : List D}, xs.length = ds.length → (∀ p ∈ xs.zip ds, Rep G Fz p.1 p.2) → Reps G Fz xs ds
  | [], [], _, _ => .nil
  | x :: xs, d :: ds, e, h => .cons (h _ (List.mem_cons_self)) (zip_hv (by simpa using e) fun p hp => h p (List.mem_cons_of_mem _ hp))
  | [], _ :: _, e, _ => by simp at e
  | _ :: _, [], e, _ => by simp at e
theorem qa_cons {n : M (List D)} (ha : QE G X W e ma) (hr : QA G X W es n) (hs : starEach (e :: es) X.env = (false, eval e X.env) :: starEach es X.env := by rfl) : QA G X W (e :: es) (mCons ma n) :=
  PA_imp (pa_cons ha hr hs) fun σ H Q q => (tOf.bind_ backL q).mono fun x H1 ⟨d, h1⟩ => (tOf.bindL backL h1).mono fun xs H2 ⟨ds, el, h2⟩ => by
    obtain ⟨Fz, env, r, hh, p⟩ := h2
    refine p Fz (x :: xs) H2 (Ext.refl _ _ _ _) r (.cons (hh _ (List.mem_append_right _ (List.mem_cons_self))) (zip_hv el fun q hq => hh q (List.mem_append_left _ hq)))
def szOk (n : Nat) : Bool := decide (n ≤ 16777216)
theorem szOk_le {n : Nat} (h : szOk n = true) : n ≤ sizeLine := by rw [sizeLine_eq]; exact of_decide_eq_true h
theorem le_szOk {n : Nat} (h : n ≤ sizeLine) : n ≤ 16777216 := by rw [sizeLine_eq] at h; exact h
def mkTup (ds : List D) : M D := if szOk ds.length then M.pure (.tup ds) else bad
def mkLst (ds : List D) : M Slot := if szOk ds.length then M.pure (.own (.l ds)) else bad
/-- a new tuple -/
theorem t_newTup {ds : List D} {σ : St} {H : Hp} {Q : VK} {vs : List V} (h : tOf rpD G W hv (mkTup ds) σ H Q) (hr : ∀ Fz, (∀ p ∈ hv, Rep G Fz p.1 p.2) → Reps G Fz vs ds) : vs.length ≤ sizeLine ∧ ∀ p, H p = none → Q (.ref p) (upd H p (.tup vs)) := by
  obtain ⟨Fz, env, r, hh, p⟩ := h
  unfold mkTup at p
  have rv := hr Fz hh
  cases e : szOk ds.length with
  | false => rw [e] at p; exact p.elim
  | true =>
    rw [e] at p
    have z : vs.length ≤ sizeLine := by rw [rv.length]; exact szOk_le e
    refine ⟨z, fun q hq => ?_⟩
    obtain ⟨r', x'⟩ := r.alloc (o := .tup vs) hq
    exact p _ _ _ x' r' (.tup (SqT.of upd_same) z (rv.mono x'.sub))
/-- a new list, ours -/
theorem t_newLst {ds : List D} {σ : St} {H : Hp} {Q : VK} {vs : List V} (h : tOf rpS G W hv (mkLst ds) σ H Q) (hr : ∀ Fz, Same Fz H → (∀ p ∈ hv, Rep G Fz p.1 p.2) → Reps G Fz vs ds) : vs.length ≤ sizeLine ∧ ∀ p, H p = none → Q (.ref p) (upd H p (.lst vs)) := by
  obtain ⟨Fz, env, r, hh, p⟩ := h
  unfold mkLst at p
  have rv := hr Fz r.sub hh
  cases e : szOk ds.length with
  | false => rw [e] at p; exact p.elim
  | true =>
    rw [e] at p
    have z : vs.length ≤ sizeLine := by rw [rv.length]; exact szOk_le e
    refine ⟨z, fun q hq => ?_⟩
    obtain ⟨r', x', n, nw⟩ := r.allocO (o := .lst vs) hq
    exact p _ _ _ x' r' ⟨q, rfl, ⟨vs, upd_same, n, z, rv⟩, hq, nw⟩
theorem qe_tup {n : M (List D)} {k : Nat} (h : QA G X W es n) : QE G X W (.Tuple es k pos) (n.bind mkTup) :=
  PE_imp (pe_tup h) fun σ H Q q => (tOf.bindL backD q).mono fun xs H1 ⟨ds, el, h1⟩ => t_newTup h1 fun Fz hh => zip_hv el fun q hq => hh q (List.mem_append_left _ hq)
theorem qo_lst {n : M (List D)} (h : QA G X W es n) : QO G X W (.List es pos) (n.bind mkLst) :=
  PE_imp (pe_lst h) fun σ H Q q => (tOf.bindL backS q).mono fun xs H1 ⟨ds, el, h1⟩ => t_newLst h1 fun Fz _ hh => zip_hv el fun q hq => hh q (List.mem_append_left _ hq)

/-! ### calls of built-ins by values -/
def CallS {α : Type} (rp : RP V α) (G : Kx) (W : WX) (r : List V → Hp → VK → Prop) (f : List D → M α) : Prop := ∀ (xs : List V) (ds : List D) (σ : St) (H : Hp) (Q : VK), xs.length = ds.length → tOf rp G W (xs.zip ds) (f ds) σ H Q → r xs H Q
theorem t_call {α : Type} {rp : RP V α} (bk : rpBack rp) {r : List V → Hp → VK → Prop} {f : List D → M α} {n : M (List D)} (hf : CallS rp G W r f) {σ : St} {H : Hp} {Q : VK} (h : tOf rp G W [] (n.bind f) σ H Q) : tCB r (tOf rpL G W [] n) σ H Q :=
  (tOf.bindL bk h).mono fun xs H1 ⟨ds, el, h1⟩ => hf xs ds σ H1 Q el (by rw [List.append_nil] at h1; exact h1)
end
end Eng

end
section
set_option Elab.async false
set_option linter.all false
set_option autoImplicit false
set_option maxRecDepth 100000
set_option maxHeartbeats 2000000
namespace Eng
open PySem PySem.Spec L2
open PyProof.Rows hiding St
section
variable {G : Kx} {X : Cx} {W : WX} {e a b c : Expr} {es : List Expr} {pos : Pos} {ma mb mc : M D}

/-- two held values, an answer without the heap -/
theorem op2_pure {r : R2} {f : D → D → M D} (h : ∀ (x y : V) (d1 d2 : D) (Fz H : Hp) (Q : VK), Same Fz H → Rep G Fz x d1 → Rep G Fz y d2 → ((∃ d, f d1 d2 = M.pure d ∧ ((∀ v, Rep G Fz v d → Q v H) → r x y H Q)) ∨ f d1 d2 = bad)) : Op2 rpD G W r f := fun x y d1 d2 σ H Q ⟨Fz, env, rl, hh, p⟩ => by
  have ry : Rep G Fz y d2 := hh (y, d2) (List.mem_cons_self)
  have rx : Rep G Fz x d1 := hh (x, d1) (List.mem_cons_of_mem _ List.mem_cons_self)
  rcases h x y d1 d2 Fz H Q rl.sub rx ry with ⟨d, e, k⟩ | e
  · rw [e] at p
    exact k fun v rv => p Fz v H (Ext.refl _ _ _ _) rl rv
  · rw [e] at p; exact p.elim

/-! ### ints -/
def dI2 (C : Int → Int → Bool) (g : Int → Int → Int) : D → D → M D
  | .int i, .int j => if C i j then M.pure (.int (g i j)) else bad
  | _, _ => bad
theorem s_i2 {C : Int → Int → Prop} {Cb : Int → Int → Bool} {g : Int → Int → Int} (hC : ∀ i j, Cb i j = true → C i j) : Op2 rpD G W (rI C fun i j => .int (g i j)) (dI2 Cb g) := op2_pure fun x y d1 d2 Fz H Q s r1 r2 => by
  cases r1 <;> cases r2 <;> try exact .inr rfl
  rename_i i j
  cases e : Cb i j with
  | false => exact .inr (by simp only [dI2, e]; rfl)
  | true => exact .inl ⟨.int (g i j), by simp only [dI2, e]; rfl, fun k => ⟨i, j, rfl, rfl, hC i j e, k _ (.int _)⟩⟩
def dI20 (g : Int → Int → D) : D → D → M D
  | .int i, .int j => M.pure (g i j)
  | _, _ => bad
theorem s_i20 {g : Int → Int → Int} : Op2 rpD G W (rI0 fun i j => .int (g i j)) (dI20 fun i j => .int (g i j)) := op2_pure fun x y d1 d2 Fz H Q s r1 r2 => by
  cases r1 <;> cases r2 <;> try exact .inr rfl
  rename_i i j
  exact .inl ⟨.int (g i j), rfl, fun k => ⟨i, j, rfl, rfl, k _ (.int _)⟩⟩
theorem s_b20 {g : Int → Int → Bool} : Op2 rpD G W (rI0 fun i j => .bl (g i j)) (dI20 fun i j => .bl (g i j)) := op2_pure fun x y d1 d2 Fz H Q s r1 r2 => by
  cases r1 <;> cases r2 <;> try exact .inr rfl
  rename_i i j
  exact .inl ⟨.bl (g i j), rfl, fun k => ⟨i, j, rfl, rfl, k _ (.bl _)⟩⟩
def dSub : D → D → M D := dI20 fun i j => .int (i - j)
def dLt : D → D → M D := dI20 fun i j => .bl (decide (i < j))
def dLe : D → D → M D := dI20 fun i j => .bl (decide (i ≤ j))
def dGt : D → D → M D := dI20 fun i j => .bl (decide (j < i))
def dGe : D → D → M D := dI20 fun i j => .bl (decide (j ≤ i))
def cSmall (i : Int) : Bool := decide (-(2 ^ 64) < i) && decide (i < 2 ^ 64)
def dMod : D → D → M D := dI2 (fun _ j => decide (0 < j)) fun i j => i % j
def cDiv (j : Int) : Bool := decide (0 < j) && decide (j < 2 ^ 64)
def dFdiv : D → D → M D := dI2 (fun _ j => cDiv j) fun i j => i / j
def dPow : D → D → M D := dI2 (fun i j => decide (0 ≤ j) && (decide (j ≤ 1000000) && cSmall i)) fun i j => i ^ j.toNat
theorem cSmall_ok {i : Int} (h : cSmall i = true) : -(2 ^ 64) < i ∧ i < 2 ^ 64 := let ⟨a, b⟩ := Bool.and_eq_true_iff.mp h; ⟨of_decide_eq_true a, of_decide_eq_true b⟩
theorem s_sub : Op2 rpD G W (rI0 fun i j => .int (i - j)) dSub := s_i20
theorem s_lt : Op2 rpD G W (rI0 fun i j => .bl (decide (i < j))) dLt := s_b20
theorem s_le : Op2 rpD G W (rI0 fun i j => .bl (decide (i ≤ j))) dLe := s_b20
theorem s_gt : Op2 rpD G W (rI0 fun i j => .bl (decide (j < i))) dGt := s_b20
theorem s_ge : Op2 rpD G W (rI0 fun i j => .bl (decide (j ≤ i))) dGe := s_b20
theorem s_mod : Op2 rpD G W (rI (fun _ j => 0 < j) fun i j => .int (i % j)) dMod := s_i2 fun _ _ h => of_decide_eq_true h
theorem s_fdiv : Op2 rpD G W (rI CDivW fun i j => .int (i / j)) dFdiv := s_i2 fun i j h => by
  obtain ⟨h1, h2⟩ := Bool.and_eq_true_iff.mp h
  have h1 := of_decide_eq_true h1
  have h2 := of_decide_eq_true h2
  exact wide_div (b := 64) h1 (by omega) (by decide) (by decide)
theorem s_pow : Op2 rpD G W (rI CPow fun i j => .int (i ^ j.toNat)) dPow := s_i2 fun i j h => by
  obtain ⟨h1, h2⟩ := Bool.and_eq_true_iff.mp h
  obtain ⟨h2, h3⟩ := Bool.and_eq_true_iff.mp h2
  have := cSmall_ok h3
  exact ⟨of_decide_eq_true h1, of_decide_eq_true h2, by omega⟩

/-! ### + and * -/
def dAdd : D → D → M Slot
  | .int i, .int j => M.pure (.fro (.int (i + j)))
  | .str x, .str y => if szOk (x.length + y.length) then M.pure (.fro (.str (x ++ y))) else bad
  | .lst x, .lst y => mkLst (x ++ y)
  | .tup x, .tup y => if szOk (x.length + y.length) then M.pure (.fro (.tup (x ++ y))) else bad
  | _, _ => bad
def rAddG (K : PySem.W.Frag) : R2 := fun x y H Q => (rI0 fun i j => .int (i + j)) x y H Q ∨ (fun x y H Q => (∃ i j, x = .str i ∧ y = .str j ∧ i.length + j.length ≤ sizeLine ∧ Q (.str (i ++ j)) H) ∨ (fun x y H Q => rCat x y H Q ∨ rCatA K x y H Q) x y H Q) x y H Q
theorem op_addG : OpR X (binaryOp .Add) (rAddG X.K) := op_add.or (op_add_str.or (op_cat.or op_catA))
theorem s_add (hK : X.K = G.K) : Op2 rpS G W (rAddG X.K) dAdd := fun x y d1 d2 σ H Q ht => by
  obtain ⟨Fz, env, rl, hh, p⟩ := id ht
  have ry : Rep G Fz y d2 := hh (y, d2) (List.mem_cons_self)
  have rx : Rep G Fz x d1 := hh (x, d1) (List.mem_cons_of_mem _ List.mem_cons_self)
  rw [hK]
  cases rx with
  | int i =>
    cases ry with
    | int j => exact .inl ⟨i, j, rfl, rfl, p Fz _ H (Ext.refl _ _ _ _) rl (.int _)⟩
    | _ => exact p.elim
  | str i =>
    cases ry with
    | str j =>
      simp only [dAdd] at p
      cases e : szOk (i.length + j.length) with
      | false => rw [e] at p; exact p.elim
      | true =>
        rw [e] at p
        exact .inr (.inl ⟨i, j, rfl, rfl, szOk_le e, p Fz _ H (Ext.refl _ _ _ _) rl (.str _)⟩)
    | _ => exact p.elim
  | lst h1 z1 r1 =>
    cases ry with
    | lst h2 z2 r2 =>
      refine .inr (.inr (.inl ?_))
      rename_i a vs ds b ws es
      obtain ⟨t1, t2⟩ := t_newLst (vs := vs ++ ws) (G := G) (W := W) (hv := [(V.ref b, D.lst es), (V.ref a, D.lst ds)]) (ds := ds ++ es) (σ := σ) (H := H) (Q := Q) ⟨Fz, env, rl, hh, p⟩ fun Fz' s' hh' => by
        have q1 := hh' _ (List.mem_cons_self)
        have q2 := hh' (V.ref a, D.lst ds) (List.mem_cons_of_mem _ List.mem_cons_self)
        cases q1 with
        | lst u1 u2 u3 =>
          cases q2 with
          | lst w1 w2 w3 =>
            have e1 := (s' _ _ u1).symm.trans (rl.sub _ _ h2)
            have e2 := (s' _ _ w1).symm.trans (rl.sub _ _ h1)
            cases e1; cases e2
            exact w3.append u3
      exact ⟨a, b, vs, ws, rfl, rfl, rl.sub _ _ h1, rl.sub _ _ h2, by simpa using t1, t2⟩
    | _ => exact p.elim
  | tup h1 z1 r1 =>
    cases ry with
    | tup h2 z2 r2 =>
      rename_i a vs ds b ws es
      simp only [dAdd] at p
      cases e : szOk (ds.length + es.length) with
      | false => rw [e] at p; exact p.elim
      | true =>
        rw [e] at p
        have z : vs.length + ws.length ≤ sizeLine := by rw [r1.length, r2.length]; exact szOk_le e
        refine .inr (.inr (.inr ⟨a, b, vs, ws, rfl, rfl, sqt_mono rl.sub h1, sqt_mono rl.sub h2, z, fun k => ?_, fun _ k => ?_, fun _ _ q hq => ?_⟩))
        · subst k; cases r1
          exact p Fz _ H (Ext.refl _ _ _ _) rl (.tup h2 z2 r2)
        · subst k; cases r2
          refine p Fz _ H (Ext.refl _ _ _ _) rl ?_
          rw [List.append_nil]; exact .tup h1 z1 r1
        · obtain ⟨r', x'⟩ := rl.alloc (o := .tup (vs ++ ws)) hq
          exact p _ _ _ x' r' (.tup (SqT.of upd_same) (by simpa using z) ((r1.append r2).mono x'.sub))
    | _ => exact p.elim
  | _ => exact p.elim
theorem qo_add (hK : X.K = G.K) (ha : QE G X W a ma) (hb : QE G X W b mb) : QO G X W (.BinOp a .Add b pos) (mBin dAdd ma mb) := q_bin backS op_addG (s_add hK) ha hb
/-- * : ints, a list repeated, a text repeated is not here -/
def dMul : D → D → M Slot
  | .int i, .int j => if cSmall i || cSmall j then M.pure (.fro (.int (i * j))) else bad
  | .lst x, .int k => if decide (-(2 ^ 63) ≤ k) && (decide (k < 2 ^ 63) && szOk (x.length * k.toNat)) then mkLst (List.replicate k.toNat x).flatten else bad
  | _, _ => bad
def rMulG : R2 := fun x y H Q => (rI CMul fun i j => .int (i * j)) x y H Q ∨ rRep x y H Q
theorem op_mulG : OpR X (binaryOp .Mult) rMulG := op_mul.or op_rep
theorem Reps.rep {Fz : Hp} {vs : List V} {ds : List D} (r : Reps G Fz vs ds) : ∀ n : Nat, Reps G Fz (List.replicate n vs).flatten (List.replicate n ds).flatten
  | 0 => .nil
  | n + 1 => by rw [List.replicate_succ, List.replicate_succ, List.flatten_cons, List.flatten_cons]; exact r.append (Reps.rep r n)
theorem s_mul : Op2 rpS G W rMulG dMul := fun x y d1 d2 σ H Q ht => by
  obtain ⟨Fz, env, rl, hh, p⟩ := id ht
  have ry : Rep G Fz y d2 := hh (y, d2) (List.mem_cons_self)
  have rx : Rep G Fz x d1 := hh (x, d1) (List.mem_cons_of_mem _ List.mem_cons_self)
  cases rx with
  | int i =>
    cases ry with
    | int j =>
      simp only [dMul] at p
      cases e : cSmall i || cSmall j with
      | false => rw [e] at p; exact p.elim
      | true =>
        rw [e] at p
        refine .inl ⟨i, j, rfl, rfl, ?_, p Fz _ H (Ext.refl _ _ _ _) rl (.int _)⟩
        rcases Bool.or_eq_true_iff.mp e with e | e
        · exact .inl (cSmall_ok e)
        · exact .inr (cSmall_ok e)
    | _ => exact p.elim
  | lst h1 z1 r1 =>
    cases ry with
    | int k =>
      rename_i a vs ds
      simp only [dMul] at p
      cases e : (decide (-(2 ^ 63) ≤ k) && (decide (k < 2 ^ 63) && szOk (ds.length * k.toNat))) with
      | false => rw [e] at p; exact p.elim
      | true =>
        rw [e] at p
        obtain ⟨e1, e2⟩ := Bool.and_eq_true_iff.mp e
        obtain ⟨e2, e3⟩ := Bool.and_eq_true_iff.mp e2
        obtain ⟨t1, t2⟩ := t_newLst (vs := (List.replicate k.toNat vs).flatten) (G := G) (W := W) (hv := [(V.ref a, D.lst ds)]) (ds := (List.replicate k.toNat ds).flatten) (σ := σ) (H := H) (Q := Q) ⟨Fz, env, rl, (fun q hq => hh q (List.mem_cons_of_mem _ hq)), p⟩ fun Fz' s' hh' => by
          have q2 := hh' (V.ref a, D.lst ds) (List.mem_cons_self)
          cases q2 with
          | lst w1 w2 w3 =>
            have e2 := (s' _ _ w1).symm.trans (rl.sub _ _ h1)
            cases e2
            exact w3.rep _
        exact .inr ⟨a, k, vs, rfl, rfl, rl.sub _ _ h1, of_decide_eq_true e1, of_decide_eq_true e2, by rw [r1.length]; exact szOk_le e3, t2⟩
    | _ => exact p.elim
  | _ => exact p.elim
theorem qo_mul (ha : QE G X W a ma) (hb : QE G X W b mb) : QO G X W (.BinOp a .Mult b pos) (mBin dMul ma mb) := q_bin backS op_mulG s_mul ha hb
/-- - of an int -/
def dNeg : D → M D
  | .int i => M.pure (.int (-i))
  | _ => bad
theorem qe_neg (ha : QE G X W a ma) : QE G X W (.UnaryOp .USub a pos) (ma.bind dNeg) := PE_imp (pe_un un_neg ha) fun σ H Q q => (tOf.bind_ backD q).mono fun x H1 ⟨d, Fz, env, rl, hh, p⟩ => by
  have rx : Rep G Fz x d := hh _ (List.mem_cons_self)
  cases rx with
  | int i => exact ⟨i, rfl, p Fz _ H1 (Ext.refl _ _ _ _) rl (.int _)⟩
  | _ => exact p.elim

/-! ### == -/
mutual
def toP : D → Option PyData
  | .non => some .none
  | .bl b => some (.bool b)
  | .int i => some (.int i)
  | .str s => some (.str s)
  | .lst l => (toPs l).map .list
  | .tup l => (toPs l).map .tuple
  | .stp l => (toPs l).map .tuple
  | _ => none
def toPs : List D → Option (List PyData)
  | [] => some []
  | d :: r => match toP d, toPs r with
    | some p, some q => some (p :: q)
    | _, _ => none
end
mutual
theorem toP_dp {Fz H : Hp} (s : Same Fz H) : ∀ {v : V} {d : D} {p : PyData}, Rep G Fz v d → toP d = some p → Dp G.K H v p
  | _, _, _, .non, e => by simp only [toP, Option.some.injEq] at e; subst e; exact .non
  | _, _, _, .bl b, e => by simp only [toP, Option.some.injEq] at e; subst e; exact .bl b
  | _, _, _, .int b, e => by simp only [toP, Option.some.injEq] at e; subst e; exact .int b
  | _, _, _, .str b, e => by simp only [toP, Option.some.injEq] at e; subst e; exact .str b
  | _, _, _, .lst h z r, e => by
    simp only [toP, Option.map_eq_some_iff] at e
    obtain ⟨ps, e1, rfl⟩ := e
    exact .lst (SqL.of (s _ _ h)) (toPs_dp s r e1)
  | _, _, _, .tup h z r, e => by
    simp only [toP, Option.map_eq_some_iff] at e
    obtain ⟨ps, e1, rfl⟩ := e
    exact .tup (sqt_mono s h) (toPs_dp s r e1)
  | _, _, _, .stp h _ _ z r, e => by
    simp only [toP, Option.map_eq_some_iff] at e
    obtain ⟨ps, e1, rfl⟩ := e
    exact .tup (.inl (.inr ⟨_, s _ _ h⟩)) (toPs_dp s r e1)
  | _, _, _, .scr _ _, e => by simp [toP] at e
  | _, _, _, .ins _ _ _ _, e => by simp [toP] at e
  | _, _, _, .exc _ _ _ _ _ _ _ _, e => by simp [toP] at e
theorem toPs_dp {Fz H : Hp} (s : Same Fz H) : ∀ {vs : List V} {ds : List D} {ps : List PyData}, Reps G Fz vs ds → toPs ds = some ps → DpAll G.K H vs ps
  | _, _, _, .nil, e => by simp only [toPs, Option.some.injEq] at e; subst e; exact .nil
  | _, _, _, .cons h r, e => by
    simp only [toPs] at e
    split at e
    · rename_i p q e1 e2
      cases e
      exact .cons (toP_dp s h e1) (toPs_dp s r e2)
    · cases e
end
def pEq : D → D → Option Bool := fun d e => match toP d, toP e with
  | some p, some q => if SeqAt.shaped p && SeqAt.shaped q then some (PyData.eqv p q) else none
  | _, _ => none
/-- ==, of plain data -/
def dEqB : D → D → Option Bool
  | .int i, .int j => some (decide (i = j))
  | .str i, .str j => some (decide (i = j))
  | .bl i, .bl j => some (decide (i = j))
  | .non, .non => some true
  | d, e => pEq d e
def dEq (d e : D) : M D := match dEqB d e with
  | some b => M.pure (.bl b)
  | none => bad
def dNe (d e : D) : M D := match dEqB d e with
  | some b => M.pure (.bl (!b))
  | none => bad
def rEqG (K : PySem.W.Frag) : R2 := fun x y H Q => rEq x y H Q ∨ rEqD K x y H Q
def rNeG (K : PySem.W.Frag) : R2 := fun x y H Q => rNe x y H Q ∨ rNeD K x y H Q
theorem op_eqG (hu : X.A.units + 64 < cLine) : OpR X (compareOp .Eq) (rEqG X.K) := op_eq.or (op_eqD hu)
theorem op_neG (hu : X.A.units + 64 < cLine) : OpR X (compareOp .NotEq) (rNeG X.K) := op_ne.or (op_neD hu)
theorem eq_two {x y : V} {d1 d2 : D} {Fz H : Hp} {b : Bool} (s : Same Fz H) (r1 : Rep G Fz x d1) (r2 : Rep G Fz y d2) (h : dEqB d1 d2 = some b) :
    (scal x y = true ∧ decide (x = y) = b) ∨ ∃ d e, Dp G.K H x d ∧ Dp G.K H y e ∧ SeqAt.shaped d = true ∧ SeqAt.shaped e = true ∧ PyData.eqv d e = b := by
  have big : pEq d1 d2 = some b → ∃ d e, Dp G.K H x d ∧ Dp G.K H y e ∧ SeqAt.shaped d = true ∧ SeqAt.shaped e = true ∧ PyData.eqv d e = b := fun h => by
    unfold pEq at h
    split at h
    · rename_i p q e1 e2
      cases z : (SeqAt.shaped p && SeqAt.shaped q) with
      | false => rw [z] at h; cases h
      | true =>
        rw [z] at h
        obtain ⟨z1, z2⟩ := Bool.and_eq_true_iff.mp z
        exact ⟨p, q, toP_dp s r1 e1, toP_dp s r2 e2, z1, z2, Option.some.inj h⟩
    · cases h
  cases r1 with
  | int i =>
    cases r2 with
    | int j => refine .inl ⟨rfl, ?_⟩; rw [← Option.some.inj h]; simp
    | _ => exact .inr (big h)
  | str i =>
    cases r2 with
    | str j => refine .inl ⟨rfl, ?_⟩; rw [← Option.some.inj h]; simp
    | _ => exact .inr (big h)
  | bl i =>
    cases r2 with
    | bl j => refine .inl ⟨rfl, ?_⟩; rw [← Option.some.inj h]; simp
    | _ => exact .inr (big h)
  | non =>
    cases r2 with
    | non => refine .inl ⟨rfl, ?_⟩; rw [← Option.some.inj h]; simp
    | _ => exact .inr (big h)
  | lst _ _ _ => cases r2 <;> exact .inr (big h)
  | tup _ _ _ => cases r2 <;> exact .inr (big h)
  | stp _ _ _ _ _ => cases r2 <;> exact .inr (big h)
  | scr _ _ => cases r2 <;> exact .inr (big h)
  | ins _ _ _ _ => cases r2 <;> exact .inr (big h)
  | exc _ _ _ _ _ _ _ _ => cases r2 <;> exact .inr (big h)
theorem s_eq (hK : X.K = G.K) : Op2 rpD G W (rEqG X.K) dEq := op2_pure fun x y d1 d2 Fz H Q s r1 r2 => by
  unfold dEq
  cases e : dEqB d1 d2 with
  | none => exact .inr rfl
  | some b =>
    refine .inl ⟨.bl b, rfl, fun k => ?_⟩
    rw [hK]
    rcases eq_two s r1 r2 e with ⟨q1, q2⟩ | ⟨d, e', q1, q2, q3, q4, q5⟩
    · exact .inl ⟨q1, by rw [q2]; exact k _ (.bl b)⟩
    · exact .inr ⟨d, e', q1, q2, q3, q4, by rw [q5]; exact k _ (.bl b)⟩
theorem s_ne (hK : X.K = G.K) : Op2 rpD G W (rNeG X.K) dNe := op2_pure fun x y d1 d2 Fz H Q s r1 r2 => by
  unfold dNe
  cases e : dEqB d1 d2 with
  | none => exact .inr rfl
  | some b =>
    refine .inl ⟨.bl (!b), rfl, fun k => ?_⟩
    rw [hK]
    rcases eq_two s r1 r2 e with ⟨q1, q2⟩ | ⟨d, e', q1, q2, q3, q4, q5⟩
    · exact .inl ⟨q1, by rw [q2]; exact k _ (.bl _)⟩
    · exact .inr ⟨d, e', q1, q2, q3, q4, by rw [q5]; exact k _ (.bl _)⟩

/-! ### in, is -/
def dFlat : D → Bool
  | .non => true
  | .bl _ => true
  | .int _ => true
  | .str _ => true
  | _ => false
def dEqF : D → D → Bool
  | .non, .non => true
  | .bl a, .bl b => a == b
  | .bl a, .int b => (if a then 1 else 0) == b
  | .int a, .bl b => a == (if b then 1 else 0)
  | .int a, .int b => a == b
  | .str a, .str b => a == b
  | _, _ => false
theorem flat_eq {Fz : Hp} {v : V} {d : D} (r : Rep G Fz v d) : flatV v = dFlat d := by cases r <;> rfl
theorem eqF_eq {Fz : Hp} {v w : V} {d e : D} (r : Rep G Fz v d) (q : Rep G Fz w e) : eqV v w = dEqF d e := by cases r <;> cases q <;> rfl
theorem allFlat {Fz : Hp} : ∀ {vs : List V} {ds : List D}, Reps G Fz vs ds → vs.all flatV = ds.all dFlat
  | _, _, .nil => rfl
  | _, _, .cons r t => by simp only [List.all_cons]; rw [flat_eq r, allFlat t]
theorem inF_eq {Fz : Hp} {v : V} {d : D} (q : Rep G Fz v d) : ∀ {vs : List V} {ds : List D}, Reps G Fz vs ds → inV v vs = ds.any fun z => dEqF z d
  | _, _, .nil => rfl
  | _, _, .cons r t => by
    have ih := inF_eq q t
    unfold inV at ih ⊢
    simp only [List.any_cons]
    rw [eqF_eq r q, ih]
def dInB (d : D) : D → Option Bool
  | .tup l => if dFlat d && l.all dFlat then some (l.any fun z => dEqF z d) else none
  | .lst l => if dFlat d && l.all dFlat then some (l.any fun z => dEqF z d) else match toP d, toPs l with
    | some p, some q => if SeqAt.shaped p && SeqAt.shaped (.list q) then some (q.any fun z => PyData.eqv z p) else none
    | _, _ => none
  | _ => none
def dIn (d e : D) : M D := match dInB d e with
  | some b => M.pure (.bl b)
  | none => bad
def dNotIn (d e : D) : M D := match dInB d e with
  | some b => M.pure (.bl (!b))
  | none => bad
def rInG (K : PySem.W.Frag) : R2 := fun x y H Q => rIn K false x y H Q ∨ rInD K x y H Q
def rNotInG (K : PySem.W.Frag) : R2 := fun x y H Q => rIn K true x y H Q ∨ rNotInD K x y H Q
theorem op_inG (hu : X.A.units + 65 < cLine) : OpR X (compareOp .In) (rInG X.K) := op_in_seq.or (op_inD hu)
theorem op_notInG (hu : X.A.units + 65 < cLine) : OpR X (compareOp .NotIn) (rNotInG X.K) := op_notIn_seq.or (op_notInD hu)
theorem in_two {x y : V} {d1 d2 : D} {Fz H : Hp} {b : Bool} (s : Same Fz H) (r1 : Rep G Fz x d1) (r2 : Rep G Fz y d2) (h : dInB d1 d2 = some b) :
    (∃ p xs, y = .ref p ∧ (SqL G.K H p xs ∨ SqT G.K H p xs) ∧ flatV x = true ∧ xs.all flatV = true ∧ inV x xs = b) ∨
    ∃ d ds, Dp G.K H x d ∧ Dp G.K H y (.list ds) ∧ SeqAt.shaped d = true ∧ SeqAt.shaped (.list ds) = true ∧ (ds.any fun z => PyData.eqv z d) = b := by
  cases r2 with
  | tup h2 z2 q2 =>
    rename_i a vs ds
    simp only [dInB] at h
    cases e : (dFlat d1 && ds.all dFlat) with
    | false => rw [e] at h; cases h
    | true =>
      rw [e] at h
      obtain ⟨e1, e2⟩ := Bool.and_eq_true_iff.mp e
      exact .inl ⟨a, vs, rfl, .inr (sqt_mono s h2), (flat_eq r1).trans e1, (allFlat q2).trans e2, (inF_eq r1 q2).trans (Option.some.inj h)⟩
  | lst h2 z2 q2 =>
    rename_i a vs ds
    simp only [dInB] at h
    cases e : (dFlat d1 && ds.all dFlat) with
    | true =>
      rw [e] at h
      obtain ⟨e1, e2⟩ := Bool.and_eq_true_iff.mp e
      exact .inl ⟨a, vs, rfl, .inl (SqL.of (s _ _ h2)), (flat_eq r1).trans e1, (allFlat q2).trans e2, (inF_eq r1 q2).trans (Option.some.inj h)⟩
    | false =>
      rw [e] at h
      simp only [Bool.false_eq_true, if_false] at h
      split at h
      · rename_i p q e1 e2
        cases z : (SeqAt.shaped p && SeqAt.shaped (.list q)) with
        | false => rw [z] at h; cases h
        | true =>
          rw [z] at h
          obtain ⟨z1, z2⟩ := Bool.and_eq_true_iff.mp z
          exact .inr ⟨p, q, toP_dp s r1 e1, .lst (SqL.of (s _ _ h2)) (toPs_dp s q2 e2), z1, z2, Option.some.inj h⟩
      · cases h
  | _ => cases h
theorem s_in (hK : X.K = G.K) : Op2 rpD G W (rInG X.K) dIn := op2_pure fun x y d1 d2 Fz H Q s r1 r2 => by
  unfold dIn
  cases e : dInB d1 d2 with
  | none => exact .inr rfl
  | some b =>
    refine .inl ⟨.bl b, rfl, fun k => ?_⟩
    rw [hK]
    rcases in_two s r1 r2 e with ⟨p, xs, q1, q2, q3, q4, q5⟩ | ⟨d, ds, q1, q2, q3, q4, q5⟩
    · exact .inl ⟨p, xs, q1, q2, q3, q4, by rw [q5]; exact k _ (.bl b)⟩
    · exact .inr ⟨d, ds, q1, q2, q3, q4, by rw [q5]; exact k _ (.bl b)⟩
theorem s_notIn (hK : X.K = G.K) : Op2 rpD G W (rNotInG X.K) dNotIn := op2_pure fun x y d1 d2 Fz H Q s r1 r2 => by
  unfold dNotIn
  cases e : dInB d1 d2 with
  | none => exact .inr rfl
  | some b =>
    refine .inl ⟨.bl (!b), rfl, fun k => ?_⟩
    rw [hK]
    rcases in_two s r1 r2 e with ⟨p, xs, q1, q2, q3, q4, q5⟩ | ⟨d, ds, q1, q2, q3, q4, q5⟩
    · exact .inl ⟨p, xs, q1, q2, q3, q4, by rw [q5]; exact k _ (.bl _)⟩
    · exact .inr ⟨d, ds, q1, q2, q3, q4, by rw [q5]; exact k _ (.bl _)⟩
def dIsNon : D → Bool
  | .non => true
  | _ => false
/-- x is None, x is True, x is False -/
def dIs : D → D → M D
  | d, .non => M.pure (.bl (dIsNon d))
  | .bl a, .bl b => M.pure (.bl (decide (a = b)))
  | _, _ => bad
def dIsNot : D → D → M D
  | d, .non => M.pure (.bl (!dIsNon d))
  | .bl a, .bl b => M.pure (.bl (!decide (a = b)))
  | _, _ => bad
theorem isNon_eq {Fz : Hp} {v : V} {d : D} (r : Rep G Fz v d) : decide (v = .non) = dIsNon d := by cases r <;> rfl
theorem s_is : Op2 rpD G W (fun x y H Q => (y = .non ∧ Q (.bl (decide (x = .non))) H) ∨ rIsB x y H Q) dIs := op2_pure fun x y d1 d2 Fz H Q s r1 r2 => by
  cases r2 with
  | non => exact .inl ⟨.bl (dIsNon d1), by cases d1 <;> rfl, fun k => .inl ⟨rfl, by rw [isNon_eq r1]; exact k _ (.bl _)⟩⟩
  | bl b =>
    cases r1 with
    | bl a => exact .inl ⟨_, rfl, fun k => .inr ⟨a, b, rfl, rfl, k _ (.bl _)⟩⟩
    | _ => exact .inr rfl
  | _ => cases d1 <;> exact .inr rfl
theorem s_isNot : Op2 rpD G W (fun x y H Q => (y = .non ∧ Q (.bl (!decide (x = .non))) H) ∨ rNotB x y H Q) dIsNot := op2_pure fun x y d1 d2 Fz H Q s r1 r2 => by
  cases r2 with
  | non => exact .inl ⟨.bl (!dIsNon d1), by cases d1 <;> rfl, fun k => .inl ⟨rfl, by rw [isNon_eq r1]; exact k _ (.bl _)⟩⟩
  | bl b =>
    cases r1 with
    | bl a => exact .inl ⟨_, rfl, fun k => .inr ⟨a, b, rfl, rfl, k _ (.bl _)⟩⟩
    | _ => exact .inr rfl
  | _ => cases d1 <;> exact .inr rfl

/-! ### subscripts -/
def dIx : D → D → M D
  | .lst l, .int i => match atI l i with
    | some d => M.pure d
    | none => bad
  | .tup l, .int i => match atI l i with
    | some d => M.pure d
    | none => bad
  | .stp l, .int i => match atI l i with
    | some d => M.pure d
    | none => bad
  | .str s, .int i => if szOk s.length then match atI s.cps.toList i with
    | some c => M.pure (.str ⟨#[c]⟩)
    | none => bad
    else bad
  | _, _ => bad
theorem at_reps {Fz : Hp} {vs : List V} {ds : List D} {i : Int} {d : D} (r : Reps G Fz vs ds) (h : atI ds i = some d) : ∃ v, atI vs i = some v ∧ Rep G Fz v d := by
  unfold atI at h ⊢
  rw [← r.length] at h
  cases e : ixN vs.length i with
  | none => rw [e] at h; cases h
  | some j =>
    rw [e] at h
    obtain ⟨v, h1, h2⟩ := r.get' (i := j) h
    exact ⟨v, h1, h2⟩
theorem s_ix (hK : X.K = G.K) : Op2 rpD G W (rIx X.K) dIx := op2_pure fun x y d1 d2 Fz H Q s r1 r2 => by
  rw [hK]
  cases r1 with
  | lst h z r =>
    cases r2 with
    | int i =>
      rename_i a vs ds
      simp only [dIx]
      cases e : atI ds i with
      | none => exact .inr rfl
      | some d =>
        obtain ⟨v, e1, rv⟩ := at_reps r e
        exact .inl ⟨d, rfl, fun k => .inl ⟨a, vs, i, v, rfl, rfl, SqL.of (s _ _ h), e1, k v rv⟩⟩
    | _ => exact .inr rfl
  | tup h z r =>
    cases r2 with
    | int i =>
      rename_i a vs ds
      simp only [dIx]
      cases e : atI ds i with
      | none => exact .inr rfl
      | some d =>
        obtain ⟨v, e1, rv⟩ := at_reps r e
        exact .inl ⟨d, rfl, fun k => .inr (.inl ⟨a, vs, i, v, rfl, rfl, sqt_mono s h, e1, k v rv⟩)⟩
    | _ => exact .inr rfl
  | @stp a o vs ds h _ _ z r =>
    cases r2 with
    | int i =>
      simp only [dIx]
      cases e : atI ds i with
      | none => exact .inr rfl
      | some d =>
        obtain ⟨v, e1, rv⟩ := at_reps r e
        exact .inl ⟨d, rfl, fun k => .inr (.inl ⟨a, vs, i, v, rfl, rfl, .inl (.inr ⟨_, s _ _ h⟩), e1, k v rv⟩)⟩
    | _ => exact .inr rfl
  | str z =>
    cases r2 with
    | int i =>
      simp only [dIx]
      cases e0 : szOk z.length with
      | false => exact .inr rfl
      | true =>
        cases e : atI z.cps.toList i with
        | none => exact .inr rfl
        | some c => exact .inl ⟨_, rfl, fun k => .inr (.inr ⟨z, i, c, rfl, rfl, szOk_le e0, e, k _ (.str _)⟩)⟩
    | _ => exact .inr rfl
  | _ => exact .inr rfl
theorem qe_ix (hK : X.K = G.K) (ha : QE G X W a ma) (hb : QE G X W b mb) (hm : PlainIx b := by exact fun _ _ => rfl) : QE G X W (.Subscript a b pos) (mBin dIx ma mb) := q_ix backD ix_seq (s_ix hK) ha hb hm
/-- slices: parts are ints or left out -/
def mPart (m : M D) : M (Option Int) := m.bind fun d => match d with
  | .int i => M.pure (some i)
  | _ => bad
def mNoPart : M (Option Int) := M.pure none
def rpO : RP (Option Int) (Option Int) := fun _ _ _ _ _ _ a b => a = b
theorem backO : rpBack rpO := fun _ _ _ _ _ _ _ _ _ _ h => h
abbrev QP (G : Kx) (X : Cx) (W : WX) (e : Option Expr) (m : M (Option Int)) : Prop := PO X e (tOf rpO G W [] m)
theorem PO_imp {X : Cx} {e : Option Expr} {t t' : TO} (h : PO X e t) (k : ∀ σ H Q, t' σ H Q → t σ H Q) : PO X e t' := ⟨fun p s σ H Q I q => h.run p s σ H Q I (k σ H Q q)⟩
theorem qp_none : QP G X W none mNoPart := PO_imp po_none fun σ H Q ⟨Fz, env, rl, hh, p⟩ => p Fz none H (Ext.refl _ _ _ _) rl rfl
theorem qp_some (h : QE G X W e ma) : QP G X W (some e) (mPart ma) := PO_imp (po_some h) fun σ H Q q => (tOf.bind_ backO q).mono fun x H1 ⟨d, Fz, env, rl, hh, p⟩ => by
  have rx : Rep G Fz x d := hh _ (List.mem_cons_self)
  cases rx with
  | int i => exact ⟨i, rfl, p Fz _ H1 (Ext.refl _ _ _ _) rl rfl⟩
  | _ => exact p.elim
theorem tOf.bindO {ω α : Type} {rp : RP ω α} (bk : rpBack rp) {hv : List (V × D)} {σ : St} {H : Hp} {ma : M (Option Int)} {f : Option Int → M α} {Q : ω → Hp → Prop} (h : tOf rp G W hv (M.bind ma f) σ H Q) :
    tOf rpO G W [] ma σ H fun b H1 => tOf rp G W hv (f b) σ H1 Q := by
  obtain ⟨Fz, env, r, hh, p⟩ := h
  refine ⟨Fz, env, r, (fun _ z => nomatch z), ?_⟩
  unfold M.bind at p
  cases e : ma env with
  | ok d e1 =>
    rw [e] at p
    intro Fz1 x H1 x1 r1 rx
    have rx' : x = d := rx
    subst rx'
    exact ⟨Fz1, e1, r1, hv_mono x1.sub hh, Post.then_ (α := α) bk x1 p⟩
  | err c fs e1 => rw [e] at p; exact p
  | bad => rw [e] at p; exact p
def cutD (xs : List D) (lo hi : Option Int) : List D := (xs.drop (HT.sIx xs.length 0 lo)).take (HT.sIx xs.length xs.length hi - HT.sIx xs.length 0 lo)
def dSl : D → Option Int → Option Int → M Slot
  | .lst l, lo, hi => M.pure (.own (.l (cutD l lo hi)))
  | .scr l, lo, hi => M.pure (.own (.l (cutD (l.map D.int) lo hi)))
  | .tup l, lo, hi => M.pure (.fro (.tup (cutD l lo hi)))
  | _, _, _ => bad
def rSlG (K : PySem.W.Frag) : V → Option Int → Option Int → Hp → VK → Prop := fun x lo hi H Q => rSlL K x lo hi H Q ∨ rSlA K x lo hi H Q
theorem sl_G : SlR X (rSlG X.K) := sl_list.or sl_tupA
theorem cut_reps {Fz : Hp} {vs : List V} {ds : List D} (r : Reps G Fz vs ds) (lo hi : Option Int) : Reps G Fz (cutV vs lo hi) (cutD ds lo hi) := by
  unfold cutV cutD
  rw [r.length]
  exact (r.drop _).take _
def mSl (m : M D) (n k : M (Option Int)) : M Slot := m.bind fun d => n.bind fun lo => k.bind fun hi => dSl d lo hi
theorem qo_sl (hK : X.K = G.K) {n k : M (Option Int)} {lo hi : Option Expr} {p2 : Pos} (he : QE G X W e ma) (hl : QP G X W lo n) (hu : QP G X W hi k) : QO G X W (.Subscript e (.Slice lo hi none p2) pos) (mSl ma n k) :=
  PE_imp (pe_slice sl_G he hl hu) fun σ H Q q => (tOf.bind_ backS q).mono fun x H1 ⟨d, q1⟩ => (tOf.bindO backS q1).mono fun l H2 q2 => (tOf.bindO backS q2).mono fun u H3 q3 => by
    obtain ⟨Fz, env, rl, hh, p⟩ := q3
    have rx : Rep G Fz x d := hh _ (List.mem_cons_self)
    rw [hK]
    have newl : ∀ (vs : List V) (ds : List D), vs.length ≤ sizeLine → Reps G Fz vs ds → Post rpS G W Fz σ env H3 Q (M.pure (Slot.own (.l (cutD ds l u))) env) → ∀ p, H3 p = none → Q (.ref p) (upd H3 p (.lst (cutV vs l u))) := fun vs ds z rv p q hq => by
      obtain ⟨r', x', n, nw⟩ := rl.allocO (o := .lst (cutV vs l u)) hq
      exact p _ _ _ x' r' ⟨q, rfl, ⟨_, upd_same, n, Nat.le_trans (cutV_length _ _ _) z, cut_reps rv _ _⟩, hq, nw⟩
    cases rx with
    | lst h z r => exact .inl ⟨_, _, rfl, SqL.of (rl.sub _ _ h), newl _ _ z r p⟩
    | scr h z => exact .inl ⟨_, _, rfl, sql_mono rl.sub h, newl _ _ (by simpa using z) (Reps.ints _) p⟩
    | @tup a vs ds h z r =>
      refine .inr ⟨a, vs, rfl, sqt_mono rl.sub h, fun w => ?_, fun _ q hq => ?_⟩
      · refine p Fz _ H3 (Ext.refl _ _ _ _) rl ?_
        have e2 : cutD ds l u = ds := by
          unfold cutD
          rw [← r.length, w.1, w.2, r.length]
          simp
        rw [e2]; exact .tup h z r
      · obtain ⟨r', x'⟩ := rl.alloc (o := .tup (cutV vs l u)) hq
        exact p _ _ _ x' r' (.tup (SqT.of upd_same) (Nat.le_trans (cutV_length _ _ _) z) ((cut_reps r _ _).mono x'.sub))
    | _ => exact p.elim
end
end Eng

end
section
set_option Elab.async false
set_option linter.all false
set_option autoImplicit false
set_option maxRecDepth 100000
set_option maxHeartbeats 2000000
namespace Eng
open PySem PySem.Spec L2
open PyProof.Rows hiding St
section
variable {G : Kx} {X : Cx} {W : WX} {e a b c : Expr} {es : List Expr} {pos p : Pos} {ma mb mc : M D} {x : Str}

/-! ### built-ins -/
theorem q_callB {α : Type} {rp : RP V α} (bk : rpBack rp) {id : String} {r : List V → Hp → VK → Prop} {f : List D → M α} {n : M (List D)} (hc : CallR X (.builtin id) r) (hf : CallS rp G W r f) (hg : Gl X x) (hm : X.mg x = none) (hv : bootBuiltins x = some (.builtin id)) (ha : QA G X W (e :: es) n)
    (hn : x ≠ "__name__" := by decide) (hdb : (x == ("__debug__" : Str)) = false := by decide)
    (he : starEach (e :: es) X.env = (false, eval e X.env) :: starEach es X.env := by rfl) (hpl : (backTo pos (starEach es X.env)).any (·.1) = false := by rfl) : PE X (.Call (.Name x p) (e :: es) [] pos) (tOf rp G W [] (n.bind f)) :=
  PE_imp (pe_callB hc hg hm hv ha hn hdb he hpl) fun σ H Q h => t_call bk hf h
theorem q_callTy {α : Type} {rp : RP V α} (bk : rpBack rp) {T : String} {r : List V → Hp → VK → Prop} {f : List D → M α} {n : M (List D)} (hc : CallR X (.type T) r) (hf : CallS rp G W r f) (hg : Gl X x) (hm : X.mg x = none) (hv : bootBuiltins x = some (.type T)) (ha : QA G X W (e :: es) n)
    (hn : x ≠ "__name__" := by decide) (hdb : (x == ("__debug__" : Str)) = false := by decide)
    (he : starEach (e :: es) X.env = (false, eval e X.env) :: starEach es X.env := by rfl) (hpl : (backTo pos (starEach es X.env)).any (·.1) = false := by rfl) : PE X (.Call (.Name x p) (e :: es) [] pos) (tOf rp G W [] (n.bind f)) :=
  PE_imp (pe_callTy hc hg hm hv ha hn hdb he hpl) fun σ H Q h => t_call bk hf h
/-- one argument -/
theorem callS1 {α : Type} {rp : RP V α} {r : List V → Hp → VK → Prop} {f : List D → M α} (h0 : f [] = bad) (h2 : ∀ a b l, f (a :: b :: l) = bad)
    (h : ∀ (v : V) (d : D) (Fz H : Hp) (σ : St) (env : En) (Q : VK), RelS G Fz σ H env → Rep G Fz v d → Post rp G W Fz σ env H Q (f [d] env) → r [v] H Q) : CallS rp G W r f := fun xs ds σ H Q el ⟨Fz, env, rl, hh, q⟩ => by
  match xs, ds, el with
  | [], [], _ => rw [h0] at q; exact q.elim
  | [v], [d], _ => exact h v d Fz H σ env Q rl (hh (v, d) List.mem_cons_self) q
  | _ :: _ :: _, _ :: _ :: _, _ => rw [h2] at q; exact q.elim
def dLen : List D → M D
  | [.lst l] => M.pure (.int l.length)
  | [.tup l] => M.pure (.int l.length)
  | [.stp l] => M.pure (.int l.length)
  | [.str s] => if szOk s.length then M.pure (.int s.length) else bad
  | _ => bad
theorem s_len (hK : X.K = G.K) : CallS rpD G W (fun xs H Q => ∃ x n, xs = [x] ∧ LenV X.K x H n ∧ Q (.int n) H) dLen := callS1 rfl (fun a b l => by cases a <;> rfl) fun v d Fz H σ env Q rl rv q => by
  rw [hK]
  cases rv with
  | lst h z r => exact ⟨_, _, rfl, .inl ⟨_, SqL.of (rl.sub _ _ h), rfl⟩, by rw [r.length]; exact q Fz _ H (Ext.refl _ _ _ _) rl (.int _)⟩
  | tup h z r => exact ⟨_, _, rfl, .inr ⟨_, sqt_mono rl.sub h, rfl⟩, by rw [r.length]; exact q Fz _ H (Ext.refl _ _ _ _) rl (.int _)⟩
  | stp h _ _ z r => exact ⟨_, _, rfl, .inr ⟨_, .inl (.inr ⟨_, rl.sub _ _ h⟩), rfl⟩, by rw [r.length]; exact q Fz _ H (Ext.refl _ _ _ _) rl (.int _)⟩
  | str s =>
    simp only [dLen] at q
    cases e : szOk s.length with
    | false => rw [e] at q; exact q.elim
    | true => rw [e] at q; exact ⟨_, _, rfl, ⟨szOk_le e, rfl⟩, q Fz _ H (Ext.refl _ _ _ _) rl (.int _)⟩
  | _ => exact q.elim
theorem qe_len (hK : X.K = G.K) {n : M (List D)} (hg : Gl X "len") (hm : X.mg "len" = none) (ha : QA G X W [e] n) (he : starEach [e] X.env = (false, eval e X.env) :: starEach [] X.env := by rfl) : QE G X W (.Call (.Name "len" p) [e] [] pos) (n.bind dLen) :=
  q_callB backD call_len (s_len hK) hg hm boot_len ha (he := he)
def dTuple : List D → M D
  | [.lst l] => M.pure (.tup l)
  | [.tup l] => M.pure (.tup l)
  | _ => bad
theorem s_tuple (hK : X.K = G.K) : CallS rpD G W (fun xs H Q => ∃ p ys, xs = [.ref p] ∧ ((SqL X.K H p ys ∧ ∀ l, H l = none → Q (.ref l) (upd H l (.tup ys))) ∨ (SqT X.K H p ys ∧ Q (.ref p) H))) dTuple := callS1 rfl (fun a b l => by cases a <;> rfl) fun v d Fz H σ env Q rl rv q => by
  rw [hK]
  cases rv with
  | lst h z r =>
    refine ⟨_, _, rfl, .inl ⟨SqL.of (rl.sub _ _ h), fun l hl => ?_⟩⟩
    obtain ⟨r', x'⟩ := rl.alloc (o := .tup _) hl
    exact q _ _ _ x' r' (.tup (SqT.of upd_same) z (r.mono x'.sub))
  | tup h z r => exact ⟨_, _, rfl, .inr ⟨sqt_mono rl.sub h, q Fz _ H (Ext.refl _ _ _ _) rl (.tup h z r)⟩⟩
  | _ => exact q.elim
theorem qe_tuple (hK : X.K = G.K) {n : M (List D)} (hg : Gl X "tuple") (hm : X.mg "tuple" = none) (ha : QA G X W [e] n) (he : starEach [e] X.env = (false, eval e X.env) :: starEach [] X.env := by rfl) : QE G X W (.Call (.Name "tuple" p) [e] [] pos) (n.bind dTuple) :=
  q_callTy backD call_tuple_of (s_tuple hK) hg hm (by decide +kernel) ha (he := he)
def dList : List D → M Slot
  | [.lst l] => M.pure (.own (.l l))
  | [.tup l] => M.pure (.own (.l l))
  | _ => bad
theorem s_list (hK : X.K = G.K) : CallS rpS G W (fun xs H Q => ∃ p ys, xs = [.ref p] ∧ (SqL X.K H p ys ∨ SqT X.K H p ys) ∧ ∀ l, H l = none → Q (.ref l) (upd H l (.lst ys))) dList := callS1 rfl (fun a b l => by cases a <;> rfl) fun v d Fz H σ env Q rl rv q => by
  rw [hK]
  cases rv with
  | lst h z r =>
    refine ⟨_, _, rfl, .inl (SqL.of (rl.sub _ _ h)), fun l hl => ?_⟩
    obtain ⟨r', x', n, nw⟩ := rl.allocO (o := .lst _) hl
    exact q _ _ _ x' r' ⟨l, rfl, ⟨_, upd_same, n, z, r⟩, hl, nw⟩
  | tup h z r =>
    refine ⟨_, _, rfl, .inr (sqt_mono rl.sub h), fun l hl => ?_⟩
    obtain ⟨r', x', n, nw⟩ := rl.allocO (o := .lst _) hl
    exact q _ _ _ x' r' ⟨l, rfl, ⟨_, upd_same, n, z, r⟩, hl, nw⟩
  | _ => exact q.elim
theorem qo_list (hK : X.K = G.K) {n : M (List D)} (hg : Gl X "list") (hm : X.mg "list" = none) (ha : QA G X W [e] n) (he : starEach [e] X.env = (false, eval e X.env) :: starEach [] X.env := by rfl) : QO G X W (.Call (.Name "list" p) [e] [] pos) (n.bind dList) :=
  q_callTy backS call_list_of (s_list hK) hg hm (by decide +kernel) ha (he := he)
def dInt : List D → M D
  | [.int i] => M.pure (.int i)
  | [.bl b] => M.pure (.int (if b then 1 else 0))
  | _ => bad
theorem s_int : CallS rpD G W (fun xs H Q => (∃ i, xs = [.int i] ∧ Q (.int i) H) ∨ ∃ k, xs = [.bl k] ∧ Q (.int (if k then 1 else 0)) H) dInt := callS1 rfl (fun a b l => by cases a <;> rfl) fun v d Fz H σ env Q rl rv q => by
  cases rv with
  | int i => exact .inl ⟨i, rfl, q Fz _ H (Ext.refl _ _ _ _) rl (.int _)⟩
  | bl i => exact .inr ⟨i, rfl, q Fz _ H (Ext.refl _ _ _ _) rl (.int _)⟩
  | _ => exact q.elim
theorem qe_intc {n : M (List D)} (hg : Gl X "int") (hm : X.mg "int" = none) (ha : QA G X W [e] n) (he : starEach [e] X.env = (false, eval e X.env) :: starEach [] X.env := by rfl) : QE G X W (.Call (.Name "int" p) [e] [] pos) (n.bind dInt) :=
  q_callTy backD call_int1 s_int hg hm (by decide +kernel) ha (he := he)
def dBools : List D → Option (List Bool)
  | [] => some []
  | .bl b :: r => (dBools r).map (b :: ·)
  | _ => none
theorem bools_eq {Fz : Hp} : ∀ {vs : List V} {ds : List D} {bs : List Bool}, Reps G Fz vs ds → dBools ds = some bs → vs = bs.map V.bl
  | _, _, _, .nil, e => by simp only [dBools, Option.some.injEq] at e; subst e; rfl
  | _, _, _, .cons h r, e => by
    cases h with
    | bl b =>
      simp only [dBools, Option.map_eq_some_iff] at e
      obtain ⟨q, e1, rfl⟩ := e
      rw [bools_eq r e1]; rfl
    | _ => simp [dBools] at e
def dAll : List D → M D
  | [.lst l] => match dBools l with
    | some bs => M.pure (.bl (bs.all id))
    | none => bad
  | _ => bad
def dAny : List D → M D
  | [.lst l] => match dBools l with
    | some bs => M.pure (.bl (bs.any id))
    | none => bad
  | _ => bad
theorem s_all (hK : X.K = G.K) : CallS rpD G W (rAll X.K) dAll := callS1 rfl (fun a b l => by cases a <;> rfl) fun v d Fz H σ env Q rl rv q => by
  rw [hK]
  cases rv with
  | lst h z r =>
    simp only [dAll] at q
    cases e : dBools _ with
    | none => rw [e] at q; exact q.elim
    | some bs =>
      rw [e] at q
      exact ⟨_, bs, rfl, by rw [← bools_eq r e]; exact SqL.of (rl.sub _ _ h), q Fz _ H (Ext.refl _ _ _ _) rl (.bl _)⟩
  | _ => exact q.elim
theorem s_any (hK : X.K = G.K) : CallS rpD G W (rAny X.K) dAny := callS1 rfl (fun a b l => by cases a <;> rfl) fun v d Fz H σ env Q rl rv q => by
  rw [hK]
  cases rv with
  | lst h z r =>
    simp only [dAny] at q
    cases e : dBools _ with
    | none => rw [e] at q; exact q.elim
    | some bs =>
      rw [e] at q
      exact ⟨_, bs, rfl, by rw [← bools_eq r e]; exact SqL.of (rl.sub _ _ h), q Fz _ H (Ext.refl _ _ _ _) rl (.bl _)⟩
  | _ => exact q.elim
theorem qe_all (hK : X.K = G.K) (hc : X.calm = true) {n : M (List D)} (hg : Gl X "all") (hm : X.mg "all" = none) (ha : QA G X W [e] n) (he : starEach [e] X.env = (false, eval e X.env) :: starEach [] X.env := by rfl) : QE G X W (.Call (.Name "all" p) [e] [] pos) (n.bind dAll) :=
  q_callB backD (cr_all hc) (s_all hK) hg hm (by decide +kernel) ha (he := he)
theorem qe_any (hK : X.K = G.K) (hc : X.calm = true) {n : M (List D)} (hg : Gl X "any") (hm : X.mg "any" = none) (ha : QA G X W [e] n) (he : starEach [e] X.env = (false, eval e X.env) :: starEach [] X.env := by rfl) : QE G X W (.Call (.Name "any" p) [e] [] pos) (n.bind dAny) :=
  q_callB backD (cr_any hc) (s_any hK) hg hm (by decide +kernel) ha (he := he)
def dInts : List D → Option (List Int)
  | [] => some []
  | .int b :: r => (dInts r).map (b :: ·)
  | _ => none
theorem ints_eq {Fz : Hp} : ∀ {vs : List V} {ds : List D} {bs : List Int}, Reps G Fz vs ds → dInts ds = some bs → vs = bs.map V.int
  | _, _, _, .nil, e => by simp only [dInts, Option.some.injEq] at e; subst e; rfl
  | _, _, _, .cons h r, e => by
    cases h with
    | int b =>
      simp only [dInts, Option.map_eq_some_iff] at e
      obtain ⟨q, e1, rfl⟩ := e
      rw [ints_eq r e1]; rfl
    | _ => simp [dInts] at e
def dSum : List D → M D
  | [.lst l] => match dInts l with
    | some bs => M.pure (.int bs.sum)
    | none => bad
  | _ => bad
theorem s_sum (hK : X.K = G.K) : CallS rpD G W (rSum X.K) dSum := callS1 rfl (fun a b l => by cases a <;> rfl) fun v d Fz H σ env Q rl rv q => by
  rw [hK]
  cases rv with
  | lst h z r =>
    simp only [dSum] at q
    cases e : dInts _ with
    | none => rw [e] at q; exact q.elim
    | some bs =>
      rw [e] at q
      exact ⟨_, bs, rfl, by rw [← ints_eq r e]; exact SqL.of (rl.sub _ _ h), q Fz _ H (Ext.refl _ _ _ _) rl (.int _)⟩
  | _ => exact q.elim
theorem qe_sum (hK : X.K = G.K) (hc : X.calm = true) {n : M (List D)} (hg : Gl X "sum") (hm : X.mg "sum" = none) (ha : QA G X W [e] n) (he : starEach [e] X.env = (false, eval e X.env) :: starEach [] X.env := by rfl) : QE G X W (.Call (.Name "sum" p) [e] [] pos) (n.bind dSum) :=
  q_callB backD (cr_sum hc) (s_sum hK) hg hm (by decide +kernel) ha (he := he)
def dMin2 : List D → M D
  | [.int i, .int j] => M.pure (.int (if j < i then j else i))
  | _ => bad
def dMax2 : List D → M D
  | [.int i, .int j] => M.pure (.int (if j > i then j else i))
  | _ => bad
theorem s_two {r : List V → Hp → VK → Prop} {f : Int → Int → Int} {g : List D → M D} (hg : ∀ i j, g [.int i, .int j] = M.pure (.int (f i j))) (hb : ∀ l, (∀ i j, l ≠ [.int i, .int j]) → g l = bad)
    (hr : ∀ i j H Q, Q (.int (f i j)) H → r [.int i, .int j] H Q) : CallS rpD G W r g := fun xs ds σ H Q el ⟨Fz, env, rl, hh, q⟩ => by
  by_cases hd : ∃ i j, ds = [.int i, .int j]
  · obtain ⟨i, j, rfl⟩ := hd
    match xs, el with
    | [x, y], _ =>
      have r1 : Rep G Fz x (.int i) := hh (x, _) List.mem_cons_self
      have r2 : Rep G Fz y (.int j) := hh (y, _) (List.mem_cons_of_mem _ List.mem_cons_self)
      cases r1; cases r2
      rw [hg] at q
      exact hr i j H Q (q Fz _ H (Ext.refl _ _ _ _) rl (.int _))
  · rw [hb ds fun i j z => hd ⟨i, j, z⟩] at q
    exact q.elim
theorem two_bad {g : List D → M D} (h0 : g [] = bad) (h1 : ∀ a, g [a] = bad) (h3 : ∀ a b c l, g (a :: b :: c :: l) = bad) (h2 : ∀ a b, (∀ i j, [a, b] ≠ [D.int i, D.int j]) → g [a, b] = bad) : ∀ l, (∀ i j, l ≠ [.int i, .int j]) → g l = bad := fun l h => by
  match l with
  | [] => exact h0
  | [a] => exact h1 a
  | [a, b] => exact h2 a b h
  | a :: b :: c :: l => exact h3 a b c l
theorem s_min2 : CallS rpD G W (fun xs H Q => ∃ i j, xs = [.int i, .int j] ∧ Q (.int (if j < i then j else i)) H) dMin2 := s_two (f := fun i j => if j < i then j else i) (fun _ _ => rfl)
  (two_bad rfl (fun a => by cases a <;> rfl) (fun a b c l => by cases a <;> cases b <;> rfl) fun a b h => by cases a <;> cases b <;> first | rfl | exact absurd rfl (h _ _)) fun i j H Q q => ⟨i, j, rfl, q⟩
theorem s_max2 : CallS rpD G W (fun xs H Q => ∃ i j, xs = [.int i, .int j] ∧ Q (.int (if j > i then j else i)) H) dMax2 := s_two (f := fun i j => if j > i then j else i) (fun _ _ => rfl)
  (two_bad rfl (fun a => by cases a <;> rfl) (fun a b c l => by cases a <;> cases b <;> rfl) fun a b h => by cases a <;> cases b <;> first | rfl | exact absurd rfl (h _ _)) fun i j H Q q => ⟨i, j, rfl, q⟩
theorem qe_min2 (hc : X.calm = true) {n : M (List D)} (hg : Gl X "min") (hm : X.mg "min" = none) (ha : QA G X W [a, b] n) (he : starEach [a, b] X.env = (false, eval a X.env) :: starEach [b] X.env := by rfl) (hpl : (backTo pos (starEach [b] X.env)).any (·.1) = false := by rfl) : QE G X W (.Call (.Name "min" p) [a, b] [] pos) (n.bind dMin2) :=
  q_callB backD (call_min2 hc) s_min2 hg hm (by decide +kernel) ha (he := he) (hpl := hpl)
theorem qe_max2 (hc : X.calm = true) {n : M (List D)} (hg : Gl X "max") (hm : X.mg "max" = none) (ha : QA G X W [a, b] n) (he : starEach [a, b] X.env = (false, eval a X.env) :: starEach [b] X.env := by rfl) (hpl : (backTo pos (starEach [b] X.env)).any (·.1) = false := by rfl) : QE G X W (.Call (.Name "max" p) [a, b] [] pos) (n.bind dMax2) :=
  q_callB backD (call_max2 hc) s_max2 hg hm (by decide +kernel) ha (he := he) (hpl := hpl)

/-! ### isinstance -/
def tyName : D → String
  | .non => "NoneType"
  | .bl _ => "bool"
  | .int _ => "int"
  | .str _ => "str"
  | .lst _ => "list"
  | .tup _ => "tuple"
  | .stp _ => "tuple"
  | .scr _ => "list"
  | .exc _ _ => "ValueError"
  | _ => ""
inductive Ck where
  | ty (n : String) | ins (c : Nat) | ex (c : Nat)
def tyNames : List String := ["NoneType", "bool", "int", "str", "list", "tuple"]
def tyNames2 : List String := ["NoneType", "bool", "int", "str", "list", "tuple", "ValueError"]
def tyIs (a b : String) : Bool := a == b || (a == "bool" && b == "int")
/-- the class c of errors is d or beneath it: 0 is the base of all -/
def subE (c d : Nat) : Bool := c == d || d == 0
/-- what is asked of the written part about the classes of instances -/
structure InsOk (K : PySem.W.Frag) (C : Addr) : Prop where
  cl : Cls K C
  ha : PySem.W.findIn K (.ref C) "__class__" = some (some (.builtin "object.__class__"))
  hn : PySem.W.specialIn K (.builtin "object.__class__") "__get__" = some (some (.builtin "getset_descriptor.__get__"))
  htk : PySem.W.takesIn K (.builtin "object.__class__") = some true
  hm : PySem.W.mroIn K C (.type "object") = some true
  k1 : ∀ n ∈ tyNames2, PySem.W.kitOne K (.ref C) (.type n) = some false
  k2 : ∀ n ∈ tyNames, PySem.W.kitOne K (.type n) (.ref C) = some false
/-- what is asked of the written part about a class of errors -/
structure ErrOk (K : PySem.W.Frag) (C : Addr) : Prop where
  ec : ExcC K C
  ox : OexC K C
  e1 : ∀ n ∈ tyNames2, PySem.W.kitOne K (.ref C) (.type n) = some (tyIs "ValueError" n)
  e2 : ∀ n ∈ tyNames, PySem.W.kitOne K (.type n) (.ref C) = some false
structure KOk (G : Kx) : Prop where
  err : ∀ (c : Nat) (C : Addr) (ns : List Str), G.es[c]? = some (C, ns) → ErrOk G.K C
  ee : ∀ (c d : Nat) (C E : Addr) (ns ms : List Str), G.es[c]? = some (C, ns) → G.es[d]? = some (E, ms) → PySem.W.kitOne G.K (.ref C) (.ref E) = some (subE c d)
  ie : ∀ (c d : Nat) (C E : Addr) (ns ms : List Str), G.cs[c]? = some (C, ns) → G.es[d]? = some (E, ms) → PySem.W.kitOne G.K (.ref C) (.ref E) = some false
  ei : ∀ (c d : Nat) (C E : Addr) (ns ms : List Str), G.es[c]? = some (C, ns) → G.cs[d]? = some (E, ms) → PySem.W.kitOne G.K (.ref C) (.ref E) = some false
  xx : ∀ (c d : Nat) (C E : Addr) (ns ms : List Str), G.es[c]? = some (C, ns) → G.es[d]? = some (E, ms) → PySem.W.exmOne G.K (.ref C) (.ref E) = some (subE c d)
  ins : ∀ (c : Nat) (C : Addr) (ns : List Str), G.cs[c]? = some (C, ns) → InsOk G.K C
  two : ∀ (c d : Nat) (C E : Addr) (ns ms : List Str), G.cs[c]? = some (C, ns) → G.cs[d]? = some (E, ms) → PySem.W.kitOne G.K (.ref C) (.ref E) = some (decide (c = d))
def Ck.val (G : Kx) : Ck → Option Value
  | .ty n => if n ∈ tyNames2 then some (.type n) else none
  | .ins c => (G.cs[c]?).map fun p => .ref p.1
  | .ex c => (G.es[c]?).map fun p => .ref p.1
def Ck.vof (G : Kx) : Ck → Option V
  | .ty n => if n ∈ tyNames2 then some (.ty n) else none
  | .ins c => (G.cs[c]?).map fun p => .ref p.1
  | .ex c => (G.es[c]?).map fun p => .ref p.1
def dIsi : Ck → D → Bool
  | .ins c, d => (match d with
    | .ins e _ => e == c
    | _ => false)
  | .ex c, d => (match d with
    | .exc e _ => subE e c
    | _ => false)
  | .ty n, d => tyIs (tyName d) n
theorem kitB_tab : ∀ a ∈ tyNames, ∀ b ∈ tyNames2, kitB a b = some (tyIs a b) := by decide +kernel
theorem val_ty {n : String} {u : Value} (h : (Ck.ty n).val G = some u) : n ∈ tyNames2 ∧ u = .type n := by
  have h' : (if n ∈ tyNames2 then some (Value.type n) else none) = some u := h
  by_cases q : n ∈ tyNames2
  · rw [if_pos q] at h'; exact ⟨q, (Option.some.inj h').symm⟩
  · rw [if_neg q] at h'; cases h'
theorem val_ins {c : Nat} {u : Value} (h : (Ck.ins c).val G = some u) : ∃ C ns, G.cs[c]? = some (C, ns) ∧ u = .ref C := by
  have h' : (G.cs[c]?).map (fun p => Value.ref p.1) = some u := h
  obtain ⟨⟨C, ns⟩, e, q⟩ := Option.map_eq_some_iff.mp h'
  exact ⟨C, ns, e, q.symm⟩
theorem val_ex {c : Nat} {u : Value} (h : (Ck.ex c).val G = some u) : ∃ C ns, G.es[c]? = some (C, ns) ∧ u = .ref C := by
  have h' : (G.es[c]?).map (fun p => Value.ref p.1) = some u := h
  obtain ⟨⟨C, ns⟩, e, q⟩ := Option.map_eq_some_iff.mp h'
  exact ⟨C, ns, e, q.symm⟩
theorem tyIs_no : ∀ n ∈ tyNames2, tyIs "" n = false := by decide +kernel
/-- a value's type, wider than TyX: errors too -/
inductive TyW (K : PySem.W.Frag) (H : Hp) : V → Value → Prop where
  | b {x : V} {t : Value} (h : TyX K H x t) : TyW K H x t
  | e {a C dx : Addr} {oe : Obj} {fs : List (Str × V)} (h : H a = some (.frz oe exq)) (h1 : oe.cls = .ref C) (h2 : oe.dict = some dx) (h3 : ∃ fv, oe.data = .fields fv) (h4 : H dx = some (.xd fs)) (ok : ExcC K C) : TyW K H (.ref a) (.ref C)
theorem isi_ty (ok : KOk G) {Fz H : Hp} (s : Same Fz H) {v : V} {d : D} (r : Rep G Fz v d) : ∃ t, TyW G.K H v t ∧ ∀ (k : Ck) (u : Value), k.val G = some u → PySem.W.kitOne G.K t u = some (dIsi k d) := by
  have ty : ∀ n, n ∈ tyNames → TyX G.K H v (.type n) → tyName d = n → (∀ c, dIsi (.ins c) d = false) → (∀ c, dIsi (.ex c) d = false) → ∃ t, TyW G.K H v t ∧ ∀ (k : Ck) (u : Value), k.val G = some u → PySem.W.kitOne G.K t u = some (dIsi k d) := fun n hn t en hd he => by
    refine ⟨_, .b t, fun k u hk => ?_⟩
    cases k with
    | ty m =>
      obtain ⟨hm, rfl⟩ := val_ty hk
      have e : dIsi (.ty m) d = tyIs n m := by show tyIs (tyName d) m = _; rw [en]
      rw [e]
      exact kit_ty (kitB_tab n hn m hm)
    | ins c =>
      obtain ⟨C, ns, e, rfl⟩ := val_ins hk
      rw [hd c]
      exact (ok.ins c C ns e).k2 n hn
    | ex c =>
      obtain ⟨C, ns, e, rfl⟩ := val_ex hk
      rw [he c]
      exact (ok.err c C ns e).e2 n hn
  cases r with
  | non => exact ty "NoneType" (by decide) (.base .non) rfl (fun _ => rfl) (fun _ => rfl)
  | bl b => exact ty "bool" (by decide) (.base (.bl b)) rfl (fun _ => rfl) (fun _ => rfl)
  | int i => exact ty "int" (by decide) (.base (.int i)) rfl (fun _ => rfl) (fun _ => rfl)
  | str x => exact ty "str" (by decide) (.base (.str x)) rfl (fun _ => rfl) (fun _ => rfl)
  | lst h z r => exact ty "list" (by decide) (.base (.lst (s _ _ h))) rfl (fun _ => rfl) (fun _ => rfl)
  | tup h z r =>
    rcases h with (h | ⟨o, h⟩) | ⟨o, its, n, h1, h2, _⟩
    · exact ty "tuple" (by decide) (.base (.tup (s _ _ h))) rfl (fun _ => rfl) (fun _ => rfl)
    · exact ty "tuple" (by decide) (.fTuple (s _ _ h)) rfl (fun _ => rfl) (fun _ => rfl)
    · exact ty "tuple" (by decide) (.kTuple h1 h2) rfl (fun _ => rfl) (fun _ => rfl)
  | stp h _ _ z r => exact ty "tuple" (by decide) (.fTuple (s _ _ h)) rfl (fun _ => rfl) (fun _ => rfl)
  | scr h z =>
    rcases h with (h | ⟨o, h⟩) | ⟨o, its, n, h1, h2, _⟩
    · exact ty "list" (by decide) (.base (.lst (s _ _ h))) rfl (fun _ => rfl) (fun _ => rfl)
    · exact ty "list" (by decide) (.base (.frz (s _ _ h))) rfl (fun _ => rfl) (fun _ => rfl)
    · exact ty "list" (by decide) (.kList h1 h2) rfl (fun _ => rfl) (fun _ => rfl)
  | @ins a C dx c names vs ds h hc hn r =>
    have q := ok.ins c C names hc
    refine ⟨_, .b (.base (.ins (s _ _ h) q.cl q.ha q.hn q.htk q.hm)), fun k u hk => ?_⟩
    cases k with
    | ty m =>
      obtain ⟨hm, rfl⟩ := val_ty hk
      have e : dIsi (.ty m) (.ins c ds) = false := tyIs_no m hm
      rw [e]
      exact q.k1 m hm
    | ins c2 =>
      obtain ⟨C2, ns, e, rfl⟩ := val_ins hk
      have e2 : dIsi (.ins c2) (.ins c ds) = decide (c = c2) := by
        show (c == c2) = decide (c = c2)
        by_cases h : c = c2
        · subst h; simp
        · simp [h]
      rw [e2]
      exact ok.two c c2 C C2 names ns hc e
    | ex c2 =>
      obtain ⟨C2, ns, e, rfl⟩ := val_ex hk
      exact ok.ie c c2 C C2 names ns hc e
  | @exc a dx C oe c names vs ds h h1 h2 h3 h4 hc hn r =>
    have q := ok.err c C names hc
    refine ⟨_, .e (s _ _ h) h1 h2 h3 (s _ _ h4) q.ec, fun k u hk => ?_⟩
    cases k with
    | ty m =>
      obtain ⟨hm, rfl⟩ := val_ty hk
      exact q.e1 m hm
    | ins c2 =>
      obtain ⟨C2, ns, e, rfl⟩ := val_ins hk
      exact ok.ei c c2 C C2 names ns hc e
    | ex c2 =>
      obtain ⟨C2, ns, e, rfl⟩ := val_ex hk
      exact ok.ee c c2 C C2 names ns hc e
theorem cls_of {k : Ck} {u : Value} (hk : k.val G = some u) : ∃ w, k.vof G = some w ∧ ClsV w u := by
  cases k with
  | ty n =>
    obtain ⟨h, rfl⟩ := val_ty hk
    exact ⟨.ty n, by show (if n ∈ tyNames2 then some (V.ty n) else none) = _; rw [if_pos h], .ty n⟩
  | ins c =>
    obtain ⟨C, ns, e, rfl⟩ := val_ins hk
    exact ⟨.ref C, by show (G.cs[c]?).map _ = _; rw [e]; rfl, .own C⟩
  | ex c =>
    obtain ⟨C, ns, e, rfl⟩ := val_ex hk
    exact ⟨.ref C, by show (G.es[c]?).map _ = _; rw [e]; rfl, .own C⟩
/-- what an error of the class at D answers when its class is asked: D -/
theorem errClass {prog : Program} {w : World} {A : Around} {E : Value → Shared → Prop} {K : PySem.W.Frag} {x D : Addr} {oe dct : Obj} {Q : Option Value → Shared → Prop} (ec : ExcC K D) {h : Heap} {gs : Array GenState} {dr : Drawn} {n : Nat} {os : OsState}
    (kin : K.In h) (at_ : PySem.W.InstAt h x oe D (some dct)) (done : Q (some (.ref D)) ⟨h, gs, dr, n + 1, os⟩) : wpAny (model prog w) A (getAttr? (.ref x) "__class__") Q E ⟨h, gs, dr, n, os⟩ := by
  have own : (PySem.W.clsIn K D).isSome = true := let ⟨cd, e, _⟩ := PySem.W.any_some ec.hd; by rw [e]; rfl
  have look : PySem.W.Looks (model prog w) h _ _ := PySem.W.looks_find (name := "__class__") kin at_ (PySem.W.findObj_data own ec.ha ec.hn ec.ht)
  have typ : PySem.W.Looks (model prog w) h (typeOf (.ref x)) (.ref D) := at_.type
  have isB : PySem.W.Looks (model prog w) h (isInstance (.ref x) (.type "BaseException")) true := typ.andThen (PySem.W.looks_subIn kin ec.hs)
  have ga : PySem.W.Looks (model prog w) h _ _ := PySem.W.looks_findIn kin ec.hg
  have gt : PySem.W.Looks (model prog w) h _ _ := PySem.W.looks_findIn kin ec.hk
  have plain : (Value.builtin "BaseException.__getattribute__" == Value.builtin "object.__getattribute__") = false := by decide +kernel
  have heapB : (onTheHeap (Value.ref D) && Value.builtin "BaseException.__getattribute__" == Value.builtin "object.__getattribute__") = false := (congrArg (onTheHeap (Value.ref D) && ·) plain).trans rfl
  -- the class's own answer, by the descriptor
  have ask : wpAny (model prog w) A.in1 (holding [Value.builtin "object.__class__"] (call (.builtin "getset_descriptor.__get__") [.builtin "object.__class__", .ref x, .ref D])) (fun v s2 => v = .ref D ∧ s2 = ⟨h, gs, dr, n + 1, os⟩) (fun _ _ => False) ⟨h, gs, dr, n + 1, os⟩ :=
    wpAny_holding (wpAny_call (PySem.W.class_get (s := ⟨h, gs, dr, n + 1, os⟩) (ox := oe) (od := some dct) kin at_ ec.hm ⟨rfl, rfl⟩))
  unfold getAttr? getAttrBy? getAttrBy
  refine wpAny_bind (wpAny_mkText (wpAny_bind (wpAny_attempt (wpAny_holding (wpAny_bind (typ.at (wpAny_bind (ga.at ?_))))))))
  show wpAny _ _ (if (onTheHeap (Value.ref D) && Value.builtin "BaseException.__getattribute__" == Value.builtin "object.__getattribute__") = true then _ else _) _ _ _
  rw [heapB, if_neg (by decide)]
  unfold getAttrByItsOwn hookBefore
  refine wpAny_bind ?_
  rw [show onTheHeap (Value.ref D) = true from rfl, if_pos rfl]
  refine gt.at (wpAny_bind (wpAny_attempt (wpAny_holding ?_)))
  unfold callGetattribute boundAndCalled
  rw [PySem.F.excAttr_ValueError.ga.bind (.ref x)]
  rw [if_neg (show ¬ (false && onTheHeap (Value.builtin "BaseException.__getattribute__")) = true by decide)]
  refine wpAny_bind (wpAny_pure (wpAny_call (codeAny_call_builtin PySem.F.excAttr_ValueError.ga.plain PySem.F.entry_bexc_ga ?_)))
  refine @PySem.W.check_slot (model prog w) _ _ ⟨h, gs, dr, n + 1, os⟩ "BaseException.__getattribute__" "BaseException" "__getattribute__" (.ref x) [.str "__class__" n] [] _ (by decide +kernel) (by decide +kernel) isB (PySem.F.args_bexc_ga (.ref x) (.str "__class__" n)) ?_
  unfold Builtin.«object.__getattribute__»
  refine wpAny_bind (wpAny_of_eq (a := ((Value.ref x : Value), [Value.str "__class__" n])) (by first | rfl | (simp only [slotArgs]; rfl)) (wpAny_bind (wpAny_pure (wpAny_bind (typ.at (wpAny_bind (look.at (wpAny_bind ?_))))))))
  refine wpAny_mono ask (fun v s2 q => ?_) fun _ _ z => False.elim z
  obtain ⟨rfl, rfl⟩ := q
  refine wpAny_pure ?_
  show wpAny _ _ (handedOut (.ref D)) _ _ _
  rw [PySem.W.handedOut_of (v := .ref D) rfl]
  first
    | exact wpAny_pure (wpAny_pure done)
    | exact wpAny_pure done
    | exact wpAny_pure (wpAny_bind (wpAny_pure (wpAny_pure done)))
/-- the class object at D, as the written part has it -/
theorem errObj {K : PySem.W.Frag} {D : Addr} (ec : ExcC K D) : ∃ cl dd cd sl, K.lookup D = some ⟨cl, dd, .cls cd, sl⟩ := by
  obtain ⟨cd, e, _⟩ := PySem.W.any_some ec.hd
  unfold PySem.W.clsIn at e
  split at e
  · rename_i lk
    exact ⟨_, _, _, _, lk⟩
  · cases e
theorem kitx_exc {K : PySem.W.Frag} {x D : Addr} {oe dct : Obj} (ec : ExcC K D) : PySem.W.KitX K (.ref x) (.ref D) (fun h => PySem.W.InstAt h x oe D (some dct)) where
  ty := fun _ _ _ at_ => at_.type
  it := fun _ _ kin _ => fun A Q E s k q => by
    obtain ⟨cl, dd, cd, sl, lk⟩ := errObj ec
    unfold isType loadHead
    exact wpAny_bind (wpAny_loadPart (k _ _ (kin _ _ lk)) (wpAny_pure q))
  ne := fun h tp dd its n sl kin e => by
    obtain ⟨cl, dd', cd, sl', lk⟩ := errObj ec
    refine beq_eq_false_iff_ne.mpr fun z => ?_
    cases z
    have two := (kin _ _ lk).symm.trans e
    cases two
  ca := fun kin at_ q => errClass ec kin at_ q
theorem kit_ofW {X : Cx} {pins : List (Addr × Obj)} {σ : St} {H : Hp} {s : Shared} {x : V} {u t : Value} (I : Inv X pins σ H s) (rx : RelV x u) (ty : TyW X.K H x t) : ∃ P : Heap → Prop, PySem.W.KitX X.K u t P ∧ P s.heap ∧ u ≠ .builtin "__main__.__loader__#opaque" := by
  cases ty with
  | b h => exact kit_of I rx h
  | @e a C dx oe fs h h1 h2 h3 h4 ok =>
    obtain rfl : u = Value.ref a := rx
    obtain ⟨hget, _⟩ := (show ObjOk X.prog X.w H s.heap a (.frz oe exq) from I.hok a _ h)
    obtain ⟨mA, hns, _⟩ := (show ObjOk X.prog X.w H s.heap dx (.xd fs) from I.hok dx _ h4)
    obtain ⟨od, ho, _⟩ := lookIn_ns hns
    obtain ⟨fv, hd⟩ := h3
    have J : PySem.W.InstAt s.heap a oe C (some od) := ⟨hget, h1, by unfold PySem.W.notCls; rw [hd] <;> rfl, by rw [h2]; exact ho⟩
    exact ⟨_, kitx_exc ok, J, fun z => nomatch z⟩
def rIsiW (K : PySem.W.Frag) : List V → Hp → VK → Prop := fun xs H Q => ∃ (x c : V) (t u : Value) (b : Bool), xs = [x, c] ∧ ClsV c u ∧ TyW K H x t ∧ PySem.W.kitOne K t u = some b ∧ Q (.bl b) H
def rIsiTW (K : PySem.W.Frag) : List V → Hp → VK → Prop := fun xs H Q => ∃ (x : V) (tp : Addr) (cs : List V) (t : Value) (us : List Value) (b : Bool), xs = [x, .ref tp] ∧ H tp = some (.tup cs) ∧ Paired ClsV cs us ∧ TyW K H x t ∧ PySem.W.kitAny K t us = some b ∧ Q (.bl b) H
theorem call_isiW {X : Cx} : CallR X (.builtin "isinstance") (rIsiW X.K) := by
  intro pins s σ H xs us Q I r h
  obtain ⟨x, c, t, u, b, rfl, k, ty, e, q⟩ := h
  obtain ⟨u1, u2, rfl, r1, r2⟩ := vals2 r
  have e2 := k.eq r2
  subst e2
  obtain ⟨P, Z, p, hx⟩ := kit_ofW I r1 ty
  exact PySem.W.kia_one Z I.kIn p e hx fun tk => ⟨.bl b, H, I.tok tk, rfl, q⟩
theorem call_isiTW {X : Cx} : CallR X (.builtin "isinstance") (rIsiTW X.K) := by
  intro pins s σ H xs us Q I r h
  obtain ⟨x, tp, cs, t, ws, b, rfl, hT, k, ty, e, q⟩ := h
  obtain ⟨u1, u2, rfl, r1, r2⟩ := vals2 r
  cases (show u2 = Value.ref tp from r2)
  obtain ⟨P, Z, p, hx⟩ := kit_ofW I r1 ty
  obtain ⟨_, its, rv, o, h1, h2, n, h3⟩ := (show ObjOk X.prog X.w H s.heap tp (.tup cs) from I.hok tp _ hT)
  have e3 := ClsV.all k rv
  subst e3
  obtain ⟨oc, od, dt, sl⟩ := o
  simp only at h2 h3
  subst h2 h3
  exact PySem.W.kia_tup Z I.kIn p h1 e hx fun tk => ⟨.bl b, H, I.tok tk, rfl, q⟩
def mIsi (k : Ck) (m : M D) : M D := m.bind fun d => M.pure (.bl (dIsi k d))
/-- isinstance(e, C) -/
theorem qe_isi (ok : KOk G) (hK : X.K = G.K) {k : Ck} {u : Value} {w : V} (hk : k.val G = some u) (hw : k.vof G = some w) (hg : Gl X "isinstance") (hm : X.mg "isinstance" = none) (ha : QE G X W a ma) (hc : PE X c (tC w))
    (h1 : starEach [a, c] X.env = (false, eval a X.env) :: starEach [c] X.env := by rfl) (h2 : starEach [c] X.env = (false, eval c X.env) :: starEach [] X.env := by rfl) (hpl : (backTo pos (starEach [c] X.env)).any (·.1) = false := by rfl) :
    QE G X W (.Call (.Name "isinstance" p) [a, c] [] pos) (mIsi k ma) :=
  PE_imp (pe_callB call_isiW hg hm (by decide +kernel) (pa_cons ha (pa_cons hc pa_nil h2) h1) (he := h1) (hpl := hpl)) fun σ H Q q => (tOf.bind_ backD q).mono fun x H1 ⟨d, Fz, env, rl, hh, q⟩ => by
    have rx : Rep G Fz x d := hh _ (List.mem_cons_self)
    rw [hK]
    obtain ⟨t, t1, t2⟩ := isi_ty ok rl.sub rx
    have t2 := t2 k u hk
    obtain ⟨w', e1, e2⟩ := cls_of hk
    rw [hw] at e1; cases e1
    exact ⟨x, w, t, u, _, rfl, e2, t1, t2, q Fz _ H1 (Ext.refl _ _ _ _) rl (.bl _)⟩
theorem kitAny_of (ok : KOk G) {Fz H : Hp} (s : Same Fz H) {v : V} {d : D} (r : Rep G Fz v d) {t : Value} (t1 : ∀ (k : Ck) (u : Value), k.val G = some u → PySem.W.kitOne G.K t u = some (dIsi k d)) : ∀ {ks : List Ck} {us : List Value}, Paired (fun (k : Ck) u => k.val G = some u) ks us → PySem.W.kitAny G.K t us = some (ks.any fun k => dIsi k d)
  | _, _, .nil => rfl
  | _, _, .cons (a := k) (b := u) h rest => by
    have e := t1 k u h
    refine kitAny_cons e (fun z => ?_) fun z => ?_
    · rw [kitAny_of ok s r t1 rest, List.any_cons, z, Bool.false_or]
    · rw [List.any_cons, z, Bool.true_or]
def mIsis (ks : List Ck) (m : M D) : M D := m.bind fun d => M.pure (.bl (ks.any fun k => dIsi k d))
/-- isinstance(e, (C, D)) -/
theorem qe_isis (ok : KOk G) (hK : X.K = G.K) {ks : List Ck} {us : List Value} {ws : List V} (hk : Paired (fun (k : Ck) u => k.val G = some u) ks us) (hw : Paired ClsV ws us) (hg : Gl X "isinstance") (hm : X.mg "isinstance" = none) (ha : QE G X W a ma) {t : TA} {k : Nat} {tpos : Pos} (hc : PA X es t) (ht : ∀ σ H Q, Q ws H → t σ H Q) (hz : ws.length ≤ 100)
    (h1 : starEach [a, .Tuple es k tpos] X.env = (false, eval a X.env) :: starEach [.Tuple es k tpos] X.env := by rfl) (h2 : starEach [.Tuple es k tpos] X.env = (false, eval (.Tuple es k tpos) X.env) :: starEach [] X.env := by rfl) (hpl : (backTo pos (starEach [.Tuple es k tpos] X.env)).any (·.1) = false := by rfl) :
    QE G X W (.Call (.Name "isinstance" p) [a, .Tuple es k tpos] [] pos) (mIsis ks ma) :=
  PE_imp (pe_callB call_isiTW hg hm (by decide +kernel) (pa_cons ha (pa_cons (pe_tup hc) pa_nil h2) h1) (he := h1) (hpl := hpl)) fun σ H Q q => (tOf.bind_ backD q).mono fun x H1 ⟨d, Fz, env, rl, hh, q⟩ => by
    have rx : Rep G Fz x d := hh _ (List.mem_cons_self)
    refine ht σ H1 _ ⟨Nat.le_trans hz (by rw [sizeLine_eq]; decide), fun tp htp => ?_⟩
    rw [hK]
    obtain ⟨r', x'⟩ := rl.alloc (o := .tup ws) htp
    obtain ⟨t, t1, t2⟩ := isi_ty ok r'.sub (rx.mono x'.sub)
    exact ⟨x, tp, ws, t, us, _, rfl, upd_same, hw, t1, kitAny_of ok r'.sub (rx.mono x'.sub) t2 hk, q _ _ _ x' r' (.bl _)⟩
end
end Eng

end
section
set_option Elab.async false
set_option linter.all false
set_option autoImplicit false
set_option maxRecDepth 100000
set_option maxHeartbeats 2000000
namespace Eng
open PySem PySem.Spec L2
open PyProof.Rows hiding St

/-! ### statements -/
inductive Fl where
  | nx | bk | ct | rt (s : Slot)
def OwnO (σ : St) (env : En) (p : Addr) : Prop := ∃ (i : Nat) (l : Ob), env[i]? = some (.own l) ∧ σ[i]? = some (some (.ref p))
def retR (G : Kx) (Fz H0 : Hp) (σ0 : St) (env0 : En) (H : Hp) (σ : St) (env : En) (v : V) : Slot → Prop
  | .fro d => Rep G Fz v d
  | .own l => ∃ a, v = .ref a ∧ OwnAt G Fz H l a ∧ ¬ Own σ env a ∧ (H0 a = none ∨ OwnO σ0 env0 a)
  | _ => False
def PostS (G : Kx) (W : WX) (Fz : Hp) (σ : St) (env : En) (H : Hp) (E : Ends) : R Fl → Prop
  | .ok .nx env' => ∀ Fz' σ' H', Ext Fz σ env H Fz' σ' env' H' → RelS G Fz' σ' H' env' → E.nx σ' H'
  | .ok .bk env' => ∀ Fz' σ' H', Ext Fz σ env H Fz' σ' env' H' → RelS G Fz' σ' H' env' → E.bk σ' H'
  | .ok .ct env' => ∀ Fz' σ' H', Ext Fz σ env H Fz' σ' env' H' → RelS G Fz' σ' H' env' → E.ct σ' H'
  | .ok (.rt s) env' => ∀ Fz' v σ' H', Ext Fz σ env H Fz' σ' env' H' → RelS G Fz' σ' H' env' → retR G Fz' H σ env H' σ' env' v s → E.rt v H'
  | .err c fs env' => ∀ Fz' σ' H' cls x, Ext Fz σ env H Fz' σ' env' H' → RelS G Fz' σ' H' env' → ErrIs G Fz' H' cls x c fs → W cls x σ' H'
  | .bad => False
def tS (G : Kx) (W : WX) (m : M Fl) : TS := fun E σ H => ∃ Fz env, RelS G Fz σ H env ∧ PostS G W Fz σ env H E (m env)
abbrev QS (G : Kx) (X : Cx) (W : WX) (st : Stmt) (m : M Fl) : Prop := PS X st (tS G W m)
abbrev QSs (G : Kx) (X : Cx) (W : WX) (st : List Stmt) (m : M Fl) : Prop := PSs X st (tS G W m)
section
variable {G : Kx} {X : Cx} {W : WX} {e a b c : Expr} {es : List Expr} {pos p : Pos} {ma mb mc : M D} {x : Str} {σ σ1 : St} {H H1 Fz Fz1 : Hp} {env env1 : En} {E E' : Ends}
theorem own_back {p : Addr} (k : Ext Fz σ env H Fz1 σ1 env1 H1) (r : RelS G Fz1 σ1 H1 env1) (h : H1 p = none ∨ OwnO σ1 env1 p) : H p = none ∨ OwnO σ env p := by
  rcases h with h | ⟨j, l, ej, sj⟩
  · exact .inl (k.live p h)
  · cases e : H p with
    | none => exact .inl rfl
    | some o =>
      right
      by_cases w : Own σ env p
      · obtain ⟨i, s, ei, m, si⟩ := w
        cases s with
        | own l' => exact ⟨i, l', ei, si⟩
        | io l' =>
          obtain ⟨⟨l2, q1⟩, q2⟩ := k.ios i l' ei
          have ij := r.sep i j _ _ p q1 ej rfl rfl (q2.trans si) sj
          subst ij; rw [q1] at ej; cases ej
        | emp => cases m
        | fro d => cases m
      · exact absurd ⟨j, _, ej, rfl, sj⟩ (k.keep p o e w).2.1
theorem retR.back {Fz2 H2 : Hp} {σ2 : St} {env2 : En} {v : V} {s : Slot} (k : Ext Fz σ env H Fz1 σ1 env1 H1) (r : RelS G Fz1 σ1 H1 env1) (h : retR G Fz2 H1 σ1 env1 H2 σ2 env2 v s) : retR G Fz2 H σ env H2 σ2 env2 v s := by
  cases s with
  | own l => obtain ⟨a, e, o, n, w⟩ := h; exact ⟨a, e, o, n, own_back k r w⟩
  | fro d => exact h
  | emp => exact h
  | io l => exact h
theorem PostS.then_ {r : R Fl} (k : Ext Fz σ env H Fz1 σ1 env1 H1) (rl : RelS G Fz1 σ1 H1 env1) (h : PostS G W Fz σ env H E r) : PostS G W Fz1 σ1 env1 H1 E r := by
  cases r with
  | ok f e =>
    cases f with
    | nx => exact fun Fz' σ' H' x' r' => h Fz' σ' H' (k.trans x') r'
    | bk => exact fun Fz' σ' H' x' r' => h Fz' σ' H' (k.trans x') r'
    | ct => exact fun Fz' σ' H' x' r' => h Fz' σ' H' (k.trans x') r'
    | rt s => exact fun Fz' v σ' H' x' r' q => h Fz' v σ' H' (k.trans x') r' (q.back k rl)
  | err c fs e => exact fun Fz' σ' H' cls y x' r' q => h Fz' σ' H' cls y (k.trans x') r' q
  | bad => exact h
theorem PostS.mono {r : R Fl} (h : PostS G W Fz σ env H E r) (h1 : ∀ s H, E.nx s H → E'.nx s H) (h2 : ∀ s H, E.bk s H → E'.bk s H) (h3 : ∀ s H, E.ct s H → E'.ct s H) (h4 : ∀ s H, E.rt s H → E'.rt s H) : PostS G W Fz σ env H E' r := by
  cases r with
  | ok f e =>
    cases f with
    | nx => exact fun Fz' σ' H' x' r' => h1 _ _ (h Fz' σ' H' x' r')
    | bk => exact fun Fz' σ' H' x' r' => h2 _ _ (h Fz' σ' H' x' r')
    | ct => exact fun Fz' σ' H' x' r' => h3 _ _ (h Fz' σ' H' x' r')
    | rt s => exact fun Fz' v σ' H' x' r' q => h4 _ _ (h Fz' v σ' H' x' r' q)
  | err c fs e => exact h
  | bad => exact h

/-! ### one behind another -/
def mSeq (m n : M Fl) : M Fl := fun env => match m env with
  | .ok .nx e => n e
  | r => r
def mNext : M Fl := M.pure .nx
theorem post_seq {m n : M Fl} (h : PostS G W Fz σ env H E (mSeq m n env)) : PostS G W Fz σ env H { E with nx := tS G W n E } (m env) := by
  unfold mSeq at h
  cases e : m env with
  | ok f e1 =>
    rw [e] at h
    cases f with
    | nx => exact fun Fz' σ' H' x' r' => ⟨Fz', e1, r', h.then_ x' r'⟩
    | _ => exact h
  | err c fs e1 => rw [e] at h; exact h
  | bad => rw [e] at h; exact h
theorem qss_nil : QSs G X W [] mNext := PSs_imp pss_nil fun E σ H ⟨Fz, env, r, p⟩ => p Fz σ H (Ext.refl _ _ _ _) r
theorem qss_cons {st : Stmt} {sts : List Stmt} {m n : M Fl} (h : QS G X W st m) (h2 : QSs G X W sts n) : QSs G X W (st :: sts) (mSeq m n) :=
  PSs_imp (pss_cons h h2) fun E σ H ⟨Fz, env, r, p⟩ => ⟨Fz, env, r, post_seq p⟩
theorem qss_one {st : Stmt} {m : M Fl} (h : QS G X W st m) : QSs G X W [st] m := pss_one h
theorem qs_pass : QS G X W (.Pass pos) mNext := PS_imp ps_pass fun E σ H ⟨Fz, env, r, p⟩ => p Fz σ H (Ext.refl _ _ _ _) r
theorem qs_break : QS G X W (.Break pos) (M.pure .bk) := PS_imp ps_break fun E σ H ⟨Fz, env, r, p⟩ => p Fz σ H (Ext.refl _ _ _ _) r
theorem qs_cont : QS G X W (.Continue pos) (M.pure .ct) := PS_imp ps_continue fun E σ H ⟨Fz, env, r, p⟩ => p Fz σ H (Ext.refl _ _ _ _) r
/-- a value, then what follows -/
theorem post_drop {m : M D} (h : PostS G W Fz σ env H E ((m.bind fun _ => mNext) env)) : Post rpD G W Fz σ env H (fun _ H' => E.nx σ H') (m env) := by
  unfold M.bind at h
  cases e : m env with
  | ok d e1 => rw [e] at h; exact fun Fz' v H' x r _ => h Fz' σ H' x r
  | err c fs e1 => rw [e] at h; exact fun Fz' H' cls y x r q => h Fz' σ H' cls y x r q
  | bad => rw [e] at h; exact h
theorem qs_expr (h : QE G X W e ma) (hs : swapsWith e none pos.line X.env = pure false := by rfl) : QS G X W (.Expr e pos) (ma.bind fun _ => mNext) :=
  PS_imp (ps_expr h hs) fun E σ H ⟨Fz, env, r, p⟩ => ⟨Fz, env, r, (fun _ z => nomatch z), post_drop p⟩
def mRet (m : M Slot) : M Fl := m.bind fun s => M.pure (.rt s)
theorem qs_ret {m : M Slot} (h : QO G X W e m) : QS G X W (.Return (some e) pos) (mRet m) :=
  PS_imp (ps_ret h) fun E σ H ⟨Fz, env, r, p⟩ => ⟨Fz, env, r, (fun _ z => nomatch z), by
    unfold mRet M.bind at p
    cases e : m env with
    | ok s e1 =>
      rw [e] at p
      intro Fz' v H' x r' q
      refine p Fz' v σ H' x r' ?_
      cases s with
      | own l => obtain ⟨a, e, o, n, w⟩ := q; exact ⟨a, e, o, w, .inl n⟩
      | fro d => exact q
      | emp => exact q
      | io l => exact q
    | err c fs e1 => rw [e] at p; exact fun Fz' H' cls y x r q => p Fz' σ H' cls y x r q
    | bad => rw [e] at p; exact p⟩
/-- return x, x a list of ours -/
def mRetVar (i : Nat) : M Fl := fun env => match env[i]? with
  | some (.fro d) => .ok (.rt (.fro d)) env
  | some (.own l) => .ok (.rt (.own l)) (env.set i .emp)
  | _ => .bad
theorem RelS.setEmp {i : Nat} {s : Slot} (r : RelS G Fz σ H env) (h : env[i]? = some s) (hs : ∀ l, s ≠ .io l) : RelS G Fz σ H (env.set i .emp) ∧ Ext Fz σ env H Fz σ (env.set i .emp) H := by
  refine ⟨⟨r.sub, by rw [List.length_set]; exact r.len, fun j sj ej => ?_, fun j k sj sk b ej ek mj mk => ?_, r.hot⟩, ⟨fun _ _ e => e, fun p o e w => ⟨e, fun ⟨j, sj, ej, m, q⟩ => ?_, fun z => z⟩, fun j l ej => ?_, fun _ e => e⟩⟩
  · rcases set_get ej with ⟨rfl, rfl⟩ | ⟨nj, ej⟩
    · obtain ⟨o, h1, _⟩ := r.at_ j s h
      exact ⟨o, h1, trivial⟩
    · exact r.at_ j sj ej
  · rcases set_get ej with ⟨rfl, rfl⟩ | ⟨nj, ej⟩
    · cases mj
    · rcases set_get ek with ⟨rfl, rfl⟩ | ⟨nk, ek⟩
      · cases mk
      · exact r.sep j k sj sk b ej ek mj mk
  · rcases set_get ej with ⟨rfl, rfl⟩ | ⟨nj, ej⟩
    · cases m
    · exact w ⟨j, sj, ej, m, q⟩
  · have nj : j ≠ i := fun z => by subst z; rw [h] at ej; cases ej; exact hs l rfl
    exact ⟨⟨l, by rw [List.getElem?_set_ne (Ne.symm nj)]; exact ej⟩, rfl⟩
theorem qs_retVar (i : Nat) (h : PE X e (tVar i)) : QS G X W (.Return (some e) pos) (mRetVar i) :=
  PS_imp (ps_ret h) fun E σ H ⟨Fz, env, r, p⟩ => by
    unfold mRetVar at p
    cases e : env[i]? with
    | none => rw [e] at p; exact p.elim
    | some s =>
      rw [e] at p
      cases s with
      | fro d =>
        obtain ⟨v, e1, q⟩ := r.getfro e
        exact ⟨v, e1, p Fz v σ H (Ext.refl _ _ _ _) r q⟩
      | own l =>
        obtain ⟨a, e1, o⟩ := r.getmine e (.inl rfl)
        obtain ⟨r', x'⟩ := r.setEmp e (fun _ z => nomatch z)
        refine ⟨_, e1, p Fz _ σ H x' r' ⟨a, rfl, o, ?_, .inr ⟨i, l, e, e1⟩⟩⟩
        rintro ⟨j, sj, ej, m, q⟩
        rcases set_get ej with ⟨rfl, rfl⟩ | ⟨nj, ej⟩
        · cases m
        · exact nj (r.sep j i sj _ a ej e m rfl q e1)
      | emp => exact p.elim
      | io l => exact p.elim
theorem qs_retN : QS G X W (.Return none pos) (M.pure (.rt (.fro .non))) := PS_imp ps_retN fun E σ H ⟨Fz, env, r, p⟩ => p Fz .non σ H (Ext.refl _ _ _ _) r .non
def mIf (c : M Bool) (m n : M Fl) : M Fl := fun env => match c env with
  | .ok b e => if b then m e else n e
  | .err c fs e => .err c fs e
  | .bad => .bad
theorem qs_if {k : M Bool} {m n : M Fl} {s1 s2 : List Stmt} (hc : QT G X W c k) (h1 : QSs G X W s1 m) (h2 : QSs G X W s2 n) : QS G X W (.If c s1 s2 pos) (mIf k m n) :=
  PS_imp (ps_if hc h1 h2) fun E σ H ⟨Fz, env, r, p⟩ => ⟨Fz, env, r, (fun _ z => nomatch z), by
    unfold mIf at p
    cases e : k env with
    | ok b e1 =>
      rw [e] at p
      intro Fz' v H' x r' q
      have q' : v = b := q
      subst q'
      cases v with
      | true => exact iteT ⟨Fz', e1, r', p.then_ x r'⟩
      | false => exact iteF ⟨Fz', e1, r', p.then_ x r'⟩
    | err c fs e1 => rw [e] at p; exact fun Fz' H' cls y x r q => p Fz' σ H' cls y x r q
    | bad => rw [e] at p; exact p⟩

/-! ### names are stored -/
def noIo : Slot → Bool
  | .io _ => false
  | _ => true
theorem RelS.setFro {i : Nat} {s : Slot} {v : V} {d : D} (r : RelS G Fz σ H env) (h : env[i]? = some s) (hs : noIo s = true) (rv : Rep G Fz v d) : RelS G Fz (σ.set i (some v)) H (env.set i (.fro d)) ∧ Ext Fz σ env H Fz (σ.set i (some v)) (env.set i (.fro d)) H := by
  have hi : i < σ.length := by rw [r.len]; exact getElem?_lt h
  refine ⟨⟨r.sub, by rw [List.length_set, List.length_set]; exact r.len, fun j sj ej => ?_, fun j k sj sk b ej ek mj mk qj qk => ?_, r.hot⟩, ⟨fun _ _ e => e, fun p o e w => ⟨e, fun ⟨j, sj, ej, m, q⟩ => ?_, fun z => z⟩, fun j l ej => ?_, fun _ e => e⟩⟩
  · rcases set_get ej with ⟨rfl, rfl⟩ | ⟨nj, ej⟩
    · exact ⟨some v, List.getElem?_set_self hi, v, rfl, rv⟩
    · obtain ⟨o, h1, h2⟩ := r.at_ j sj ej
      exact ⟨o, by rw [List.getElem?_set_ne (Ne.symm nj)]; exact h1, h2⟩
  · rcases set_get ej with ⟨rfl, rfl⟩ | ⟨nj, ej⟩
    · cases mj
    · rcases set_get ek with ⟨rfl, rfl⟩ | ⟨nk, ek⟩
      · cases mk
      · rw [List.getElem?_set_ne (Ne.symm nj)] at qj
        rw [List.getElem?_set_ne (Ne.symm nk)] at qk
        exact r.sep j k sj sk b ej ek mj mk qj qk
  · rcases set_get ej with ⟨rfl, rfl⟩ | ⟨nj, ej⟩
    · cases m
    · rw [List.getElem?_set_ne (Ne.symm nj)] at q
      exact w ⟨j, sj, ej, m, q⟩
  · have nj : j ≠ i := fun z => by subst z; rw [h] at ej; cases ej; cases hs
    exact ⟨⟨l, by rw [List.getElem?_set_ne (Ne.symm nj)]; exact ej⟩, List.getElem?_set_ne (Ne.symm nj)⟩
theorem RelS.setOwn {i : Nat} {s : Slot} {a : Addr} {l : Ob} {Fz0 H0 : Hp} {env0 : En} (k : Ext Fz0 σ1 env0 H0 Fz σ env H) (r : RelS G Fz σ H env) (h : env[i]? = some s) (hs : noIo s = true) (o : OwnAt G Fz H l a) (w : ¬ Own σ env a) (h0 : H0 a = none) :
    RelS G Fz (σ.set i (some (.ref a))) H (env.set i (.own l)) ∧ Ext Fz0 σ1 env0 H0 Fz (σ.set i (some (.ref a))) (env.set i (.own l)) H := by
  have hi : i < σ.length := by rw [r.len]; exact getElem?_lt h
  refine ⟨⟨r.sub, by rw [List.length_set, List.length_set]; exact r.len, fun j sj ej => ?_, fun j k sj sk b ej ek mj mk qj qk => ?_, r.hot⟩, ⟨k.sub, fun p u e w0 => ?_, fun j l ej => ?_, k.live⟩⟩
  · rcases set_get ej with ⟨rfl, rfl⟩ | ⟨nj, ej⟩
    · exact ⟨some (.ref a), List.getElem?_set_self hi, a, rfl, o⟩
    · obtain ⟨o, h1, h2⟩ := r.at_ j sj ej
      exact ⟨o, by rw [List.getElem?_set_ne (Ne.symm nj)]; exact h1, h2⟩
  · rcases set_get ej with ⟨e1, e2⟩ | ⟨nj, ej'⟩
    · rcases set_get ek with ⟨e3, e4⟩ | ⟨nk, ek'⟩
      · exact e1.trans e3.symm
      · rw [e1, List.getElem?_set_self hi] at qj; cases qj
        rw [List.getElem?_set_ne (Ne.symm nk)] at qk
        exact absurd ⟨k, sk, ek', mk, qk⟩ w
    · rcases set_get ek with ⟨e3, e4⟩ | ⟨nk, ek'⟩
      · rw [e3, List.getElem?_set_self hi] at qk; cases qk
        rw [List.getElem?_set_ne (Ne.symm nj)] at qj
        exact absurd ⟨j, sj, ej', mj, qj⟩ w
      · rw [List.getElem?_set_ne (Ne.symm nj)] at qj
        rw [List.getElem?_set_ne (Ne.symm nk)] at qk
        exact r.sep j k sj sk b ej' ek' mj mk qj qk
  · obtain ⟨k1, k2, k3⟩ := k.keep p u e w0
    refine ⟨k1, fun ⟨j, sj, ej, m, q⟩ => ?_, k3⟩
    rcases set_get ej with ⟨rfl, rfl⟩ | ⟨nj, ej⟩
    · rw [List.getElem?_set_self hi] at q; cases q
      rw [h0] at e; cases e
    · rw [List.getElem?_set_ne (Ne.symm nj)] at q
      exact k2 ⟨j, sj, ej, m, q⟩
  · obtain ⟨⟨l1, q1⟩, q2⟩ := k.ios j l ej
    have nj : j ≠ i := fun z => by subst z; rw [h] at q1; cases q1; cases hs
    exact ⟨⟨l1, by rw [List.getElem?_set_ne (Ne.symm nj)]; exact q1⟩, by rw [List.getElem?_set_ne (Ne.symm nj)]; exact q2⟩
def setSlot (i : Nat) (s : Slot) : M Fl := fun env => match env[i]? with
  | some s0 => if noIo s0 then (match s with
    | .fro d => .ok .nx (env.set i (.fro d))
    | .own l => .ok .nx (env.set i (.own l))
    | _ => .bad) else .bad
  | none => .bad
def mSet (i : Nat) (m : M Slot) : M Fl := m.bind (setSlot i)
theorem post_set {i : Nat} {m : M Slot} (h : PostS G W Fz σ env H E (mSet i m env)) : Post rpS G W Fz σ env H (fun v H' => E.nx (σ.set i (some v)) H') (m env) := by
  unfold mSet M.bind at h
  cases e : m env with
  | ok s e1 =>
    rw [e] at h
    intro Fz' v H' x r q
    simp only [setSlot] at h
    cases e2 : e1[i]? with
    | none => rw [e2] at h; exact h.elim
    | some s0 =>
      rw [e2] at h
      cases hs : noIo s0 with
      | false => simp only [hs] at h; exact h.elim
      | true =>
        simp only [hs, if_true] at h
        cases s with
        | fro d =>
          obtain ⟨r', x'⟩ := r.setFro e2 hs (show Rep G Fz' v d from q)
          exact h Fz' _ H' (x.trans x') r'
        | own l =>
          obtain ⟨a, rfl, o, h0, w⟩ := q
          obtain ⟨r', x'⟩ := RelS.setOwn x r e2 hs o w h0
          exact h Fz' _ H' x' r'
        | emp => exact h.elim
        | io l => exact h.elim
  | err c fs e1 => rw [e] at h; exact fun Fz' H' cls y x r q => h Fz' σ H' cls y x r q
  | bad => rw [e] at h; exact h
theorem qs_set (i : Nat) {m : M Slot} {pos' : Pos} (hN : X.N.Nodup) (hi : X.N[i]? = some x) (hx : Loc X.env.scope x) (he : QO G X W e m) (hs : swapsWith e (some (.Name x pos')) pos.line X.env = pure false := by rfl) (hf : X.fn x = true ∨ X.env.scope.names.lookup x = some .local := by first | exact .inl rfl | exact .inr rfl | assumption) :
    QS G X W (.Assign [.Name x pos'] e pos) (mSet i m) :=
  PS_imp (ps_set hN hi hx he hs hf) fun E σ H ⟨Fz, env, r, p⟩ => ⟨Fz, env, r, (fun _ z => nomatch z), post_set p⟩

/-! ### targets: a name, or names in a tuple -/
inductive Tg where
  | nm (i : Nat) | tp (is : List Nat)
def setFros : List Nat → List D → En → Option En
  | [], [], env => some env
  | i :: is, d :: ds, env => match env[i]? with
    | some s => if noIo s then setFros is ds (env.set i (.fro d)) else none
    | none => none
  | _, _, _ => none
def Tg.set : Tg → D → En → Option En
  | .nm i, d, env => setFros [i] [d] env
  | .tp is, .tup ds, env => setFros is ds env
  | _, _, _ => none
def gNames : List Nat → TGs
  | [] => gNil
  | i :: is => gCons (gName i) (gNames is)
def Tg.g (K : PySem.W.Frag) : Tg → TG
  | .nm i => gName i
  | .tp is => gTup K is.length (gNames is)
def setVs : List Nat → List V → St → St
  | i :: is, v :: vs, σ => setVs is vs (σ.set i (some v))
  | _, _, σ => σ
theorem setFros_ok : ∀ {is : List Nat} {ds : List D} {vs : List V} {σ : St} {env env' : En}, RelS G Fz σ H env → Reps G Fz vs ds → setFros is ds env = some env' → RelS G Fz (setVs is vs σ) H env' ∧ Ext Fz σ env H Fz (setVs is vs σ) env' H
  | [], [], _, σ, env, env', r, .nil, e => by simp only [setFros, Option.some.injEq] at e; subst e; exact ⟨r, Ext.refl _ _ _ _⟩
  | i :: is, d :: ds, _, σ, env, env', r, .cons h t, e => by
    simp only [setFros] at e
    cases e1 : env[i]? with
    | none => rw [e1] at e; cases e
    | some s =>
      rw [e1] at e
      cases e2 : noIo s with
      | false => simp [e2] at e
      | true =>
        simp only [e2, if_true] at e
        obtain ⟨r1, x1⟩ := r.setFro e1 e2 h
        obtain ⟨r2, x2⟩ := setFros_ok r1 t e
        exact ⟨r2, x1.trans x2⟩
  | [], _ :: _, _, _, _, _, _, _, e => by simp [setFros] at e
  | _ :: _, [], _, _, _, _, _, _, e => by simp [setFros] at e
theorem gNames_ok : ∀ {is : List Nat} {vs : List V} {σ : St} {Q : St → Hp → Prop}, is.length = vs.length → Q (setVs is vs σ) H → gNames is vs σ H Q
  | [], [], _, _, _, q => ⟨rfl, q⟩
  | i :: is, v :: vs, σ, Q, e, q => ⟨v, vs, rfl, gNames_ok (by simpa using e) q⟩
  | [], _ :: _, _, _, e, _ => by simp at e
  | _ :: _, [], _, _, e, _ => by simp at e
theorem setFros_len : ∀ {is : List Nat} {ds : List D} {env env' : En}, setFros is ds env = some env' → is.length = ds.length
  | [], [], _, _, _ => rfl
  | i :: is, d :: ds, env, env', e => by
    simp only [setFros] at e
    split at e
    · split at e
      · exact congrArg (· + 1) (setFros_len e)
      · cases e
    · cases e
  | [], _ :: _, _, _, e => by simp [setFros] at e
  | _ :: _, [], _, _, e => by simp [setFros] at e
/-- a target takes a value; the slots become σ' -/
theorem Tg.ok {t : Tg} {d : D} {v : V} {env' : En} {K : PySem.W.Frag} (hK : K = G.K) (r : RelS G Fz σ H env) (rv : Rep G Fz v d) (h : t.set d env = some env') :
    ∃ is vs, (t = .nm (is.headD 0) ∧ is.length = 1 ∨ t = .tp is) ∧ RelS G Fz (setVs is vs σ) H env' ∧ Ext Fz σ env H Fz (setVs is vs σ) env' H ∧ ∀ Q : St → Hp → Prop, Q (setVs is vs σ) H → t.g K v σ H Q := by
  subst hK
  cases t with
  | nm i =>
    obtain ⟨r1, x1⟩ := setFros_ok r (.cons rv .nil) (show setFros [i] [d] env = some env' from h)
    exact ⟨[i], [v], .inl ⟨rfl, rfl⟩, r1, x1, fun Q q => q⟩
  | tp is =>
    cases rv with
    | @tup a vs ds h1 z rs =>
      have h' : setFros is ds env = some env' := h
      obtain ⟨r1, x1⟩ := setFros_ok r rs h'
      have el := setFros_len h'
      refine ⟨is, vs, .inr rfl, r1, x1, fun Q q => ⟨a, vs, rfl, sqt_mono r.sub h1, by rw [rs.length, el], gNames_ok (by rw [rs.length, el]) q⟩⟩
    | _ => cases h
abbrev QG (X : Cx) (tg : Expr) (t : Tg) : Prop := PG X tg (t.g X.K)
theorem qg_nm (i : Nat) {x : Str} (hN : X.N.Nodup) (hi : X.N[i]? = some x) (hx : Loc X.env.scope x) (hf : X.fn x = true ∨ X.env.scope.names.lookup x = some .local := by first | exact .inl rfl | exact .inr rfl | assumption) : QG X (.Name x pos) (.nm i) := pg_name hN hi hx hf
/-- a, b = e, e a tuple -/
def mUnp (t : Tg) (m : M D) : M Fl := m.bind fun d env => match t.set d env with
  | some env' => .ok .nx env'
  | none => .bad
theorem qs_unp (hK : X.K = G.K) {t : Tg} {tg : Expr} (he : QE G X W e ma) (hg : QG X tg t) (hs : swapsWithSole [tg] e pos.line X.env = pure false := by rfl) (hw : swappedStores [tg] e X.env = pure none := by rfl)
    (h1 : (assignEach [tg] X.env).map (·.2) = [assign tg X.env] := by rfl) : QS G X W (.Assign [tg] e pos) (mUnp t ma) :=
  PS_imp (ps_asg he hg hs hw h1) fun E σ H ⟨Fz, env, r, p⟩ => ⟨Fz, env, r, (fun _ z => nomatch z), by
    unfold mUnp M.bind at p
    cases e : ma env with
    | ok d e1 =>
      rw [e] at p
      intro Fz' v H' x r' q
      simp only at p
      cases e2 : t.set d e1 with
      | none => rw [e2] at p; exact p.elim
      | some e3 =>
        rw [e2] at p
        obtain ⟨is, vs, _, r1, x1, k⟩ := Tg.ok (t := t) hK r' q e2
        exact k _ (p Fz' _ H' (x.trans x1) r1)
    | err c fs e1 => rw [e] at p; exact fun Fz' H' cls y x r q => p Fz' σ H' cls y x r q
    | bad => rw [e] at p; exact p⟩
end
end Eng

end
section
set_option Elab.async false
set_option linter.all false
set_option autoImplicit false
set_option maxRecDepth 100000
set_option maxHeartbeats 2000000
namespace Eng
open PySem PySem.Spec L2
open PyProof.Rows hiding St

/-! ### what is walked -/
structure Gives (G : Kx) (Fz : Hp) (J : It) (xs : List D) : Prop where
  go : ∀ i H, Same Fz H → i < xs.length → J.go i H
  stop : ∀ i H, Same Fz H → i = xs.length → J.stop i H
  yld : ∀ i H x H' d, Same Fz H → J.yld i H x H' → xs[i]? = some d → (H' = H ∧ Rep G Fz x d) ∨ (∃ a o, H a = none ∧ H' = upd H a o ∧ ∀ Fz1, Same Fz Fz1 → Fz1 a = none → Rep G (upd Fz1 a o) x d)
theorem Gives.mono {G : Kx} {Fz Fz1 : Hp} {J : It} {xs : List D} (g : Gives G Fz J xs) (s : Same Fz Fz1) : Gives G Fz1 J xs where
  go := fun i H h => g.go i H (s.trans h)
  stop := fun i H h => g.stop i H (s.trans h)
  yld := fun i H x H' d h y e => by
    rcases g.yld i H x H' d (s.trans h) y e with ⟨e1, r⟩ | ⟨a, o, n, e1, k⟩
    · exact .inl ⟨e1, r.mono s⟩
    · exact .inr ⟨a, o, n, e1, fun Fz2 s2 => k Fz2 (s.trans s2)⟩
def rpI : RP It (List D) := fun G Fz _ _ _ _ J xs => Gives G Fz J xs
theorem backI : rpBack rpI := fun _ _ _ _ _ _ _ _ _ _ h => h
abbrev QI (G : Kx) (X : Cx) (W : WX) (tg iter : Expr) (m : M (List D)) : Prop := PI X tg iter (tOf rpI G W [] m)
theorem PI_imp {X : Cx} {tg e : Expr} {t t' : TI} (h : PI X tg e t) (k : ∀ σ H Q, t' σ H Q → t σ H Q) : PI X tg e t' := ⟨fun p s σ H Q I q => h.run p s σ H Q I (k σ H Q q)⟩
section
variable {G : Kx} {X : Cx} {W : WX} {e a b c tg iter : Expr} {es : List Expr} {pos p : Pos} {ma mb mc : M D} {x : Str} {σ σ1 : St} {H H1 Fz Fz1 : Hp} {env env1 : En} {E E' : Ends}
theorem gives_list {K : PySem.W.Frag} {l : Addr} {vs : List V} {ds : List D} (h : Fz l = some (.lst vs)) (r : Reps G Fz vs ds) : Gives G Fz (Itl K l) ds where
  go := fun i H s hi => by
    have hv : i < vs.length := by rw [r.length]; exact hi
    exact ⟨vs, vs[i], SqL.of (s _ _ h), List.getElem?_eq_getElem hv⟩
  stop := fun i H s hi => ⟨vs, SqL.of (s _ _ h), by rw [r.length, hi]; exact Nat.le_refl _⟩
  yld := fun i H x H' d s y e => by
    obtain ⟨v, e1, rv⟩ := r.get' e
    have := y.2 vs (SqL.of (s _ _ h))
    rw [e1] at this; cases this
    exact .inl ⟨y.1, rv⟩
theorem gives_tup {l : Addr} {vs : List V} {ds : List D} (h : SqT G.K Fz l vs) (r : Reps G Fz vs ds) : Gives G Fz (Itt G.K l) ds where
  go := fun i H s hi => by
    have hv : i < vs.length := by rw [r.length]; exact hi
    exact ⟨vs, vs[i], sqt_mono s h, List.getElem?_eq_getElem hv⟩
  stop := fun i H s hi => ⟨vs, sqt_mono s h, by rw [r.length, hi]; exact Nat.le_refl _⟩
  yld := fun i H x H' d s y e => by
    obtain ⟨v, e1, rv⟩ := r.get' e
    have := y.2 vs (sqt_mono s h)
    rw [e1] at this; cases this
    exact .inl ⟨y.1, rv⟩
def dItems : D → M (List D)
  | .lst l => M.pure l
  | .tup l => M.pure l
  | .stp l => M.pure l
  | _ => bad
/-- a list, a tuple -/
theorem qi_list (h : QE G X W e ma) : QI G X W tg e (ma.bind fun d => match d with | .lst l => M.pure l | _ => bad) :=
  PI_imp (pi_list h) fun σ H Q q => (tOf.bind_ backI q).mono fun x H1 ⟨d, Fz, env, rl, hh, q⟩ => by
    have rx : Rep G Fz x d := hh _ List.mem_cons_self
    cases rx with
    | lst h z r => exact ⟨_, rfl, ⟨_, SqL.of (rl.sub _ _ h)⟩, q Fz _ H1 (Ext.refl _ _ _ _) rl (gives_list h r)⟩
    | _ => exact q.elim
theorem qi_tup (hK : X.K = G.K) (h : QE G X W e ma) : QI G X W tg e (ma.bind fun d => match d with | .tup l => M.pure l | .stp l => M.pure l | _ => bad) :=
  PI_imp (pi_tup h) fun σ H Q q => (tOf.bind_ backI q).mono fun x H1 ⟨d, Fz, env, rl, hh, q⟩ => by
    have rx : Rep G Fz x d := hh _ List.mem_cons_self
    rw [hK]
    cases rx with
    | tup h z r => exact ⟨_, rfl, ⟨_, sqt_mono rl.sub h⟩, q Fz _ H1 (Ext.refl _ _ _ _) rl (gives_tup h r)⟩
    | stp h _ _ z r => exact ⟨_, rfl, ⟨_, .inl (.inr ⟨_, rl.sub _ _ h⟩)⟩, q Fz _ H1 (Ext.refl _ _ _ _) rl (gives_tup (.inl (.inr ⟨_, h⟩)) r)⟩
    | _ => exact q.elim
/-- either -/
theorem PI_or {t t' u : TI} (h : PI X tg e t) (h' : PI X tg e t') (k : ∀ σ H Q, u σ H Q → t σ H Q ∨ t' σ H Q) : PI X tg e u := ⟨fun p s σ H Q I q => by
  rcases k σ H Q q with q | q
  · exact h.run p s σ H Q I q
  · exact h'.run p s σ H Q I q⟩
def mIt (m : M D) : M (List D) := m.bind dItems
theorem qi_seq (hK : X.K = G.K) (h : QE G X W e ma) : QI G X W tg e (mIt ma) :=
  PI_or (qi_list (G := G) (W := W) h) (qi_tup (G := G) (W := W) hK h) fun σ H Q ⟨Fz, env, rl, hh, q⟩ => by
    unfold mIt M.bind at q
    cases e1 : ma env with
    | ok d e2 =>
      rw [e1] at q
      cases d with
      | lst l => exact .inl ⟨Fz, env, rl, hh, by unfold M.bind; rw [e1]; exact q⟩
      | tup l => exact .inr ⟨Fz, env, rl, hh, by unfold M.bind; rw [e1]; exact q⟩
      | stp l => exact .inr ⟨Fz, env, rl, hh, by unfold M.bind; rw [e1]; exact q⟩
      | _ => exact q.elim
    | err c fs e2 => rw [e1] at q; exact .inl ⟨Fz, env, rl, hh, by unfold M.bind; rw [e1]; exact q⟩
    | bad => rw [e1] at q; exact q.elim
def rangeD (lo : Int) (n : Nat) : List D := (List.range n).map fun (i : Nat) => D.int (lo + i)
theorem rangeD_len (lo : Int) (n : Nat) : (rangeD lo n).length = n := by unfold rangeD; rw [List.length_map, List.length_range]
theorem gives_range {lo : Int} {n : Nat} : Gives G Fz (Itr lo n) (rangeD lo n) where
  go := fun i H s hi => by rw [rangeD_len] at hi; exact hi
  stop := fun i H s hi => by rw [rangeD_len] at hi; rw [hi]; exact Nat.le_refl _
  yld := fun i H x H' d s y e => by
    unfold rangeD at e
    rw [List.getElem?_map] at e
    obtain ⟨e1, e2⟩ := y
    cases q : (List.range n)[i]? with
    | none => rw [q] at e; cases e
    | some j =>
      rw [q] at e
      have ej : j = i := by
        have h1 := List.getElem?_eq_some_iff.mp q
        obtain ⟨h1, h2⟩ := h1
        rw [List.getElem_range] at h2
        exact h2.symm
      subst ej
      simp only [Option.map_some, Option.some.injEq] at e
      subst e e2
      exact .inl ⟨e1, .int _⟩
def c62 (i : Int) : Bool := decide (-(2 ^ 62) ≤ i) && decide (i < 2 ^ 62)
theorem c62_ok {i : Int} (h : c62 i = true) : -(2 ^ 62) ≤ i ∧ i < 2 ^ 62 := let ⟨a, b⟩ := Bool.and_eq_true_iff.mp h; ⟨of_decide_eq_true a, of_decide_eq_true b⟩
def dRng1 : List D → M (List D)
  | [.int j] => if c62 j then M.pure (rangeD 0 j.toNat) else bad
  | _ => bad
def dRng2 : List D → M (List D)
  | [.int i, .int j] => if c62 i && c62 j then M.pure (rangeD i (j - i).toNat) else bad
  | _ => bad
theorem qi_range1 {n : M (List D)} (hg : Gl X "range") (hm : X.mg "range" = none) (ha : QA G X W [a] n) (hs : starEach [a] X.env = [(false, eval a X.env)] := by rfl) : QI G X W tg (.Call (.Name "range" p) [a] [] pos) (n.bind dRng1) :=
  PI_imp (pi_range1 hg hm ha hs) fun σ H Q q => (tOf.bindL backI q).mono fun xs H1 ⟨ds, el, Fz, env, rl, hh, q⟩ => by
    match xs, ds, el with
    | [], [], _ => exact q.elim
    | [v], [d], _ =>
      have rv : Rep G Fz v d := hh (v, d) List.mem_cons_self
      cases rv with
      | int j =>
        simp only [dRng1] at q
        cases e : c62 j with
        | false => rw [e] at q; exact q.elim
        | true =>
          rw [e] at q
          exact ⟨j, rfl, (c62_ok e).1, (c62_ok e).2, q Fz _ H1 (Ext.refl _ _ _ _) rl gives_range⟩
      | _ => exact q.elim
    | _ :: _ :: _, d :: _ :: _, _ => cases d <;> exact q.elim
theorem qi_range2 {n : M (List D)} (hg : Gl X "range") (hm : X.mg "range" = none) (ha : QA G X W [a, b] n) (hs : starEach [a, b] X.env = [(false, eval a X.env), (false, eval b X.env)] := by rfl) (hs2 : starEach [b] X.env = [(false, eval b X.env)] := by rfl) :
    QI G X W tg (.Call (.Name "range" p) [a, b] [] pos) (n.bind dRng2) :=
  PI_imp (pi_range2 hg hm ha hs hs2) fun σ H Q q => (tOf.bindL backI q).mono fun xs H1 ⟨ds, el, Fz, env, rl, hh, q⟩ => by
    match xs, ds, el with
    | [], [], _ => exact q.elim
    | [_], [d], _ => cases d <;> exact q.elim
    | [v, w], [d, d2], _ =>
      have rv : Rep G Fz v d := hh (v, d) List.mem_cons_self
      have rw' : Rep G Fz w d2 := hh (w, d2) (List.mem_cons_of_mem _ List.mem_cons_self)
      cases rv with
      | int i =>
        cases rw' with
        | int j =>
          simp only [dRng2] at q
          cases e : (c62 i && c62 j) with
          | false => rw [e] at q; exact q.elim
          | true =>
            rw [e] at q
            obtain ⟨e1, e2⟩ := Bool.and_eq_true_iff.mp e
            exact ⟨i, j, rfl, ⟨(c62_ok e1).1, (c62_ok e1).2, (c62_ok e2).1, (c62_ok e2).2⟩, q Fz _ H1 (Ext.refl _ _ _ _) rl gives_range⟩
        | _ => exact q.elim
      | _ => exact q.elim
    | _ :: _ :: _ :: _, d :: d2 :: _ :: _, _ => cases d <;> cases d2 <;> exact q.elim

/-! ### for -/
def forLoop (t : Tg) (body : M Fl) : List D → M Fl
  | [] => mNext
  | d :: ds => fun env => match t.set d env with
    | none => .bad
    | some e1 => match body e1 with
      | .ok .nx e2 => forLoop t body ds e2
      | .ok .ct e2 => forLoop t body ds e2
      | .ok .bk e2 => .ok .nx e2
      | r => r
def mFor (t : Tg) (mi : M (List D)) (body : M Fl) : M Fl := fun env => match mi env with
  | .ok xs e => forLoop t body xs e
  | .err c fs e => .err c fs e
  | .bad => .bad
theorem drop_get {α : Type} {xs : List α} {i : Nat} (h : i < xs.length) : xs.drop i = xs[i] :: xs.drop (i + 1) := List.drop_eq_getElem_cons h
/-- a walk's next item -/
theorem yield_rel {J : It} {xs : List D} {i : Nat} {v : V} {H' : Hp} {d : D} (r : RelS G Fz σ H env) (g : Gives G Fz J xs) (y : J.yld i H v H') (e : xs[i]? = some d) : ∃ Fz2, Same Fz Fz2 ∧ RelS G Fz2 σ H' env ∧ Ext Fz σ env H Fz2 σ env H' ∧ Rep G Fz2 v d ∧ (∀ q o, H q = some o → H' q = some o) ∧ (∀ q o, H q = some o → Fz q = none → Fz2 q = none) := by
  rcases g.yld i H v H' d r.sub y e with ⟨e1, rv⟩ | ⟨q, o, n, e1, k⟩
  · subst e1
    exact ⟨Fz, (fun _ _ h => h), r, Ext.refl _ _ _ _, rv, (fun _ _ h => h), fun _ _ _ h => h⟩
  · subst e1
    obtain ⟨r1, x1⟩ := r.alloc (o := o) n
    have nF : Fz q = none := by
      cases z : Fz q with
      | none => rfl
      | some u => have := r.sub _ _ z; rw [n] at this; cases this
    exact ⟨_, x1.sub, r1, x1, k Fz (fun _ _ h => h) nF, fun b u h => by rw [upd_ne (ne_of_none h n)]; exact h, fun b u h z => by rw [upd_ne (ne_of_none h n)]; exact z⟩
theorem qs_for (hK : X.K = G.K) {t : Tg} {mi : M (List D)} {m : M Fl} {body : List Stmt} (hp : PassesOwn (model X.prog X.w) X.A X.env X.xe) (hc : X.calm = true) (hi : QI G X W tg iter mi) (hg : QG X tg t) (hb : QSs G X W body m)
    (hs : ∀ x, foldedSetIterable iter X.env x = pure x := by intro _; rfl) : QS G X W (.For tg iter body [] pos) (mFor t mi m) :=
  PS_imp (ps_for hp hc hi hg hb hs) fun E σ H ⟨Fz, env, r, p⟩ => ⟨Fz, env, r, (fun _ z => nomatch z), by
    unfold mFor at p
    cases e : mi env with
    | err c fs e1 => rw [e] at p; exact fun Fz' H' cls y x r q => p Fz' σ H' cls y x r q
    | bad => rw [e] at p; exact p
    | ok xs e1 =>
      rw [e] at p
      intro Fz1 J H1 x1 r1 g1
      refine ⟨fun i k σ H => i ≤ xs.length ∧ k = xs.length - i ∧ ∃ Fz' env', RelS G Fz' σ H env' ∧ Gives G Fz' J xs ∧ PostS G W Fz' σ env' H E (forLoop t m (xs.drop i) env'), ⟨_, Nat.zero_le _, rfl, Fz1, e1, r1, g1, by rw [List.drop_zero]; exact p.then_ x1 r1⟩, ?_⟩
      rintro i k σ' H' ⟨hi, rfl, Fz', env', r', g', p'⟩
      by_cases hl : i = xs.length
      · subst hl
        rw [List.drop_length] at p'
        exact .inl ⟨g'.stop _ _ r'.sub rfl, p' Fz' σ' H' (Ext.refl _ _ _ _) r'⟩
      · have hlt : i < xs.length := by omega
        refine .inr ⟨g'.go i H' r'.sub hlt, fun σ2 H2 => ∃ k', k' < xs.length - i ∧ (i + 1 ≤ xs.length ∧ k' = xs.length - (i + 1) ∧ ∃ Fz' env', RelS G Fz' σ2 H2 env' ∧ Gives G Fz' J xs ∧ PostS G W Fz' σ2 env' H2 E (forLoop t m (xs.drop (i + 1)) env')), fun _ _ q => q, fun v H2 y => ?_⟩
        obtain ⟨Fz2, s2, r2, x2, rv, _⟩ := yield_rel r' g' y (List.getElem?_eq_getElem hlt)
        rw [drop_get hlt] at p'
        simp only [forLoop] at p'
        cases et : t.set xs[i] env' with
        | none => rw [et] at p'; exact p'.elim
        | some e3 =>
          rw [et] at p'
          dsimp only at p'
          obtain ⟨is, ws, _, r3, x3, kg⟩ := Tg.ok hK r2 rv et
          refine kg _ ⟨Fz2, e3, r3, ?_⟩
          have next : ∀ (env4 : En), PostS G W Fz' σ' env' H' E (forLoop t m (xs.drop (i + 1)) env4) → ∀ Fz4 σ4 H4, Ext Fz2 (setVs is ws σ') e3 H2 Fz4 σ4 env4 H4 → RelS G Fz4 σ4 H4 env4 → ∃ k', k' < xs.length - i ∧ (i + 1 ≤ xs.length ∧ k' = xs.length - (i + 1) ∧ ∃ Fz' env', RelS G Fz' σ4 H4 env' ∧ Gives G Fz' J xs ∧ PostS G W Fz' σ4 env' H4 E (forLoop t m (xs.drop (i + 1)) env')) :=
            fun env4 q Fz4 σ4 H4 x4 r4 => ⟨_, by omega, hlt, rfl, Fz4, env4, r4, g'.mono (s2.trans (x3.sub.trans x4.sub)), q.then_ ((x2.trans x3).trans x4) r4⟩
          cases eb : m e3 with
          | bad => rw [eb] at p'; exact p'.elim
          | err c fs e4 => rw [eb] at p'; exact (PostS.then_ (r := .err c fs e4) (x2.trans x3) r3 p')
          | ok f e4 =>
            rw [eb] at p'
            cases f with
            | nx => exact next e4 p'
            | ct => exact next e4 p'
            | bk => exact PostS.then_ (r := .ok .nx e4) (x2.trans x3) r3 p'
            | rt s => exact PostS.then_ (r := .ok (.rt s) e4) (x2.trans x3) r3 p'⟩

/-! ### comprehensions -/
def wipeE (env : En) : List Nat → En
  | [] => env
  | v :: vs => (wipeE env vs).set v .emp
theorem wipeE_len : ∀ {env : En} {vs : List Nat}, (wipeE env vs).length = env.length
  | _, [] => rfl
  | env, v :: vs => by unfold wipeE; rw [List.length_set, wipeE_len]
theorem wipeE_out {i : Nat} : ∀ {vs : List Nat}, i ∉ vs → (wipeE env vs)[i]? = env[i]?
  | [], _ => rfl
  | v :: vs, h => by
    have h1 : v ≠ i := fun e => h (by rw [e]; exact List.mem_cons_self)
    unfold wipeE
    rw [List.getElem?_set_ne h1]
    exact wipeE_out fun q => h (List.mem_cons_of_mem _ q)
theorem wipeE_in {i : Nat} {s : Slot} : ∀ {vs : List Nat}, i ∈ vs → (wipeE env vs)[i]? = some s → s = .emp
  | v :: vs, h, e => by
    unfold wipeE at e
    rcases set_get e with ⟨_, q⟩ | ⟨ne, e⟩
    · exact q
    · rcases List.mem_cons.mp h with z | z
      · exact absurd z ne
      · exact wipeE_in z e
theorem wipe_out' {i : Nat} {vs : List Nat} (h : i ∉ vs) : (wipe σ vs)[i]? = σ[i]? := wipe_out h
theorem wipe_len : (wipe σ ([] : List Nat)).length = σ.length := rfl
def okC (env : En) (vs : List Nat) : Bool := vs.all fun v => match env[v]? with
  | some .emp => true
  | some (.fro _) => true
  | _ => false
theorem okC_of {vs : List Nat} (h : okC env vs = true) {v : Nat} (hv : v ∈ vs) : env[v]? = some .emp ∨ ∃ d, env[v]? = some (.fro d) := by
  have q := List.all_eq_true.mp h v hv
  cases e : env[v]? with
  | none => rw [e] at q; cases q
  | some s =>
    rw [e] at q
    cases s with
    | emp => exact .inl rfl
    | fro d => exact .inr ⟨d, rfl⟩
    | own l => cases q
    | io l => cases q
theorem rel_wipe {vs : List Nat} (r : RelS G Fz σ H env) : RelS G Fz (wipe σ vs) H (wipeE env vs) := by
  refine ⟨r.sub, by rw [wipe_length, wipeE_len]; exact r.len, fun j sj ej => ?_, fun j k sj sk b ej ek mj mk qj qk => ?_, r.hot⟩
  · by_cases hj : j ∈ vs
    · have e := wipeE_in hj ej
      subst e
      have hl : j < (L2.wipe σ vs).length := by
        have := getElem?_lt ej
        rw [wipe_length, r.len]; rw [wipeE_len] at this; exact this
      exact ⟨_, List.getElem?_eq_getElem hl, trivial⟩
    · rw [wipeE_out hj] at ej
      rw [wipe_out hj]
      exact r.at_ j sj ej
  · have hj : j ∉ vs := fun h => by have e := wipeE_in h ej; subst e; cases mj
    have hk : k ∉ vs := fun h => by have e := wipeE_in h ek; subst e; cases mk
    rw [wipeE_out hj] at ej; rw [wipeE_out hk] at ek; rw [wipe_out hj] at qj; rw [wipe_out hk] at qk
    exact r.sep j k sj sk b ej ek mj mk qj qk
theorem own_wipe {vs : List Nat} {q : Addr} (h : Own (wipe σ vs) (wipeE env vs) q) : Own σ env q := by
  obtain ⟨j, s, e, m, z⟩ := h
  have hj : j ∉ vs := fun h => by have e := wipeE_in h e; subst e; cases m
  rw [wipeE_out hj] at e; rw [wipe_out hj] at z
  exact ⟨j, s, e, m, z⟩
theorem ext_wipe {Fz0 H0 : Hp} {σ0 : St} {env0 : En} {vs : List Nat} (x : Ext Fz0 σ0 env0 H0 Fz σ env H) (h : ∀ v ∈ vs, ∀ l, env0[v]? ≠ some (.io l)) : Ext Fz0 σ0 env0 H0 Fz (wipe σ vs) (wipeE env vs) H :=
  ⟨x.sub, fun q o e w => let ⟨k1, k2, k3⟩ := x.keep q o e w; ⟨k1, fun z => k2 (own_wipe z), k3⟩, fun i l e => by
    obtain ⟨⟨l', e1⟩, e2⟩ := x.ios i l e
    have hi : i ∉ vs := fun z => h i z l e
    exact ⟨⟨l', by rw [wipeE_out hi]; exact e1⟩, by rw [wipe_out hi]; exact e2⟩, x.live⟩
def lcLoop (vs : List Nat) (t : Tg) (mc : M Bool) (me : M D) : List D → List D → M (List D)
  | [], acc => M.pure acc
  | d :: ds, acc => fun env => match t.set d env with
    | none => .bad
    | some e1 => match mc e1 with
      | .ok true e2 => (match me e2 with
        | .ok y e3 => lcLoop vs t mc me ds (acc ++ [y]) (wipeE e3 vs)
        | _ => .bad)
      | .ok false e2 => lcLoop vs t mc me ds acc (wipeE e2 vs)
      | _ => .bad
def restore (env : En) (env' : En) : List Nat → En
  | [] => env'
  | v :: vs => match env[v]? with
    | some s => (restore env env' vs).set v s
    | none => restore env env' vs
def mLc (vs : List Nat) (t : Tg) (mi : M (List D)) (mc : M Bool) (me : M D) : M Slot := fun env => match mi env with
  | .ok xs e => if szOk xs.length && okC e vs then (match lcLoop vs t mc me xs [] (wipeE e vs) with
    | .ok acc e' => .ok (.own (.l acc)) (restore e e' vs)
    | _ => .bad) else .bad
  | .err c fs e => .err c fs e
  | .bad => .bad
theorem restore_len {env env' : En} : ∀ {vs : List Nat}, (restore env env' vs).length = env'.length
  | [] => rfl
  | v :: vs => by
    unfold restore
    split
    · rw [List.length_set, restore_len]
    · exact restore_len
theorem restore_out {env env' : En} {i : Nat} : ∀ {vs : List Nat}, i ∉ vs → (restore env env' vs)[i]? = env'[i]?
  | [], _ => rfl
  | v :: vs, h => by
    have h1 : v ≠ i := fun e => h (by rw [e]; exact List.mem_cons_self)
    have ih := restore_out (env := env) (env' := env') (vs := vs) fun q => h (List.mem_cons_of_mem _ q)
    unfold restore
    split
    · rw [List.getElem?_set_ne h1]; exact ih
    · exact ih
theorem restore_in {env env' : En} {i : Nat} {s s2 : Slot} (he : env[i]? = some s) : ∀ {vs : List Nat}, i ∈ vs → (restore env env' vs)[i]? = some s2 → s2 = s
  | v :: vs, h, e => by
    unfold restore at e
    by_cases hv : v = i
    · subst hv
      rw [he] at e
      rcases set_get e with ⟨_, q⟩ | ⟨ne, _⟩
      · exact q
      · exact absurd rfl ne
    · have hi : i ∈ vs := by
        rcases List.mem_cons.mp h with z | z
        · exact absurd z.symm hv
        · exact z
      split at e
      · rw [List.getElem?_set_ne hv] at e; exact restore_in he hi e
      · exact restore_in he hi e
/-- the walk's slots as they were -/
theorem rel_restore {vs : List Nat} {Fz0 H0 : Hp} {env0 : En} (hv : okC env0 vs = true) (r0 : RelS G Fz0 σ H0 env0) (r : RelS G Fz (wipe σ vs) H env) (x : Ext Fz0 (wipe σ vs) (wipeE env0 vs) H0 Fz (wipe σ vs) env H) :
    RelS G Fz σ H (restore env0 env vs) ∧ Ext Fz0 σ env0 H0 Fz σ (restore env0 env vs) H ∧ ∀ q, Own σ (Eng.restore env0 env vs) q → Own (wipe σ vs) env q := by
  have ln : (Eng.restore env0 env vs).length = σ.length := by rw [restore_len, ← r.len, wipe_length]
  have inn : ∀ j sj, j ∈ vs → (Eng.restore env0 env vs)[j]? = some sj → env0[j]? = some sj ∧ (sj = .emp ∨ ∃ d, sj = .fro d) := fun j sj hj ej => by
    rcases okC_of hv hj with e | ⟨d, e⟩
    · have := restore_in e hj ej; subst this; exact ⟨e, .inl rfl⟩
    · have := restore_in e hj ej; subst this; exact ⟨e, .inr ⟨d, rfl⟩⟩
  have ow : ∀ q, Own σ (Eng.restore env0 env vs) q → Own (L2.wipe σ vs) env q := fun q ⟨j, s, e, m, z⟩ => by
    have hj : j ∉ vs := fun h => by
      rcases (inn j s h e).2 with rfl | ⟨d, rfl⟩ <;> cases m
    rw [restore_out hj] at e
    exact ⟨j, s, e, m, by rw [wipe_out hj]; exact z⟩
  refine ⟨⟨r.sub, ln.symm, fun j sj ej => ?_, fun j k sj sk b ej ek mj mk qj qk => ?_, r.hot⟩, ⟨x.sub, fun q o e w => ?_, fun i l e => ?_, x.live⟩, ow⟩
  · by_cases hj : j ∈ vs
    · obtain ⟨e0, h⟩ := inn j sj hj ej
      obtain ⟨o, h1, h2⟩ := r0.at_ j sj e0
      refine ⟨o, h1, ?_⟩
      rcases h with rfl | ⟨d, rfl⟩
      · trivial
      · obtain ⟨v, ev, rv⟩ := h2; exact ⟨v, ev, rv.mono x.sub⟩
    · rw [restore_out hj] at ej
      obtain ⟨o, h1, h2⟩ := r.at_ j sj ej
      rw [wipe_out hj] at h1
      exact ⟨o, h1, h2⟩
  · have hj : j ∉ vs := fun h => by rcases (inn j sj h ej).2 with rfl | ⟨d, rfl⟩ <;> cases mj
    have hk : k ∉ vs := fun h => by rcases (inn k sk h ek).2 with rfl | ⟨d, rfl⟩ <;> cases mk
    rw [restore_out hj] at ej; rw [restore_out hk] at ek
    exact r.sep j k sj sk b ej ek mj mk (by rw [wipe_out hj]; exact qj) (by rw [wipe_out hk]; exact qk)
  · obtain ⟨k1, k2, k3⟩ := x.keep q o e fun z => w (own_wipe z)
    exact ⟨k1, fun z => k2 (ow q z), k3⟩
  · have hi : i ∉ vs := fun h => by rcases okC_of hv h with z | ⟨d, z⟩ <;> rw [e] at z <;> cases z
    obtain ⟨⟨l', e1⟩, e2⟩ := x.ios i l (by rw [wipeE_out hi]; exact e)
    exact ⟨⟨l', by rw [restore_out hi]; exact e1⟩, rfl⟩
theorem wipe_set {v : Nat} {o : Option V} : ∀ {vs : List Nat} {σ : St}, v ∈ vs → wipe (σ.set v o) vs = wipe σ vs := fun {vs σ} h => by
  apply List.ext_getElem?
  intro j
  by_cases hj : j ∈ vs
  · have key : ∀ (σ : St) (vs : List Nat), j ∈ vs → (L2.wipe σ vs)[j]? = if j < σ.length then some none else none := by
      intro σ vs
      induction vs with
      | nil => intro h; cases h
      | cons w ws ih =>
        intro h
        unfold L2.wipe
        by_cases e : w = j
        · subst e
          by_cases hl : w < σ.length
          · rw [List.getElem?_set_self (by rw [wipe_length]; exact hl), if_pos hl]
          · rw [List.getElem?_eq_none (by rw [List.length_set, wipe_length]; omega), if_neg hl]
        · rw [List.getElem?_set_ne e]
          rcases List.mem_cons.mp h with z | z
          · exact absurd z.symm e
          · exact ih z
    rw [key _ _ hj, key _ _ hj, List.length_set]
  · rw [wipe_out hj, wipe_out hj]
    have ne : v ≠ j := fun e => hj (e ▸ h)
    rw [List.getElem?_set_ne ne]
theorem wipe_wipe {vs : List Nat} : wipe (wipe σ vs) vs = wipe σ vs := by
  have key : ∀ (ws : List Nat), (∀ w ∈ ws, w ∈ vs) → ∀ σ : St, L2.wipe (L2.wipe σ ws) vs = L2.wipe σ vs := by
    intro ws
    induction ws with
    | nil => intro _ σ; rfl
    | cons w ws ih =>
      intro h σ
      show L2.wipe ((L2.wipe σ ws).set w none) vs = _
      rw [wipe_set (h w List.mem_cons_self), ih fun z hz => h z (List.mem_cons_of_mem _ hz)]
  exact key vs (fun _ h => h) σ
theorem wipe_setVs {vs : List Nat} : ∀ {is : List Nat} {ws : List V} {σ : St}, (∀ i ∈ is, i ∈ vs) → wipe (setVs is ws σ) vs = wipe σ vs
  | [], [], _, _ => rfl
  | [], _ :: _, _, _ => rfl
  | _ :: _, [], _, _ => rfl
  | i :: is, w :: ws, σ, h => by
    show wipe (setVs is ws (σ.set i (some w))) vs = _
    rw [wipe_setVs fun j hj => h j (List.mem_cons_of_mem _ hj), wipe_set (h i List.mem_cons_self)]
def Tg.ins (vs : List Nat) : Tg → Prop
  | .nm i => i ∈ vs
  | .tp is => ∀ i ∈ is, i ∈ vs
def W0 : WX := fun _ _ _ _ => False
theorem lc_post (hK : X.K = G.K) {vs : List Nat} {t : Tg} {mi : M (List D)} {k : M Bool} {me : M D} (ht : t.ins vs) {Q : VK} (h : tOf rpS G W [] (mLc vs t mi k me) σ H Q) : tLc (tOf rpI G W [] mi) (t.g X.K) (tOf rpB G W0 [] k) (tOf rpD G W0 [] me) vs σ H Q := by
  obtain ⟨Fz, env, r, hh, p⟩ := h
  refine ⟨Fz, env, r, hh, ?_⟩
  unfold mLc at p
  cases e : mi env with
  | err c fs e1 => rw [e] at p; exact p
  | bad => rw [e] at p; exact p
  | ok xs e1 =>
    rw [e] at p
    dsimp only at p
    intro Fz1 J H1 x1 r1 g1 D hD
    cases ez : (szOk xs.length && okC e1 vs) with
    | false => rw [ez] at p; exact p.elim
    | true =>
      rw [ez] at p
      simp only [if_true] at p
      obtain ⟨z1, z2⟩ := Bool.and_eq_true_iff.mp ez
      have sz := szOk_le z1
      cases el : lcLoop vs t k me xs [] (wipeE e1 vs) with
      | bad => rw [el] at p; exact p.elim
      | err c fs e2 => rw [el] at p; exact p.elim
      | ok accF eF =>
        rw [el] at p
        have noio : ∀ v ∈ vs, ∀ l, e1[v]? ≠ some (.io l) := fun v hv l z => by rcases okC_of z2 hv with q | ⟨d, q⟩ <;> rw [z] at q <;> cases q
        have noio' : ∀ v ∈ vs, ∀ l, (wipeE e1 vs)[v]? ≠ some (.io l) := fun v hv l z => by have := wipeE_in hv z; cases this
        have rw1 := rel_wipe (vs := vs) r1
        obtain ⟨r2, x2, nD, wD⟩ := rw1.allocO (o := .lst []) hD
        refine ⟨fun i m H => i ≤ xs.length ∧ m = xs.length - i ∧ ∃ Fz' env' acc vacc, RelS G Fz' (wipe σ vs) H env' ∧ Ext Fz1 (wipe σ vs) (wipeE e1 vs) H1 Fz' (wipe σ vs) env' H ∧ Gives G Fz' J xs ∧ H D = some (.lst vacc) ∧ Fz' D = none ∧ ¬ Own (wipe σ vs) env' D ∧ Reps G Fz' vacc acc ∧ acc.length ≤ i ∧ lcLoop vs t k me (xs.drop i) acc env' = .ok accF eF,
          ⟨_, Nat.zero_le _, rfl, Fz1, _, [], [], r2, x2, g1, upd_same, nD, wD, .nil, Nat.zero_le _, by rw [List.drop_zero]; exact el⟩, ?_⟩
        rintro i m H3 ⟨hi, rfl, Fz', env', acc, vacc, r', x', g', hacc, nD', wD', ra, la, eq⟩
        by_cases hl : i = xs.length
        · subst hl
          rw [List.drop_length] at eq
          have eq' : R.ok acc env' = R.ok accF eF := eq
          cases eq'
          refine .inl ⟨g'.stop _ _ r'.sub rfl, ?_⟩
          obtain ⟨r4, x4, ow⟩ := rel_restore z2 r1 r' x'
          refine p Fz' (.ref D) H3 (x1.trans x4) r4 ⟨D, rfl, ⟨vacc, hacc, nD', ?_, ra⟩, x1.live D hD, fun w => wD' (ow D w)⟩
          rw [ra.length]; exact Nat.le_trans la sz
        · have hlt : i < xs.length := by omega
          refine .inr ⟨g'.go i H3 r'.sub hlt, fun H2 => ∃ m', m' < xs.length - i ∧ (i + 1 ≤ xs.length ∧ m' = xs.length - (i + 1) ∧ ∃ Fz' env' acc vacc, RelS G Fz' (wipe σ vs) H2 env' ∧ Ext Fz1 (wipe σ vs) (wipeE e1 vs) H1 Fz' (wipe σ vs) env' H2 ∧ Gives G Fz' J xs ∧ H2 D = some (.lst vacc) ∧ Fz' D = none ∧ ¬ Own (wipe σ vs) env' D ∧ Reps G Fz' vacc acc ∧ acc.length ≤ i + 1 ∧ lcLoop vs t k me (xs.drop (i + 1)) acc env' = .ok accF eF), fun _ q => q, fun v H2 y => ?_⟩
          obtain ⟨Fz2, s2, r2', x2', rv, kp, kn⟩ := yield_rel r' g' y (List.getElem?_eq_getElem hlt)
          rw [drop_get hlt] at eq
          simp only [lcLoop] at eq
          cases et : t.set xs[i] env' with
          | none => rw [et] at eq; cases eq
          | some e3 =>
            rw [et] at eq
            dsimp only at eq
            obtain ⟨is, ws, hin, r3, x3, kg⟩ := Tg.ok hK r2' rv et
            have hsub : ∀ j ∈ is, j ∈ vs := by
              rcases hin with ⟨e5, e6⟩ | e5
              · match is, e6 with
                | [j0], _ =>
                  intro j hj
                  rw [List.mem_singleton.mp hj]
                  rw [e5] at ht
                  exact ht
              · rw [e5] at ht; exact ht
            have ews : L2.wipe (setVs is ws (L2.wipe σ vs)) vs = L2.wipe σ vs := by rw [wipe_setVs hsub, wipe_wipe]
            refine kg _ ⟨by rw [ews], ?_⟩
            have x13 : Ext Fz' (L2.wipe σ vs) env' H3 Fz2 (setVs is ws (L2.wipe σ vs)) e3 H2 := x2'.trans x3
            obtain ⟨hD2, wD2, fD2⟩ := x13.keep D _ hacc wD'
            refine ⟨Fz2, e3, r3, (fun _ z => nomatch z), ?_⟩
            cases ec : k e3 with
            | bad => rw [ec] at eq; cases eq
            | err c fs e4 => rw [ec] at eq; cases eq
            | ok b e4 =>
              rw [ec] at eq
              intro Fz4 b' H4 x4 r4 hb
              have hb' : b' = b := hb
              subst hb'
              obtain ⟨hD4, wD4, fD4⟩ := x4.keep D _ hD2 wD2
              cases b' with
              | false =>
                refine iteF ⟨_, by omega, hlt, rfl, Fz4, wipeE e4 vs, acc, vacc, ?_, ?_, g'.mono (s2.trans (x3.sub.trans x4.sub)), hD4, fD4 (fD2 nD'), ?_, ra.mono (s2.trans (x3.sub.trans x4.sub)), by omega, eq⟩
                · have := rel_wipe (vs := vs) r4; rw [ews] at this; exact this
                · have := ext_wipe (vs := vs) ((x'.trans x13).trans x4) noio'; rw [ews] at this; exact this
                · intro w
                  have w' : Own (L2.wipe (setVs is ws (L2.wipe σ vs)) vs) (wipeE e4 vs) D := by rw [ews]; exact w
                  exact wD4 (own_wipe w')
              | true =>
                refine iteT ⟨Fz4, e4, r4, (fun _ z => nomatch z), ?_⟩
                dsimp only at eq
                cases ee : me e4 with
                | bad => rw [ee] at eq; cases eq
                | err c fs e5 => rw [ee] at eq; cases eq
                | ok yd e5 =>
                  rw [ee] at eq
                  intro Fz5 yv H5 x5 r5 ry
                  obtain ⟨hD5, wD5, fD5⟩ := x5.keep D _ hD4 wD4
                  have n5 := fD5 (fD4 (fD2 nD'))
                  have ss : Same Fz' Fz5 := s2.trans (x3.sub.trans (x4.sub.trans x5.sub))
                  refine ⟨vacc, hD5, ?_, _, by omega, hlt, rfl, Fz5, wipeE e5 vs, acc ++ [yd], vacc ++ [yv], ?_, ?_, g'.mono ss, upd_same, n5, ?_, (ra.mono ss).append (.cons ry .nil), by simp; omega, eq⟩
                  · rw [ra.length]; omega
                  · have := rel_wipe (vs := vs) r5; rw [ews] at this
                    refine this.grow (fun _ _ h => h) (fun b u e => by rw [upd_ne (ne_of_none e n5)]; exact this.sub b u e) (fun b w => (this.ownObj w).2) fun b u w e => ?_
                    rw [upd_ne (fun z : b = D => ?_)]
                    · exact e
                    · subst z
                      have w' : Own (L2.wipe (setVs is ws (L2.wipe σ vs)) vs) (wipeE e5 vs) b := by rw [ews]; exact w
                      exact wD5 (own_wipe w')
                  · have q := ext_wipe (vs := vs) (((x'.trans x13).trans x4).trans x5) noio'; rw [ews] at q
                    refine ⟨q.sub, fun b u e w => ?_, q.ios, fun b e => ?_⟩
                    · obtain ⟨k1, k2, k3⟩ := q.keep b u e w
                      exact ⟨by rw [upd_ne (ne_of_none e hD)]; exact k1, k2, k3⟩
                    · by_cases hb : b = D
                      · rw [hb]; exact hD
                      · rw [upd_ne hb] at e; exact q.live b e
                  · intro w
                    have w' : Own (L2.wipe (setVs is ws (L2.wipe σ vs)) vs) (wipeE e5 vs) D := by rw [ews]; exact w
                    exact wD5 (own_wipe w')
end
end Eng

end
section
set_option Elab.async false
set_option linter.all false
set_option autoImplicit false
set_option maxRecDepth 100000
set_option maxHeartbeats 2000000
namespace Eng
open PySem PySem.Spec L2
open PyProof.Rows hiding St
section
variable {G : Kx} {X : Cx} {W : WX} {e a b c tg iter elt : Expr} {es ifs : List Expr} {pos p spos cpos apos : Pos} {ma mb mc : M D} {x : Str} {σ σ1 : St} {H H1 Fz Fz1 : Hp} {env env1 : En} {E E' : Ends}

/-! ### comprehensions -/
abbrev QTs (G : Kx) (X : Cx) (W : WX) (ifs : List Expr) (m : M Bool) : Prop := PTs X ifs (tOf rpB G W [] m)
def mYes : M Bool := M.pure true
theorem qts_nil : QTs G X W [] mYes := ⟨fun pins s σ H Q I q => pts_nil.run pins s σ H Q I (q.retB)⟩
theorem qts_one {m : M Bool} (h : QT G X W c m) : QTs G X W [c] m := pts_one h
abbrev BX (X : Cx) (scope : Scope) (s : Shared) (H : Hp) (C : Addr) (cl : List (Str × Addr)) (fp : List Addr) : Cx := X.blk s H scope (compEnvC scope cl C X.env) fp
theorem qo_lc (hK : X.K = G.K) {scope : Scope} {own : List (Str × Nat)} {t : Tg} {mi : M (List D)} {k : M Bool} {me : M D} (ht : t.ins (own.map (·.2))) (hc : X.calm = true) (hN : X.N.Nodup) (hi : QI G X W tg iter mi) (ok : BlkOk X.N X.env.scope scope own)
    (hg : ∀ s H C cl fp, QG (BX X scope s H C cl fp) tg t) (hts : ∀ s H C cl fp, QTs G (BX X scope s H C cl fp) W0 ifs k) (he : ∀ s H C cl fp, QE G (BX X scope s H C cl fp) W0 elt me) (hs : ∀ x, foldedSetIterable iter X.env x = pure x := by intro _; rfl) :
    QO G X W (.ListComp elt [⟨tg, iter, ifs, 0⟩] scope pos) (mLc (own.map (·.2)) t mi k me) :=
  PE_imp (pe_lc hc hN hi ok hg hts he hs) fun σ H Q h => lc_post hK ht h
theorem qs_setLc (hK : X.K = G.K) (i : Nat) {y : Str} {py : Pos} {scope : Scope} {own : List (Str × Nat)} {t : Tg} {mi : M (List D)} {k : M Bool} {me : M D} (ht : t.ins (own.map (·.2))) (hc : X.calm = true) (hN : X.N.Nodup) (hy : X.N[i]? = some y) (hyl : X.env.scope.names.lookup y = some .local)
    (hsw : swapsWith (.ListComp elt [⟨tg, iter, ifs, 0⟩] scope pos) (some (.Name y py)) spos.line X.env = pure true) (hi : QI G X W tg iter mi) (ok : BlkOk X.N X.env.scope scope own)
    (hg : ∀ s H C cl fp, QG (BX X scope s H C cl fp) tg t) (hts : ∀ s H C cl fp, QTs G (BX X scope s H C cl fp) W0 ifs k) (he : ∀ s H C cl fp, QE G (BX X scope s H C cl fp) W0 elt me) (hs : ∀ x, foldedSetIterable iter X.env x = pure x := by intro _; rfl) :
    QS G X W (.Assign [.Name y py] (.ListComp elt [⟨tg, iter, ifs, 0⟩] scope pos) spos) (mSet i (mLc (own.map (·.2)) t mi k me)) :=
  PS_imp (ps_setLc hc hN hy hyl hsw hi ok hg hts he hs) fun E σ H ⟨Fz, env, r, p⟩ => by
    have h := post_set (i := i) p
    exact lc_post (W := W) (G := G) hK ht ⟨Fz, env, r, (fun _ z => nomatch z), h⟩

/-! ### lists of ours -/
/-- an own object is written -/
theorem RelS.write {i : Nat} {s s' : Slot} {l l' : Ob} {a : Addr} {o' : HO} (r : RelS G Fz σ H env) (h : env[i]? = some s) (hs : (s = .own l ∧ s' = .own l') ∨ (s = .io l ∧ s' = .io l')) (ea : σ[i]? = some (some (.ref a))) (hn : OwnAt G Fz (upd H a o') l' a) :
    RelS G Fz σ (upd H a o') (env.set i s') ∧ Ext Fz σ env H Fz σ (env.set i s') (upd H a o') := by
  have hm : s.mine = true := by rcases hs with ⟨rfl, _⟩ | ⟨rfl, _⟩ <;> rfl
  have hm' : s'.mine = true := by rcases hs with ⟨_, rfl⟩ | ⟨_, rfl⟩ <;> rfl
  have w : Own σ env a := ⟨i, s, h, hm, ea⟩
  obtain ⟨⟨u0, ha⟩, nF⟩ := r.ownObj w
  have hi := getElem?_lt h
  have ow : ∀ b, Own σ (env.set i s') b ↔ Own σ env b := fun b => by
    constructor
    · rintro ⟨j, sj, ej, m, q⟩
      rcases set_get ej with ⟨rfl, rfl⟩ | ⟨nj, ej⟩
      · exact ⟨j, s, h, hm, q⟩
      · exact ⟨j, sj, ej, m, q⟩
    · rintro ⟨j, sj, ej, m, q⟩
      by_cases hj : j = i
      · subst hj; exact ⟨j, s', List.getElem?_set_self hi, hm', q⟩
      · exact ⟨j, sj, by rw [List.getElem?_set_ne (Ne.symm hj)]; exact ej, m, q⟩
  have other : ∀ j sj b, j ≠ i → env[j]? = some sj → sj.mine = true → σ[j]? = some (some (.ref b)) → b ≠ a := fun j sj b nj ej m q z => by
    subst z; exact nj (r.sep j i sj s b ej h m hm q ea)
  refine ⟨⟨fun b u e => by rw [upd_ne (fun z : b = a => by rw [z, nF] at e; cases e)]; exact r.sub b u e, by rw [List.length_set]; exact r.len, fun j sj ej => ?_, fun j k sj sk b ej ek mj mk qj qk => ?_, r.hot⟩,
    ⟨fun _ _ e => e, fun q o e nw => ⟨by rw [upd_ne (fun z : q = a => nw (by rw [z]; exact w))]; exact e, fun z => nw ((ow q).mp z), fun z => z⟩, fun j k ej => ?_, fun b e => ?_⟩⟩
  · rcases set_get ej with ⟨rfl, rfl⟩ | ⟨nj, ej⟩
    · refine ⟨_, ea, ?_⟩
      rcases hs with ⟨_, rfl⟩ | ⟨_, rfl⟩ <;> exact ⟨a, rfl, hn⟩
    · obtain ⟨o, h1, h2⟩ := r.at_ j sj ej
      refine ⟨o, h1, ?_⟩
      cases sj with
      | emp => trivial
      | fro d => exact h2
      | own k =>
        obtain ⟨b, rfl, q⟩ := h2
        have nb := other j _ b nj ej rfl h1
        exact ⟨b, rfl, q.mono (fun _ _ e => e) (r.ownObj ⟨j, _, ej, rfl, h1⟩).2 fun u e => by rw [upd_ne nb]; exact e⟩
      | io k =>
        obtain ⟨b, rfl, q⟩ := h2
        have nb := other j _ b nj ej rfl h1
        exact ⟨b, rfl, q.mono (fun _ _ e => e) (r.ownObj ⟨j, _, ej, rfl, h1⟩).2 fun u e => by rw [upd_ne nb]; exact e⟩
  · have back : ∀ j sj, (env.set i s')[j]? = some sj → Slot.mine sj = true → ∃ s0, env[j]? = some s0 ∧ Slot.mine s0 = true := fun j sj ej m => by
      rcases set_get ej with ⟨rfl, rfl⟩ | ⟨nj, ej⟩
      · exact ⟨s, h, hm⟩
      · exact ⟨sj, ej, m⟩
    obtain ⟨s1, e1, m1⟩ := back j sj ej mj
    obtain ⟨s2, e2, m2⟩ := back k sk ek mk
    exact r.sep j k s1 s2 b e1 e2 m1 m2 qj qk
  · by_cases hj : j = i
    · subst hj
      rw [h] at ej
      rcases hs with ⟨rfl, rfl⟩ | ⟨rfl, rfl⟩
      · cases ej
      · exact ⟨⟨l', List.getElem?_set_self hi⟩, rfl⟩
    · exact ⟨⟨k, by rw [List.getElem?_set_ne (Ne.symm hj)]; exact ej⟩, rfl⟩
  · by_cases hb : b = a
    · rw [hb, upd_same] at e; cases e
    · rw [upd_ne hb] at e; exact e
/-- the content of what is ours; a new content -/
def myOb (i : Nat) (env : En) : Option Ob := match env[i]? with
  | some (.own l) => some l
  | some (.io l) => some l
  | _ => none
def putOb (i : Nat) (l : Ob) (env : En) : En := match env[i]? with
  | some (.own _) => env.set i (.own l)
  | some (.io _) => env.set i (.io l)
  | _ => env
def myList (i : Nat) (env : En) : Option (List D) := match myOb i env with
  | some (.l l) => some l
  | _ => none
def putList (i : Nat) (l : List D) (env : En) : En := putOb i (.l l) env
theorem ob_at {i : Nat} {l : Ob} (r : RelS G Fz σ H env) (h : myOb i env = some l) : ∃ a s, env[i]? = some s ∧ (s = .own l ∨ s = .io l) ∧ σ[i]? = some (some (.ref a)) ∧ OwnAt G Fz H l a := by
  unfold myOb at h
  cases e : env[i]? with
  | none => rw [e] at h; cases h
  | some s =>
    rw [e] at h
    cases s with
    | own l2 =>
      cases h
      obtain ⟨a, e1, o⟩ := r.getmine e (.inl rfl)
      exact ⟨a, _, rfl, .inl rfl, e1, o⟩
    | io l2 =>
      cases h
      obtain ⟨a, e1, o⟩ := r.getmine e (.inr rfl)
      exact ⟨a, _, rfl, .inr rfl, e1, o⟩
    | emp => cases h
    | fro d => cases h
theorem myList_ob {i : Nat} {l : List D} (h : myList i env = some l) : myOb i env = some (.l l) := by
  unfold myList at h
  cases e : myOb i env with
  | none => rw [e] at h; cases h
  | some x =>
    rw [e] at h
    cases x with
    | l l2 => cases h; rfl
    | o c fs => cases h
theorem mine_at {i : Nat} {l : List D} (r : RelS G Fz σ H env) (h : myList i env = some l) : ∃ a vs s, env[i]? = some s ∧ (s = .own (.l l) ∨ s = .io (.l l)) ∧ σ[i]? = some (some (.ref a)) ∧ H a = some (.lst vs) ∧ vs.length ≤ sizeLine ∧ Reps G Fz vs l ∧ Fz a = none := by
  obtain ⟨a, s, e1, e2, e3, vs, q, n, z, rp⟩ := ob_at r (myList_ob h)
  exact ⟨a, vs, s, e1, e2, e3, q, z, rp, n⟩
theorem putOb_rel {i : Nat} {l l' : Ob} {a : Addr} {o' : HO} (r : RelS G Fz σ H env) (h : myOb i env = some l) (ea : σ[i]? = some (some (.ref a))) (hn : OwnAt G Fz (upd H a o') l' a) :
    RelS G Fz σ (upd H a o') (putOb i l' env) ∧ Ext Fz σ env H Fz σ (putOb i l' env) (upd H a o') := by
  unfold myOb at h
  unfold putOb
  cases e : env[i]? with
  | none => rw [e] at h; cases h
  | some s =>
    rw [e] at h
    cases s with
    | own l2 => cases h; exact r.write e (.inl ⟨rfl, rfl⟩) ea hn
    | io l2 => cases h; exact r.write e (.inr ⟨rfl, rfl⟩) ea hn
    | emp => cases h
    | fro d => cases h
theorem put_rel {i : Nat} {l l' : List D} {a : Addr} {vs' : List V} (r : RelS G Fz σ H env) (h : myList i env = some l) (ea : σ[i]? = some (some (.ref a))) (rv : Reps G Fz vs' l') (z : vs'.length ≤ sizeLine) :
    RelS G Fz σ (upd H a (.lst vs')) (putList i l' env) ∧ Ext Fz σ env H Fz σ (putList i l' env) (upd H a (.lst vs')) := by
  obtain ⟨a2, s, e1, e2, e3, o⟩ := ob_at r (myList_ob h)
  rw [ea] at e3; cases e3
  exact putOb_rel r (myList_ob h) ea ⟨vs', upd_same, o.obj.2, z, rv⟩
/-- what a method does to an own list -/
def MutS (G : Kx) (r : V → List V → Hp → VK → Prop) (f : List D → List D → Option (List D × D)) : Prop := ∀ (a : Addr) (vs xs : List V) (l ds l' : List D) (d' : D) (Fz H : Hp), H a = some (.lst vs) → vs.length ≤ sizeLine → Reps G Fz vs l → Reps G Fz xs ds → f l ds = some (l', d') →
  ∃ vs' v', Reps G Fz vs' l' ∧ Rep G Fz v' d' ∧ vs'.length ≤ sizeLine ∧ ∀ Q : VK, Q v' (upd H a (.lst vs')) → r (.ref a) xs H Q
def mMut (i : Nat) (f : List D → List D → Option (List D × D)) (n : M (List D)) : M D := fun env => match myList i env with
  | none => .bad
  | some _ => match n env with
    | .ok ds e => (match myList i e with
      | none => .bad
      | some l => match f l ds with
        | none => .bad
        | some (l', d) => .ok d (putList i l' e))
    | .err c fs e => .err c fs e
    | .bad => .bad
theorem t_mut {i : Nat} {r : V → List V → Hp → VK → Prop} {f : List D → List D → Option (List D × D)} {n : M (List D)} {K : PySem.W.Frag} (hf : MutS G r f) {Q : VK} (h : tOf rpD G W [] (mMut i f n) σ H Q) :
    tVar i σ H fun x H1 => tyV K "list" x H1 ∧ tOf rpL G W [] n σ H1 fun xs H2 => r x xs H2 Q := by
  obtain ⟨Fz, env, rl, hh, q⟩ := h
  unfold mMut at q
  cases e0 : myList i env with
  | none => rw [e0] at q; exact q.elim
  | some l0 =>
    rw [e0] at q
    dsimp only at q
    obtain ⟨a, vs, s, _, _, ea, ha, _⟩ := mine_at rl e0
    refine ⟨_, ea, .inl ⟨rfl, vs, SqL.of ha⟩, Fz, env, rl, (fun _ z => nomatch z), ?_⟩
    cases en : n env with
    | bad => rw [en] at q; exact q
    | err c fs e => rw [en] at q; exact q
    | ok ds e1 =>
      rw [en] at q
      dsimp only at q
      intro Fz1 xs H1 x1 r1 rx
      cases e2 : myList i e1 with
      | none => rw [e2] at q; exact q.elim
      | some l =>
        rw [e2] at q
        dsimp only at q
        cases e3 : f l ds with
        | none => rw [e3] at q; exact q.elim
        | some p2 =>
          obtain ⟨l', d'⟩ := p2
          rw [e3] at q
          dsimp only at q
          obtain ⟨a2, vs2, s2, _, _, ea2, ha2, z2, rp2, _⟩ := mine_at r1 e2
          rw [ea] at ea2; cases ea2
          obtain ⟨vs', v', q1, q2, q3, q4⟩ := hf a vs2 xs l ds l' d' Fz1 H1 ha2 z2 rp2 rx e3
          obtain ⟨r3, x3⟩ := put_rel r1 e2 ea q1 q3
          exact q4 _ (q Fz1 v' _ (x1.trans x3) r3 q2)
end
section
variable {G : Kx} {X : Cx} {W : WX} {e a b c tg iter elt : Expr} {es ifs : List Expr} {pos p spos cpos apos : Pos} {ma mb mc : M D} {x : Str} {σ σ1 : St} {H H1 Fz Fz1 : Hp} {env env1 : En} {E E' : Ends}
theorem qe_mut (i : Nat) {id : String} {name : Str} {r : V → List V → Hp → VK → Prop} {f : List D → List D → Option (List D × D)} {n : M (List D)} (pa : PlainAttrs "list") (slot : PySem.Slot "list" name id) (hty : typeOf (.builtin id) = pure (.type "method_descriptor")) (hm : MtR X id r) (hf : MutS G r f) (ho : PE X a (tVar i)) (ha : QA G X W (e :: es) n)
    (hbase : attributeBase a name X.env (eval a X.env) = eval a X.env := by rfl)
    (hfew : ((backTo cpos (starEach (e :: es) X.env)).all (fun x => !x.1) && (backToKw cpos (keywordEach [] X.env)).all (fun x => x.1.isSome)
      && decide ((e :: es).length + ([] : List Keyword).length + (if ([] : List Keyword).isEmpty then 0 else 1) < 30)) = true := by rfl)
    (hline : (apos.endLine == cpos.line) = true := by rfl) (hs : starEach (e :: es) X.env = (false, eval e X.env) :: starEach es X.env := by rfl) (hplain : (backTo cpos (starEach es X.env)).any (·.1) = false := by rfl) :
    QE G X W (.Call (.Attribute a name apos) (e :: es) [] cpos) (mMut i f n) :=
  PE_imp (pe_bm pa slot hty hm ho ha hbase hfew hline hs hplain) fun σ H Q q => t_mut (K := X.K) hf q
theorem qe_mut0 (i : Nat) {id : String} {name : Str} {r : V → List V → Hp → VK → Prop} {f : List D → List D → Option (List D × D)} (pa : PlainAttrs "list") (slot : PySem.Slot "list" name id) (hty : typeOf (.builtin id) = pure (.type "method_descriptor")) (hm : MtR X id r) (hf : MutS G r f) (ho : PE X a (tVar i))
    (hbase : attributeBase a name X.env (eval a X.env) = eval a X.env := by rfl) (hline : (apos.endLine == cpos.line) = true := by rfl) : QE G X W (.Call (.Attribute a name apos) [] [] cpos) (mMut i f mNil) :=
  PE_imp (pe_bm0 pa slot hty hm ho hbase hline) fun σ H Q q => by
    obtain ⟨v, e1, e2, Fz, env, rl, hh, q2⟩ := t_mut (K := X.K) hf q
    exact ⟨v, e1, e2, q2 Fz [] H (Ext.refl _ _ _ _) rl .nil⟩
def fAppend (l : List D) : List D → Option (List D × D)
  | [d] => if szOk (l.length + 1) then some (l ++ [d], .non) else none
  | _ => none
theorem s_append : MutS G rAppend fAppend := fun a vs xs l ds l' d' Fz H ha z r rx e => by
  match ds, rx, e with
  | [d], .cons h .nil, e =>
    rename_i v
    simp only [fAppend] at e
    cases es : szOk (l.length + 1) with
    | false => simp [es] at e
    | true =>
      simp only [es, if_true, Option.some.injEq, Prod.mk.injEq] at e
      obtain ⟨rfl, rfl⟩ := e
      have z2 := szOk_le es
      refine ⟨vs ++ [v], .non, r.append (.cons h .nil), .non, by rw [List.length_append, r.length]; exact z2, fun Q q => ⟨a, vs, v, rfl, rfl, ha, by rw [r.length]; exact z2, q⟩⟩
  | [], _, e => cases e
  | _ :: _ :: _, _, e => cases e
def fPop (l : List D) : List D → Option (List D × D)
  | [] => match l[l.length - 1]? with
    | some d => some (l.dropLast, d)
    | none => none
  | [.int i] => if c62 i then match seqIndex? i l.length with
    | some k => match l[k]? with
      | some d => some (l.eraseIdx k, d)
      | none => none
    | none => none else none
  | _ => none
theorem s_pop : MutS G rPop (fun l ds => match ds with | [] => fPop l [] | _ => none) := fun a vs xs l ds l' d' Fz H ha z r rx e => by
  match ds, rx, e with
  | [], .nil, e =>
    simp only [fPop] at e
    cases q : l[l.length - 1]? with
    | none => rw [q] at e; cases e
    | some d =>
      rw [q] at e
      simp only [Option.some.injEq, Prod.mk.injEq] at e
      obtain ⟨rfl, rfl⟩ := e
      obtain ⟨v, e1, rv⟩ := r.get' q
      rw [← r.length] at e1
      have e2 : vs.dropLast = vs.take (vs.length - 1) := List.dropLast_eq_take
      refine ⟨vs.dropLast, v, ?_, rv, Nat.le_trans (by rw [List.length_dropLast]; omega) z, fun Q q => ⟨a, vs, v, rfl, rfl, ha, e1, q⟩⟩
      rw [List.dropLast_eq_take, List.dropLast_eq_take, r.length]
      exact r.take _
  | _ :: _, _, e => cases e
theorem s_popAt : MutS G rPopAt (fun l ds => match ds with | [i] => fPop l [i] | _ => none) := fun a vs xs l ds l' d' Fz H ha z r rx e => by
  match ds, rx, e with
  | [di], .cons h .nil, e =>
    cases h with
    | int i =>
      simp only [fPop] at e
      cases ec : c62 i with
      | false => simp [ec] at e
      | true =>
        simp only [ec, if_true] at e
        cases es : seqIndex? i l.length with
        | none => rw [es] at e; cases e
        | some k =>
          rw [es] at e
          dsimp only at e
          cases q : l[k]? with
          | none => rw [q] at e; cases e
          | some d =>
            rw [q] at e
            simp only [Option.some.injEq, Prod.mk.injEq] at e
            obtain ⟨rfl, rfl⟩ := e
            obtain ⟨v, e1, rv⟩ := r.get' q
            obtain ⟨c1, c2⟩ := c62_ok ec
            exact ⟨vs.eraseIdx k, v, r.eraseIdx k, rv, Nat.le_trans (List.length_eraseIdx_le _ _) z, fun Q q => ⟨a, vs, i, k, v, rfl, rfl, ha, by omega, by omega, by rw [r.length]; exact es, e1, q⟩⟩
    | _ => cases e
  | [], _, e => cases e
  | _ :: _ :: _, _, e => cases e
def fInsert (l : List D) : List D → Option (List D × D)
  | [.int i, d] => if szOk (l.length + 1) && (decide (0 ≤ i) && decide (i < 2 ^ 62)) then some (l.take i.toNat ++ [d] ++ l.drop i.toNat, .non) else none
  | _ => none
theorem s_insert : MutS G (fun x vs H Q => ∃ (l : Addr) (xs : List V) (i : Int) (y : V), x = .ref l ∧ vs = [.int i, y] ∧ H l = some (.lst xs) ∧ xs.length < sizeLine ∧ 0 ≤ i ∧ i < 2 ^ 63 ∧
    Q .non (upd H l (.lst (xs.take i.toNat ++ [y] ++ xs.drop i.toNat)))) fInsert := fun a vs xs l ds l' d' Fz H ha z r rx e => by
  match ds, rx, e with
  | [di, d], .cons h (.cons (v := v) h2 .nil), e =>
    cases h with
    | int i =>
      simp only [fInsert] at e
      cases ec : (szOk (l.length + 1) && (decide (0 ≤ i) && decide (i < 2 ^ 62))) with
      | false => rw [ec] at e; cases e
      | true =>
        rw [ec] at e
        simp only [if_true, Option.some.injEq, Prod.mk.injEq] at e
        obtain ⟨rfl, rfl⟩ := e
        obtain ⟨c1, c2⟩ := Bool.and_eq_true_iff.mp ec
        obtain ⟨c2, c3⟩ := Bool.and_eq_true_iff.mp c2
        have c2 := of_decide_eq_true c2
        have c3 := of_decide_eq_true c3
        have z2 := szOk_le c1
        refine ⟨vs.take i.toNat ++ [v] ++ vs.drop i.toNat, .non, ((r.take _).append (.cons h2 .nil)).append (r.drop _), .non, ?_, fun Q q => ⟨a, vs, i, v, rfl, rfl, ha, by rw [r.length]; exact z2, c2, by omega, q⟩⟩
        rw [List.length_append, List.length_append, List.length_take, List.length_drop, r.length]
        simp only [List.length_singleton]
        omega
    | _ => cases e
  | [], _, e => cases e
  | [d], _, e => cases d <;> cases e
  | d :: _ :: _ :: _, _, e => cases d <;> cases e
def fReverse (l : List D) : List D → Option (List D × D)
  | [] => some (l.reverse, .non)
  | _ => none
theorem s_reverse : MutS G rReverse fReverse := fun a vs xs l ds l' d' Fz H ha z r rx e => by
  match ds, rx, e with
  | [], .nil, e =>
    simp only [fReverse, Option.some.injEq, Prod.mk.injEq] at e
    obtain ⟨rfl, rfl⟩ := e
    exact ⟨vs.reverse, .non, r.reverse, .non, by rw [List.length_reverse]; exact z, fun Q q => ⟨a, vs, rfl, rfl, ha, q⟩⟩
  | _ :: _, _, e => cases e
def fClear (l : List D) : List D → Option (List D × D)
  | [] => some ([], .non)
  | _ => none
theorem s_clear : MutS G rClear fClear := fun a vs xs l ds l' d' Fz H ha z r rx e => by
  match ds, rx, e with
  | [], .nil, e =>
    simp only [fClear, Option.some.injEq, Prod.mk.injEq] at e
    obtain ⟨rfl, rfl⟩ := e
    exact ⟨[], .non, .nil, .non, Nat.zero_le _, fun Q q => ⟨a, vs, rfl, rfl, ha, q⟩⟩
  | _ :: _, _, e => cases e
/-- x[i], x a list of ours -/
def mIxO (i : Nat) (m : M D) : M D := fun env => match myList i env with
  | none => .bad
  | some _ => match m env with
    | .ok (.int k) e => (match myList i e with
      | none => .bad
      | some l => match atI l k with
        | some d => .ok d e
        | none => .bad)
    | .ok _ _ => .bad
    | .err c fs e => .err c fs e
    | .bad => .bad
theorem qe_ixO (i : Nat) (ho : PE X a (tVar i)) (hb : QE G X W b mb) (hm : PlainIx b := by exact fun _ _ => rfl) : QE G X W (.Subscript a b pos) (mIxO i mb) :=
  PE_imp (pe_ix ix_list ho hb hm) fun σ H Q ⟨Fz, env, rl, hh, q⟩ => by
    unfold mIxO at q
    cases e0 : myList i env with
    | none => rw [e0] at q; exact q.elim
    | some l0 =>
      rw [e0] at q
      dsimp only at q
      obtain ⟨a0, vs, s, _, _, ea, ha, _⟩ := mine_at rl e0
      refine ⟨_, ea, Fz, env, rl, (fun _ z => nomatch z), ?_⟩
      cases en : mb env with
      | bad => rw [en] at q; exact q
      | err c fs e => rw [en] at q; exact q
      | ok d e1 =>
        rw [en] at q
        intro Fz1 v H1 x1 r1 rx
        have rx : Rep G Fz1 v d := rx
        cases rx with
        | int k =>
          dsimp only at q
          cases e2 : myList i e1 with
          | none => rw [e2] at q; exact q.elim
          | some l =>
            rw [e2] at q
            dsimp only at q
            cases e3 : atI l k with
            | none => rw [e3] at q; exact q.elim
            | some d =>
              rw [e3] at q
              obtain ⟨a2, vs2, s2, _, _, ea2, ha2, z2, rp2, _⟩ := mine_at r1 e2
              rw [ea] at ea2; cases ea2
              obtain ⟨w, e4, rw'⟩ := at_reps rp2 e3
              exact ⟨_, vs2, k, w, rfl, rfl, SqL.of ha2, e4, q Fz1 w H1 x1 r1 rw'⟩
        | _ => exact q.elim
/-- x[i] = e, x a list of ours -/
def mPutO (i : Nat) (m n : M D) : M Fl := fun env => match m env with
  | .ok d e => (match myList i e with
    | none => .bad
    | some _ => match n e with
      | .ok (.int k) e2 => (match myList i e2 with
        | none => .bad
        | some l => match ixN l.length k with
          | some j => .ok .nx (putList i (l.set j d) e2)
          | none => .bad)
      | .ok _ _ => .bad
      | .err c fs e => .err c fs e
      | .bad => .bad)
  | .err c fs e => .err c fs e
  | .bad => .bad
theorem qs_putO (i : Nat) {m n : M D} {opos : Pos} (he : QE G X W e m) (ho : PE X a (tVar i)) (hb : QE G X W b n)
    (ha : ∀ v, assign (.Subscript a b opos) X.env v = (do
      let ov ← holding [v] (eval a X.env)
      let iv ← holding [v, ov] (eval b X.env)
      standAt opos
      holding [v, ov, iv] (setItem ov iv v)
      release [v, ov, iv] []) := by intro _; rfl)
    (hs : swapsWithSole [.Subscript a b opos] e pos.line X.env = pure false := by rfl) (hw : swappedStores [.Subscript a b opos] e X.env = pure none := by rfl)
    (h1 : (assignEach [.Subscript a b opos] X.env).map (·.2) = [assign (.Subscript a b opos) X.env] := by rfl) : QS G X W (.Assign [.Subscript a b opos] e pos) (mPutO i m n) :=
  PS_imp (ps_asg he (pg_sub ho hb set_list ha) hs hw h1) fun E σ H ⟨Fz, env, rl, q⟩ => ⟨Fz, env, rl, (fun _ z => nomatch z), by
    unfold mPutO at q
    cases em : m env with
    | bad => rw [em] at q; exact q
    | err c fs e => rw [em] at q; exact fun Fz' H' cls y x r k => q Fz' σ H' cls y x r k
    | ok d e1 =>
      rw [em] at q
      intro Fz1 v H1 x1 r1 rv
      have rv : Rep G Fz1 v d := rv
      dsimp only at q
      cases e0 : myList i e1 with
      | none => rw [e0] at q; exact q.elim
      | some l0 =>
        rw [e0] at q
        dsimp only at q
        obtain ⟨a0, vs, s, _, _, ea, ha, _⟩ := mine_at r1 e0
        refine ⟨_, ea, Fz1, e1, r1, (fun _ z => nomatch z), ?_⟩
        cases en : n e1 with
        | bad => rw [en] at q; exact q.elim
        | err c fs e => rw [en] at q; exact fun Fz' H' cls y x r k => q Fz' σ H' cls y (x1.trans x) r k
        | ok dk e2 =>
          rw [en] at q
          intro Fz2 vk H2 x2 r2 rk
          have rk : Rep G Fz2 vk dk := rk
          cases rk with
          | int k =>
            dsimp only at q
            cases e3 : myList i e2 with
            | none => rw [e3] at q; exact q.elim
            | some l =>
              rw [e3] at q
              dsimp only at q
              cases e4 : ixN l.length k with
              | none => rw [e4] at q; exact q.elim
              | some j =>
                rw [e4] at q
                obtain ⟨a2, vs2, s2, _, _, ea2, ha2, z2, rp2, _⟩ := mine_at r2 e3
                rw [ea] at ea2; cases ea2
                obtain ⟨r4, x4⟩ := put_rel r2 e3 ea ((rp2.set (rv.mono x2.sub) j)) (by rw [List.length_set]; exact z2)
                exact ⟨_, vs2, k, j, rfl, rfl, ha2, by rw [rp2.length]; exact e4, q Fz2 σ _ ((x1.trans x2).trans x4) r4⟩
          | _ => exact q.elim⟩

/-! ### lists of ours are lent: an expression that gives a scalar reads them -/
def D.scal : D → Bool
  | .non => true
  | .bl _ => true
  | .int _ => true
  | .str _ => true
  | _ => false
def lend1 (is : List Nat) (j : Nat) : Slot → Slot
  | .own (.l l) => if j ∈ is then .fro (.lst l) else .emp
  | .io (.l l) => if j ∈ is then .fro (.lst l) else .emp
  | .own (.o _ _) => .emp
  | .io (.o _ _) => .emp
  | s => s
def lendE (is : List Nat) (env : En) : En := env.mapIdx fun j s => lend1 is j s
def mLend (is : List Nat) (m : M D) : M D := fun env => match m (lendE is env) with
  | .ok d _ => if d.scal then .ok d env else .bad
  | _ => .bad
theorem lendE_get {is : List Nat} {j : Nat} : (lendE is env)[j]? = (env[j]?).map (lend1 is j) := by unfold lendE; rw [List.getElem?_mapIdx]
open Classical in
theorem lend_rel (is : List Nat) (r : RelS G Fz σ H env) : ∃ Fz2, Same Fz Fz2 ∧ RelS G Fz2 σ H (lendE is env) ∧ ∀ q, ¬ Own σ (lendE is env) q := by
  refine ⟨fun q => if Own σ env q then H q else Fz q, ?_, ?_, ?_⟩
  · intro q o e
    have nw : ¬ Own σ env q := fun w => by rw [(r.ownObj w).2] at e; cases e
    show (if Own σ env q then H q else Fz q) = some o
    rw [if_neg nw]; exact e
  · have same : Same Fz (fun q => if Own σ env q then H q else Fz q) := fun q o e => by
      have nw : ¬ Own σ env q := fun w => by rw [(r.ownObj w).2] at e; cases e
      show (if Own σ env q then H q else Fz q) = some o
      rw [if_neg nw]; exact e
    refine ⟨fun q o e => ?_, ?_, fun j sj ej => ?_, fun j k sj sk b ej ek mj mk => ?_, fun x e => (r.hot x e).mono same⟩
    · have e' : (if Own σ env q then H q else Fz q) = some o := e
      by_cases w : Own σ env q
      · rw [if_pos w] at e'; exact e'
      · rw [if_neg w] at e'; exact r.sub _ _ e'
    · unfold lendE; rw [List.length_mapIdx]; exact r.len
    · rw [lendE_get] at ej
      cases e0 : env[j]? with
      | none => rw [e0] at ej; cases ej
      | some s0 =>
        rw [e0] at ej
        simp only [Option.map_some, Option.some.injEq] at ej
        obtain ⟨o, h1, h2⟩ := r.at_ j s0 e0
        refine ⟨o, h1, ?_⟩
        have lentc : ∀ l a, s0.mine = true → o = some (V.ref a) → OwnAt G Fz H (.l l) a → ∀ s, (if j ∈ is then Slot.fro (.lst l) else .emp) = s → s.rel G (fun q => if Own σ env q then H q else Fz q) H o := fun l a m eo ⟨vs, ha, n, z, rp⟩ s es => by
          by_cases hj : j ∈ is
          · rw [if_pos hj] at es; subst es
            refine ⟨_, eo, .lst ?_ z (rp.mono same)⟩
            have w : Own σ env a := ⟨j, s0, e0, m, by rw [h1, eo]⟩
            show (if Own σ env a then H a else Fz a) = _
            rw [if_pos w]; exact ha
          · rw [if_neg hj] at es; subst es; trivial
        cases s0 with
        | emp => cases ej; trivial
        | fro d => cases ej; obtain ⟨v, ev, rv⟩ := h2; exact ⟨v, ev, rv.mono same⟩
        | own x =>
          cases x with
          | l l => obtain ⟨a, eo, oa⟩ := h2; exact lentc l a rfl eo oa sj ej
          | o c fs => cases ej; trivial
        | io x =>
          cases x with
          | l l => obtain ⟨a, eo, oa⟩ := h2; exact lentc l a rfl eo oa sj ej
          | o c fs => cases ej; trivial
    · rw [lendE_get] at ej
      cases e0 : env[j]? with
      | none => rw [e0] at ej; cases ej
      | some s0 =>
        rw [e0] at ej
        simp only [Option.map_some, Option.some.injEq] at ej
        cases s0 with
        | emp => cases ej; cases mj
        | fro d => cases ej; cases mj
        | own x =>
          cases x with
          | l l => simp only [lend1] at ej; split at ej <;> (subst ej; cases mj)
          | o c fs => cases ej; cases mj
        | io x =>
          cases x with
          | l l => simp only [lend1] at ej; split at ej <;> (subst ej; cases mj)
          | o c fs => cases ej; cases mj
  · rintro q ⟨j, s, e, m, _⟩
    rw [lendE_get] at e
    cases e0 : env[j]? with
    | none => rw [e0] at e; cases e
    | some s0 =>
      rw [e0] at e
      simp only [Option.map_some, Option.some.injEq] at e
      cases s0 with
      | emp => cases e; cases m
      | fro d => cases e; cases m
      | own x =>
        cases x with
        | l l => simp only [lend1] at e; split at e <;> (subst e; cases m)
        | o c fs => cases e; cases m
      | io x =>
        cases x with
        | l l => simp only [lend1] at e; split at e <;> (subst e; cases m)
        | o c fs => cases e; cases m
theorem scal_rep {Fz Fz' : Hp} {v : V} {d : D} (h : d.scal = true) (r : Rep G Fz v d) : Rep G Fz' v d := by
  cases r with
  | non => exact .non
  | bl b => exact .bl b
  | int i => exact .int i
  | str s => exact .str s
  | _ => cases h
theorem qe_lend (is : List Nat) (h : QE G X W e ma) : QE G X W e (mLend is ma) :=
  PE_imp h fun σ H Q ⟨Fz, env, rl, hh, q⟩ => by
    obtain ⟨Fz2, s2, r2, nw⟩ := lend_rel is rl
    refine ⟨Fz2, _, r2, (fun _ z => nomatch z), ?_⟩
    unfold mLend at q
    cases e : ma (lendE is env) with
    | bad => rw [e] at q; exact q.elim
    | err c fs e1 => rw [e] at q; exact q.elim
    | ok d e1 =>
      rw [e] at q
      intro Fz' v H' x' r' rv
      dsimp only at q
      cases es : d.scal with
      | false => simp only [es] at q; exact q.elim
      | true =>
        simp only [es, if_true] at q
        have kp : Same H H' := fun b o eb => (x'.keep b o eb (nw b)).1
        refine q Fz v H' ⟨(fun _ _ z => z), fun b o eb w => ⟨kp b o eb, w, fun z => z⟩, fun i l z => ⟨⟨l, z⟩, rfl⟩, x'.live⟩ (rl.grow (fun _ _ z => z) (rl.sub.trans kp) (fun b w => (rl.ownObj w).2) fun b u _ z => kp b u z) (scal_rep es rv)
theorem qt_lend (is : List Nat) (h : QE G X W e ma) (he : ∀ whole, isTrue e X.env whole = (do let v ← whole; standAt e.pos; holding [v] (truthy v))) : QT G X W e (mTst (mLend is ma)) := qt_val (qe_lend is h) he
end
end Eng

end
section
set_option Elab.async false
set_option linter.all false
set_option autoImplicit false
set_option maxRecDepth 100000
set_option maxHeartbeats 2000000
namespace Eng
open PySem PySem.Spec L2
open PyProof.Rows hiding St

/-! ### arguments: values, or lists of ours that the callee may change -/
inductive Ag where
  | v (d : D) | io (i : Nat)
inductive AgR (G : Kx) (Fz : Hp) (σ : St) : List V → List Ag → Prop
  | nil : AgR G Fz σ [] []
  | v {x : V} {d : D} {xs : List V} {as : List Ag} : Rep G Fz x d → AgR G Fz σ xs as → AgR G Fz σ (x :: xs) (.v d :: as)
  | io {x : V} {i : Nat} {xs : List V} {as : List Ag} : σ[i]? = some (some x) → AgR G Fz σ xs as → AgR G Fz σ (x :: xs) (.io i :: as)
def rpA : RP (List V) (List Ag) := fun G Fz _ _ σ _ xs as => AgR G Fz σ xs as
theorem backA : rpBack rpA := fun _ _ _ _ _ _ _ _ _ _ h => h
abbrev QAg (G : Kx) (X : Cx) (W : WX) (es : List Expr) (m : M (List Ag)) : Prop := PA X es (tOf rpA G W [] m)
section
variable {G : Kx} {X : Cx} {W : WX} {e a b c tg iter elt : Expr} {es ifs : List Expr} {pos p spos cpos apos : Pos} {ma mb mc : M D} {x : Str} {σ σ1 : St} {H H1 Fz Fz1 : Hp} {env env1 : En} {E E' : Ends}
theorem AgR.mono {xs : List V} {as : List Ag} (s : Same Fz Fz1) (h : AgR G Fz σ xs as) : AgR G Fz1 σ xs as := by
  induction h with
  | nil => exact .nil
  | v r _ ih => exact .v (r.mono s) ih
  | io e _ ih => exact .io e ih
def agNil : M (List Ag) := M.pure []
def agV (m : M D) (n : M (List Ag)) : M (List Ag) := m.bind fun d => n.bind fun as => M.pure (.v d :: as)
def agIo (i : Nat) (n : M (List Ag)) : M (List Ag) := fun env => match myOb i env with
  | some _ => (n.bind fun as => M.pure (.io i :: as)) env
  | none => .bad
theorem qag_nil : QAg G X W [] agNil := PA_imp pa_nil fun σ H Q ⟨Fz, env, r, hh, p⟩ => p Fz [] H (Ext.refl _ _ _ _) r .nil
theorem tOf.bindA {ω α : Type} {rp : RP ω α} (bk : rpBack rp) {hv : List (V × D)} {ma : M (List Ag)} {f : List Ag → M α} {Q : ω → Hp → Prop} (h : tOf rp G W hv (M.bind ma f) σ H Q) :
    tOf rpA G W [] ma σ H fun xs H1 => ∃ as Fz1 env1, RelS G Fz1 σ H1 env1 ∧ (∀ p ∈ hv, Rep G Fz1 p.1 p.2) ∧ AgR G Fz1 σ xs as ∧ Post rp G W Fz1 σ env1 H1 Q (f as env1) := by
  obtain ⟨Fz, env, r, hh, p⟩ := h
  refine ⟨Fz, env, r, (fun _ z => nomatch z), ?_⟩
  unfold M.bind at p
  cases e : ma env with
  | ok ds e1 =>
    rw [e] at p
    exact fun Fz1 xs H1 x1 r1 rx => ⟨ds, Fz1, e1, r1, hv_mono x1.sub hh, rx, Post.then_ (α := α) bk x1 p⟩
  | err c fs e1 => rw [e] at p; exact p
  | bad => rw [e] at p; exact p
theorem qag_v {n : M (List Ag)} (ha : QE G X W e ma) (hr : QAg G X W es n) (hs : starEach (e :: es) X.env = (false, eval e X.env) :: starEach es X.env := by rfl) : QAg G X W (e :: es) (agV ma n) :=
  PA_imp (pa_cons ha hr hs) fun σ H Q q => (tOf.bind_ backA q).mono fun x H1 ⟨d, h1⟩ => (tOf.bindA backA h1).mono fun xs H2 ⟨as, Fz, env, r, hh, ra, p⟩ =>
    p Fz (x :: xs) H2 (Ext.refl _ _ _ _) r (.v (hh _ (List.mem_cons_self)) ra)
theorem qag_io (i : Nat) {n : M (List Ag)} (ha : PE X e (tVar i)) (hr : QAg G X W es n) (hs : starEach (e :: es) X.env = (false, eval e X.env) :: starEach es X.env := by rfl) : QAg G X W (e :: es) (agIo i n) :=
  PA_imp (pa_cons ha hr hs) fun σ H Q ⟨Fz, env, r, hh, p⟩ => by
    unfold agIo at p
    cases e0 : myOb i env with
    | none => rw [e0] at p; exact p.elim
    | some l =>
      rw [e0] at p
      obtain ⟨a0, s, _, _, ea, _⟩ := ob_at r e0
      exact ⟨_, ea, (tOf.bindA (hv := []) backA ⟨Fz, env, r, hh, p⟩).mono fun xs H2 ⟨as, Fz2, env2, r2, _, ra, p2⟩ => p2 Fz2 _ H2 (Ext.refl _ _ _ _) r2 (.io ea ra)⟩

/-! ### a def -/
def okArg : Slot → Bool
  | .fro _ => true
  | .io _ => true
  | _ => false
def backArg : Slot → Slot → Slot
  | .io _, s => s
  | a, _ => a
def backArgs (args e : En) : En := List.zipWith backArg args e
/-- what a def's body gives for arguments -/
def finFn (k : Nat) (args : En) : R Fl → R Slot
  | .ok f e => if e.length == args.length + k then (match f with
    | .nx => .ok (.fro .non) (backArgs args e)
    | .rt s => .ok s (backArgs args e)
    | _ => .bad) else .bad
  | .err c fs e => if e.length == args.length + k then .err c fs (backArgs args e) else .bad
  | .bad => .bad
def mFn (k : Nat) (m : M Fl) : M Slot := fun args => finFn k args (m (args ++ List.replicate k .emp))
def spF (G : Kx) (n : Nat) (F : M Slot) : Sp := fun vs H Q E => ∃ Fz args, RelS G Fz (vs.map some) H args ∧ args.length = n ∧ (∀ s ∈ args, okArg s = true) ∧ Post rpS G (fun cls x _ H => E cls x H) Fz (vs.map some) args H Q (F args)
theorem start_get {N : List Str} {vs : List V} {i : Nat} (h : i < vs.length) : (L2.start N vs)[i]? = (vs.map some)[i]? := by
  unfold L2.start
  rw [List.getElem?_append_left (by rw [List.length_map]; exact h)]
theorem args_get {args : En} {k i : Nat} (h : i < args.length) : (args ++ List.replicate k Slot.emp)[i]? = args[i]? := List.getElem?_append_left h
theorem args_mine {args : En} {k i : Nat} {s : Slot} (h : (args ++ List.replicate k Slot.emp)[i]? = some s) (m : s.mine = true) : i < args.length := by
  by_cases q : i < args.length
  · exact q
  · rw [List.getElem?_append_right (by omega)] at h
    have := List.mem_of_getElem? h
    rw [List.mem_replicate] at this
    rw [this.2] at m; cases m
theorem own_start {N : List Str} {vs : List V} {args : En} {k : Nat} (el : vs.length = args.length) (q : Addr) : Own (L2.start N vs) (args ++ List.replicate k Slot.emp) q ↔ Own (vs.map some) args q := by
  constructor
  · rintro ⟨i, s, e, m, z⟩
    have hi := args_mine e m
    rw [args_get hi] at e
    rw [start_get (by omega)] at z
    exact ⟨i, s, e, m, z⟩
  · rintro ⟨i, s, e, m, z⟩
    have hi := getElem?_lt e
    exact ⟨i, s, by rw [args_get hi]; exact e, m, by rw [start_get (by omega)]; exact z⟩
theorem rel_start {N : List Str} {vs : List V} {args : En} {k : Nat} (el : vs.length = args.length) (hk : N.length = args.length + k) (r : RelS G Fz (vs.map some) H args) : RelS G Fz (L2.start N vs) H (args ++ List.replicate k .emp) := by
  refine ⟨r.sub, by unfold L2.start; rw [List.length_append, List.length_append, List.length_map, List.length_replicate, List.length_replicate, el]; omega, fun j sj ej => ?_, fun i j si sj b ei ej mi mj qi qj => ?_, r.hot⟩
  · by_cases hj : j < args.length
    · rw [args_get hj] at ej
      rw [start_get (by omega)]
      exact r.at_ j sj ej
    · have hl := getElem?_lt ej
      rw [List.getElem?_append_right (by omega)] at ej
      have := (List.mem_replicate.mp (List.mem_of_getElem? ej)).2
      subst this
      have h2 : j < (L2.start N vs).length := by
        rw [List.length_append, List.length_replicate] at hl
        unfold L2.start; rw [List.length_append, List.length_map, List.length_replicate]; omega
      exact ⟨_, List.getElem?_eq_getElem h2, trivial⟩
  · have hi := args_mine ei mi
    have hj := args_mine ej mj
    rw [args_get hi] at ei; rw [args_get hj] at ej
    rw [start_get (by omega)] at qi; rw [start_get (by omega)] at qj
    exact r.sep i j si sj b ei ej mi mj qi qj
theorem back_get {args e : En} {i : Nat} {s t : Slot} (h1 : args[i]? = some s) (h2 : e[i]? = some t) : (backArgs args e)[i]? = some (backArg s t) := by
  unfold backArgs
  rw [List.getElem?_zipWith, h1, h2]
/-- behind the body: the arguments' slots -/
theorem fn_back {N : List Str} {vs : List V} {args e : En} {k : Nat} {Fz' H' : Hp} {σ' : St} (el : vs.length = args.length) (le : e.length = args.length + k) (ok : ∀ s ∈ args, okArg s = true) (r0 : RelS G Fz (vs.map some) H args) (x : Ext Fz (L2.start N vs) (args ++ List.replicate k .emp) H Fz' σ' e H') (r : RelS G Fz' σ' H' e) :
    RelS G Fz' (vs.map some) H' (backArgs args e) ∧ Ext Fz (vs.map some) args H Fz' (vs.map some) (backArgs args e) H' ∧ ∀ q, Own (vs.map some) (backArgs args e) q → Own σ' e q := by
  have lb : (backArgs args e).length = args.length := by unfold backArgs; rw [List.length_zipWith]; omega
  have inv : ∀ (j : Nat) (sj : Slot), (backArgs args e)[j]? = some sj → ∃ s t, args[j]? = some s ∧ e[j]? = some t ∧ sj = backArg s t := fun j sj ej => by
    have hj : j < args.length := by have := getElem?_lt ej; omega
    have h1 : args[j]? = some args[j] := List.getElem?_eq_getElem hj
    have h2 : e[j]? = some e[j] := List.getElem?_eq_getElem (by omega)
    have := back_get h1 h2
    rw [ej] at this
    exact ⟨_, _, h1, h2, Option.some.inj this⟩
  have io : ∀ (j : Nat) (l : Ob), args[j]? = some (.io l) → (∃ l', e[j]? = some (.io l')) ∧ σ'[j]? = (vs.map some)[j]? := fun j l ej => by
    have hj := getElem?_lt ej
    obtain ⟨h1, h2⟩ := x.ios j l (by rw [args_get hj]; exact ej)
    exact ⟨h1, by rw [h2, start_get (by omega)]⟩
  have mine : ∀ (j : Nat) (sj : Slot), (backArgs args e)[j]? = some sj → sj.mine = true → ∃ l l', args[j]? = some (.io l) ∧ e[j]? = some (.io l') ∧ sj = .io l' ∧ σ'[j]? = (vs.map some)[j]? := fun j sj ej m => by
    obtain ⟨s, t, h1, h2, h3⟩ := inv j sj ej
    cases s with
    | io l =>
      obtain ⟨⟨l', q1⟩, q2⟩ := io j l h1
      rw [h2] at q1; cases q1
      exact ⟨l, l', h1, h2, h3, q2⟩
    | emp => subst h3; cases m
    | fro d => subst h3; cases m
    | own l => have := ok _ (List.mem_of_getElem? h1); cases this
  have ow : ∀ q, Own (vs.map some) (backArgs args e) q → Own σ' e q := fun q ⟨j, sj, ej, m, z⟩ => by
    obtain ⟨l, l', _, h2, rfl, h4⟩ := mine j sj ej m
    exact ⟨j, _, h2, rfl, by rw [h4]; exact z⟩
  refine ⟨⟨r.sub, by rw [List.length_map, lb, el], fun j sj ej => ?_, fun i j si sj b ei ej mi mj qi qj => ?_, r.hot⟩, ⟨x.sub, fun p o e0 w => ?_, fun j l ej => ?_, x.live⟩, ow⟩
  · obtain ⟨s, t, h1, h2, h3⟩ := inv j sj ej
    obtain ⟨o, q1, q2⟩ := r0.at_ j s h1
    cases s with
    | io l =>
      obtain ⟨⟨l', q3⟩, q4⟩ := io j l h1
      rw [h2] at q3; cases q3
      obtain ⟨o', q5, q6⟩ := r.at_ j _ h2
      rw [q4, q1] at q5; cases q5
      exact ⟨o, q1, by rw [h3]; exact q6⟩
    | emp => exact ⟨o, q1, by rw [h3]; trivial⟩
    | fro d => obtain ⟨v, ev, rv⟩ := q2; exact ⟨o, q1, by rw [h3]; exact ⟨v, ev, rv.mono x.sub⟩⟩
    | own l => have := ok _ (List.mem_of_getElem? h1); cases this
  · obtain ⟨_, _, _, a2, rfl, a4⟩ := mine i si ei mi
    obtain ⟨_, _, _, b2, rfl, b4⟩ := mine j sj ej mj
    exact r.sep i j _ _ b a2 b2 rfl rfl (a4.trans qi) (b4.trans qj)
  · obtain ⟨k1, k2, k3⟩ := x.keep p o e0 fun z => w ((own_start el p).mp z)
    exact ⟨k1, fun z => k2 (ow p z), k3⟩
  · obtain ⟨⟨l', q3⟩, q4⟩ := io j l ej
    exact ⟨⟨l', back_get ej q3⟩, rfl⟩
theorem fn_body {N : List Str} {n k : Nat} {m : M Fl} {vs : List V} {Q : VK} {EX : XK} (hk : N.length = n + k) (h : spF G n (mFn k m) vs H Q EX) : tS G (fun cls x _ H => EX cls x H) m { nx := fun _ H' => Q .non H', rt := Q } (L2.start N vs) H := by
  obtain ⟨Fz, args, r, ln, ok, p⟩ := h
  have el : vs.length = args.length := by have := r.len; rw [List.length_map] at this; exact this
  refine ⟨Fz, args ++ List.replicate k .emp, rel_start (k := k) el (by omega) r, ?_⟩
  unfold mFn at p
  cases e : m (args ++ List.replicate k .emp) with
  | bad => rw [e] at p; exact p
  | err c fs e1 =>
    rw [e] at p
    simp only [finFn] at p
    cases q : (e1.length == args.length + k) with
    | false => simp [q] at p; exact p.elim
    | true =>
      simp only [q, if_true] at p
      intro Fz' σ' H' cls x ex r' er
      obtain ⟨r2, x2, _⟩ := fn_back el (eq_of_beq q) ok r ex r'
      exact p Fz' H' cls x x2 r2 er
  | ok f e1 =>
    rw [e] at p
    simp only [finFn] at p
    cases q : (e1.length == args.length + k) with
    | false => simp [q] at p; exact p.elim
    | true =>
      simp only [q, if_true] at p
      cases f with
      | nx =>
        intro Fz' σ' H' ex r'
        obtain ⟨r2, x2, _⟩ := fn_back el (eq_of_beq q) ok r ex r'
        exact p Fz' .non H' x2 r2 .non
      | bk => exact p.elim
      | ct => exact p.elim
      | rt s =>
        intro Fz' v σ' H' ex r' rs
        obtain ⟨r2, x2, ow⟩ := fn_back el (eq_of_beq q) ok r ex r'
        refine p Fz' v H' x2 r2 ?_
        cases s with
        | fro d => exact rs
        | own l =>
          obtain ⟨a, ea, oa, nw, w⟩ := rs
          refine ⟨a, ea, oa, ?_, fun z => nw (ow a z)⟩
          rcases w with w | ⟨i, l2, ei, _⟩
          · exact w
          · have hi := args_mine ei rfl
            rw [args_get hi] at ei
            have := ok _ (List.mem_of_getElem? ei); cases this
        | emp => exact rs
        | io l => exact rs
/-- THE RULE for a def -/
theorem def_ok {P : Program} {w : World} {mg : Str → Option Value} {base : Heap} {x qual : Str} {params : Arguments} {body : List Stmt} {scope : Scope} {dvs : List V} {kws : List (Str × V)} {f : Addr} {fd : FuncData} {N ps : List Str} {j n k : Nat} {m : M Fl}
    (F : FunD G.K x qual params body scope dvs kws f fd) (S : FnScope N ps scope) (hn : ps.length = n) (hk : N.length = n + k)
    (hb : ∀ (cdv : Value) (A : Around) (outer : List Env) (s : Shared) (H : Hp) (E : XK), Room j (A.deeper (envOfC qual scope s.heap.objs.size f cdv)) → QSs G (cxOf (L2N.CX P w) P w G.K mg base N qual scope f cdv A outer s H E) (fun cls d _ H => E cls d H) body m) :
    FnOk P w G.K mg base (L2N.CX P w) (j + 1) f fd ps (spF G n (mFn k m)) := by
  refine F.ok S (fun vs H Q E ⟨Fz, args, r, ln, _⟩ => ?_) fun cdv A outer s H vs Q E hr h => ⟨_, hb cdv A outer s H E hr, fn_body hk h⟩
  have := r.len
  rw [List.length_map] at this
  omega

/-! ### a call -/
def argSlots (e : En) : List Ag → Option En
  | [] => some []
  | .v d :: as => (argSlots e as).map (.fro d :: ·)
  | .io i :: as => match myOb i e with
    | some l => (argSlots e as).map (.io l :: ·)
    | none => none
def ioIxs : List Ag → List Nat
  | [] => []
  | .v _ :: as => ioIxs as
  | .io i :: as => i :: ioIxs as
def putArgs : List Ag → En → En → En
  | .io i :: as, .io l :: args, e => putArgs as args (putOb i l e)
  | _ :: as, _ :: args, e => putArgs as args e
  | _, _, e => e
def finCall (as : List Ag) (e : En) : R Slot → R Slot
  | .ok s args' => .ok s (putArgs as args' e)
  | .err c fs args' => .err c fs (putArgs as args' e)
  | .bad => .bad
def mCall (F : M Slot) (n : M (List Ag)) : M Slot := n.bind fun as e => if decide (ioIxs as).Nodup then (match argSlots e as with
  | some args => finCall as e (F args)
  | none => .bad) else .bad
theorem argSlots_len : ∀ {as : List Ag} {args : En}, argSlots env as = some args → args.length = as.length
  | [], args, h => by simp only [argSlots, Option.some.injEq] at h; subst h; rfl
  | .v d :: as, args, h => by
    simp only [argSlots, Option.map_eq_some_iff] at h
    obtain ⟨r, e, rfl⟩ := h
    exact congrArg (· + 1) (argSlots_len e)
  | .io i :: as, args, h => by
    simp only [argSlots] at h
    cases q : myOb i env with
    | none => rw [q] at h; cases h
    | some l =>
      rw [q] at h
      simp only [Option.map_eq_some_iff] at h
      obtain ⟨r, e, rfl⟩ := h
      exact congrArg (· + 1) (argSlots_len e)
theorem argSlots_ok : ∀ {as : List Ag} {args : En}, argSlots env as = some args → ∀ s ∈ args, okArg s = true
  | [], args, h => by simp only [argSlots, Option.some.injEq] at h; subst h; exact fun s z => nomatch z
  | .v d :: as, args, h => by
    simp only [argSlots, Option.map_eq_some_iff] at h
    obtain ⟨r, e, rfl⟩ := h
    intro s hs
    rcases List.mem_cons.mp hs with rfl | hs
    · rfl
    · exact argSlots_ok e s hs
  | .io i :: as, args, h => by
    simp only [argSlots] at h
    cases q : myOb i env with
    | none => rw [q] at h; cases h
    | some l =>
      rw [q] at h
      simp only [Option.map_eq_some_iff] at h
      obtain ⟨r, e, rfl⟩ := h
      intro s hs
      rcases List.mem_cons.mp hs with rfl | hs
      · rfl
      · exact argSlots_ok e s hs
theorem argSlots_at : ∀ {as : List Ag} {args : En} {xs : List V} {j : Nat} {s : Slot}, AgR G Fz σ xs as → argSlots env as = some args → args[j]? = some s →
    ∃ v, xs[j]? = some v ∧ ((∃ d, as[j]? = some (.v d) ∧ s = .fro d ∧ Rep G Fz v d) ∨ ∃ i l, as[j]? = some (.io i) ∧ s = .io l ∧ myOb i env = some l ∧ σ[i]? = some (some v))
  | [], args, _, j, s, _, h, e => by simp only [argSlots, Option.some.injEq] at h; subst h; simp at e
  | .v d :: as, args, _, j, s, .v (x := x) r t, h, e => by
    simp only [argSlots, Option.map_eq_some_iff] at h
    obtain ⟨rr, e1, rfl⟩ := h
    cases j with
    | zero => simp at e; subst e; exact ⟨x, rfl, .inl ⟨d, rfl, rfl, r⟩⟩
    | succ j =>
      obtain ⟨v, h1, h2⟩ := argSlots_at t e1 (j := j) (s := s) (by simpa using e)
      exact ⟨v, by simpa using h1, by simpa using h2⟩
  | .io i :: as, args, _, j, s, .io (x := x) r t, h, e => by
    simp only [argSlots] at h
    cases q : myOb i env with
    | none => rw [q] at h; cases h
    | some l =>
      rw [q] at h
      simp only [Option.map_eq_some_iff] at h
      obtain ⟨rr, e1, rfl⟩ := h
      cases j with
      | zero => simp at e; subst e; exact ⟨x, rfl, .inr ⟨i, l, rfl, rfl, q, r⟩⟩
      | succ j =>
        obtain ⟨v, h1, h2⟩ := argSlots_at t e1 (j := j) (s := s) (by simpa using e)
        exact ⟨v, by simpa using h1, by simpa using h2⟩
theorem AgR.length {xs : List V} {as : List Ag} (h : AgR G Fz σ xs as) : xs.length = as.length := by
  induction h with
  | nil => rfl
  | v _ _ ih => exact congrArg (· + 1) ih
  | io _ _ ih => exact congrArg (· + 1) ih
theorem ioIxs_mem : ∀ {as : List Ag} {j i : Nat}, as[j]? = some (.io i) → i ∈ ioIxs as
  | .io k :: as, 0, i, h => by simp at h; subst h; exact List.mem_cons_self
  | .v d :: as, 0, i, h => by simp at h
  | .v d :: as, j + 1, i, h => ioIxs_mem (as := as) (j := j) (by simpa using h)
  | .io k :: as, j + 1, i, h => List.mem_cons_of_mem _ (ioIxs_mem (as := as) (j := j) (by simpa using h))
theorem ioIxs_inj : ∀ {as : List Ag} {j k i : Nat}, (ioIxs as).Nodup → as[j]? = some (.io i) → as[k]? = some (.io i) → j = k
  | .v d :: as, 0, _, i, _, h, _ => by simp at h
  | .v d :: as, _ + 1, 0, i, _, _, h => by simp at h
  | .v d :: as, j + 1, k + 1, i, n, h1, h2 => congrArg (· + 1) (ioIxs_inj (as := as) n (by simpa using h1) (by simpa using h2))
  | .io m :: as, 0, 0, i, _, _, _ => rfl
  | .io m :: as, 0, k + 1, i, n, h1, h2 => by
    simp at h1; subst h1
    exact absurd (ioIxs_mem (as := as) (j := k) (by simpa using h2)) (List.nodup_cons.mp n).1
  | .io m :: as, j + 1, 0, i, n, h1, h2 => by
    simp at h2; subst h2
    exact absurd (ioIxs_mem (as := as) (j := j) (by simpa using h1)) (List.nodup_cons.mp n).1
  | .io m :: as, j + 1, k + 1, i, n, h1, h2 => congrArg (· + 1) (ioIxs_inj (as := as) (List.nodup_cons.mp n).2 (by simpa using h1) (by simpa using h2))
theorem putOb_len {i : Nat} {l : Ob} : (putOb i l env).length = env.length := by
  unfold putOb
  split
  · rw [List.length_set]
  · rw [List.length_set]
  · rfl
theorem putOb_ne {i j : Nat} {l : Ob} (h : i ≠ j) : (putOb i l env)[j]? = env[j]? := by
  unfold putOb
  split
  · rw [List.getElem?_set_ne h]
  · rw [List.getElem?_set_ne h]
  · rfl
def likeOf : Slot → Ob → Slot
  | .own _, l => .own l
  | .io _, l => .io l
  | s, _ => s
theorem putOb_eq {i : Nat} {l : Ob} {s : Slot} (h : env[i]? = some s) : (putOb i l env)[i]? = some (likeOf s l) := by
  have hi := getElem?_lt h
  unfold putOb
  rw [h]
  cases s with
  | own l2 => exact List.getElem?_set_self hi
  | io l2 => exact List.getElem?_set_self hi
  | emp => exact h
  | fro d => exact h
theorem putArgs_len : ∀ {as : List Ag} {args e : En}, (putArgs as args e).length = e.length
  | [], _, _ => by cases ‹En› <;> rfl
  | .v d :: as, [], _ => rfl
  | .io i :: as, [], _ => rfl
  | .v d :: as, s :: args, e => by show (putArgs as args e).length = _; exact putArgs_len
  | .io i :: as, s :: args, e => by
    cases s with
    | io l => show (putArgs as args (putOb i l e)).length = _; rw [putArgs_len, putOb_len]
    | own l => show (putArgs as args e).length = _; exact putArgs_len
    | fro l => show (putArgs as args e).length = _; exact putArgs_len
    | emp => show (putArgs as args e).length = _; exact putArgs_len
theorem putArgs_out {j : Nat} : ∀ {as : List Ag} {args e : En}, j ∉ ioIxs as → (putArgs as args e)[j]? = e[j]?
  | [], args, _, _ => by cases args <;> rfl
  | .v d :: as, [], _, _ => rfl
  | .io i :: as, [], _, _ => rfl
  | .v d :: as, s :: args, e, h => by show (putArgs as args e)[j]? = _; exact putArgs_out h
  | .io i :: as, s :: args, e, h => by
    have h1 : i ≠ j := fun z => h (by rw [z]; exact List.mem_cons_self)
    have h2 : j ∉ ioIxs as := fun z => h (List.mem_cons_of_mem _ z)
    cases s with
    | io l => show (putArgs as args (putOb i l e))[j]? = _; rw [putArgs_out h2, putOb_ne h1]
    | own l => show (putArgs as args e)[j]? = _; exact putArgs_out h2
    | fro l => show (putArgs as args e)[j]? = _; exact putArgs_out h2
    | emp => show (putArgs as args e)[j]? = _; exact putArgs_out h2
theorem putArgs_in {i k : Nat} {l : Ob} {s : Slot} : ∀ {as : List Ag} {args e : En}, (ioIxs as).Nodup → as[k]? = some (.io i) → args[k]? = some (.io l) → e[i]? = some s → (putArgs as args e)[i]? = some (likeOf s l)
  | [], _, _, _, h, _, _ => by simp at h
  | _ :: _, [], _, _, _, h, _ => by simp at h
  | a :: as, t :: args, e, n, h1, h2, h3 => by
    cases k with
    | zero =>
      simp at h1 h2; subst h1 h2
      show (putArgs as args (putOb i l e))[i]? = _
      rw [putArgs_out (List.nodup_cons.mp n).1, putOb_eq h3]
    | succ k =>
      have h1' : as[k]? = some (.io i) := by simpa using h1
      have h2' : args[k]? = some (.io l) := by simpa using h2
      cases a with
      | v d => show (putArgs as args e)[i]? = _; exact putArgs_in n h1' h2' h3
      | io m =>
        have n' := List.nodup_cons.mp n
        have mi : m ≠ i := fun z => n'.1 (by rw [z]; exact ioIxs_mem h1')
        cases t with
        | io l2 => show (putArgs as args (putOb m l2 e))[i]? = _; exact putArgs_in n'.2 h1' h2' (by rw [putOb_ne mi]; exact h3)
        | own l2 => show (putArgs as args e)[i]? = _; exact putArgs_in n'.2 h1' h2' h3
        | fro l2 => show (putArgs as args e)[i]? = _; exact putArgs_in n'.2 h1' h2' h3
        | emp => show (putArgs as args e)[i]? = _; exact putArgs_in n'.2 h1' h2' h3
theorem myOb_slot {i : Nat} {l : Ob} (h : myOb i env = some l) : ∃ s, env[i]? = some s ∧ (s = .own l ∨ s = .io l) := by
  unfold myOb at h
  cases e : env[i]? with
  | none => rw [e] at h; cases h
  | some s =>
    rw [e] at h
    cases s with
    | own l2 => cases h; exact ⟨_, rfl, .inl rfl⟩
    | io l2 => cases h; exact ⟨_, rfl, .inr rfl⟩
    | emp => cases h
    | fro d => cases h
theorem args_rel {as : List Ag} {args : En} {xs : List V} (r : RelS G Fz σ H env) (ra : AgR G Fz σ xs as) (n : (ioIxs as).Nodup) (h : argSlots env as = some args) : RelS G Fz (xs.map some) H args ∧ ∀ q, Own (xs.map some) args q → Own σ env q := by
  have ln := argSlots_len h
  have lx := ra.length
  have ow : ∀ (j : Nat) (s : Slot) (q : Addr), args[j]? = some s → s.mine = true → (xs.map some)[j]? = some (some (.ref q)) → ∃ (i : Nat) (t : Slot), as[j]? = some (Ag.io i) ∧ env[i]? = some t ∧ t.mine = true ∧ σ[i]? = some (some (.ref q)) := fun j s q e m z => by
    obtain ⟨v, h1, h2⟩ := argSlots_at ra h e
    rw [List.getElem?_map, h1] at z
    simp only [Option.map_some, Option.some.injEq] at z
    subst z
    rcases h2 with ⟨d, _, rfl, _⟩ | ⟨i, l, h3, rfl, h5, h6⟩
    · cases m
    · obtain ⟨t, e2, e3⟩ := myOb_slot h5
      exact ⟨i, t, h3, e2, by rcases e3 with rfl | rfl <;> rfl, h6⟩
  refine ⟨⟨r.sub, by rw [List.length_map]; omega, fun j s e => ?_, fun i j si sj b ei ej mi mj qi qj => ?_, r.hot⟩, fun q ⟨j, s, e, m, z⟩ => ?_⟩
  · obtain ⟨v, h1, h2⟩ := argSlots_at ra h e
    refine ⟨some v, by rw [List.getElem?_map, h1]; rfl, ?_⟩
    rcases h2 with ⟨d, _, rfl, rv⟩ | ⟨i, l, h3, rfl, h5, h6⟩
    · exact ⟨v, rfl, rv⟩
    · obtain ⟨a, s2, e2, _, ea, oa⟩ := ob_at r h5
      rw [h6] at ea; cases ea
      exact ⟨a, rfl, oa⟩
  · obtain ⟨i2, t2, a1, a2, a3, a4⟩ := ow i si b ei mi qi
    obtain ⟨j2, t3, b1, b2, b3, b4⟩ := ow j sj b ej mj qj
    have := r.sep i2 j2 t2 t3 b a2 b2 a3 b3 a4 b4
    subst this
    exact ioIxs_inj n a1 b1
  · obtain ⟨i, t, _, a2, a3, a4⟩ := ow j s q e m z
    exact ⟨i, t, a2, a3, a4⟩
theorem mem_ioIxs : ∀ {as : List Ag} {i : Nat}, i ∈ ioIxs as → ∃ k : Nat, as[k]? = some (Ag.io i)
  | .v d :: as, i, h => let ⟨k, e⟩ := mem_ioIxs (as := as) h; ⟨k + 1, by simpa using e⟩
  | .io m :: as, i, h => by
    rcases List.mem_cons.mp h with rfl | h
    · exact ⟨0, rfl⟩
    · obtain ⟨k, e⟩ := mem_ioIxs (as := as) h
      exact ⟨k + 1, by simpa using e⟩
/-- behind the call -/
theorem call_back {as : List Ag} {args args' : En} {xs : List V} {Fz' H' : Hp} (r : RelS G Fz σ H env) (ra : AgR G Fz σ xs as) (n : (ioIxs as).Nodup) (h : argSlots env as = some args)
    (x : Ext Fz (xs.map some) args H Fz' (xs.map some) args' H') (r' : RelS G Fz' (xs.map some) H' args') : RelS G Fz' σ H' (putArgs as args' env) ∧ Ext Fz σ env H Fz' σ (putArgs as args' env) H' ∧ ∀ q, Own σ (putArgs as args' env) q → Own σ env q := by
  have ow0 := (args_rel r ra n h).2
  have lp : (putArgs as args' env).length = env.length := putArgs_len
  have inn : ∀ (j : Nat) (s : Slot), j ∈ ioIxs as → (putArgs as args' env)[j]? = some s → ∃ (s0 : Slot) (l l' : Ob) (k : Nat) (a : Addr), env[j]? = some s0 ∧ (s0 = .own l ∨ s0 = .io l) ∧ s = likeOf s0 l' ∧ args'[k]? = some (.io l') ∧ σ[j]? = some (some (.ref a)) ∧ (xs.map some)[k]? = some (some (.ref a)) := fun j s hj ej => by
    obtain ⟨k, ek⟩ := mem_ioIxs hj
    have hk : k < args.length := by rw [argSlots_len h]; exact getElem?_lt ek
    obtain ⟨v, h1, h2⟩ := argSlots_at ra h (List.getElem?_eq_getElem hk)
    rcases h2 with ⟨d, h3, _, _⟩ | ⟨i, l, h3, h4, h5, h6⟩
    · rw [ek] at h3; cases h3
    · rw [ek] at h3; cases h3
      obtain ⟨s0, e2, e3⟩ := myOb_slot h5
      obtain ⟨a, _, _, _, ea, _⟩ := ob_at r h5
      rw [h6] at ea; cases ea
      obtain ⟨⟨l', q1⟩, _⟩ := x.ios k l (by rw [← h4]; exact List.getElem?_eq_getElem hk)
      have := putArgs_in n ek q1 e2
      rw [ej] at this; cases this
      exact ⟨s0, l, l', k, a, e2, e3, rfl, q1, h6, by rw [List.getElem?_map, h1]; rfl⟩
  have like_mine : ∀ (s0 : Slot) (l l' : Ob), (s0 = Slot.own l ∨ s0 = Slot.io l) → (likeOf s0 l').mine = s0.mine := fun s0 l l' e => by rcases e with rfl | rfl <;> rfl
  have ow : ∀ q, Own σ (putArgs as args' env) q → Own σ env q := fun q ⟨j, s, ej, m, z⟩ => by
    by_cases hj : j ∈ ioIxs as
    · obtain ⟨s0, l, l', k, a, e1, e2, e3, _⟩ := inn j s hj ej
      exact ⟨j, s0, e1, by rw [← like_mine s0 l l' e2, ← e3]; exact m, z⟩
    · rw [putArgs_out hj] at ej
      exact ⟨j, s, ej, m, z⟩
  have other : ∀ (j : Nat) (s : Slot) (a : Addr), j ∉ ioIxs as → env[j]? = some s → s.mine = true → σ[j]? = some (some (.ref a)) → ¬ Own (xs.map some) args a := fun j s a hj ej m z ⟨k, t, ek, mk, zk⟩ => by
    obtain ⟨v, h1, h2⟩ := argSlots_at ra h ek
    rw [List.getElem?_map, h1] at zk
    simp only [Option.map_some, Option.some.injEq] at zk
    subst zk
    rcases h2 with ⟨d, _, rfl, _⟩ | ⟨i, l, h3, rfl, h5, h6⟩
    · cases mk
    · obtain ⟨t0, e2, e3⟩ := myOb_slot h5
      have := r.sep j i s t0 a ej e2 m (by rcases e3 with rfl | rfl <;> rfl) z h6
      subst this
      exact hj (ioIxs_mem h3)
  refine ⟨⟨r'.sub, by rw [lp]; exact r.len, fun j s ej => ?_, fun i j si sj b ei ej mi mj qi qj => ?_, r'.hot⟩, ⟨x.sub, fun p o e0 w => ?_, fun j l ej => ?_, x.live⟩, ow⟩
  · by_cases hj : j ∈ ioIxs as
    · obtain ⟨s0, l, l', k, a, e1, e2, e3, e4, e5, e6⟩ := inn j s hj ej
      refine ⟨_, e5, ?_⟩
      obtain ⟨o, q1, b, q2, q3⟩ := r'.at_ k _ e4
      rw [e6] at q1; cases q1; cases q2
      subst e3
      rcases e2 with rfl | rfl
      · exact ⟨a, rfl, q3⟩
      · exact ⟨a, rfl, q3⟩
    · rw [putArgs_out hj] at ej
      obtain ⟨o, h1, h2⟩ := r.at_ j s ej
      refine ⟨o, h1, ?_⟩
      have keepO : ∀ l a, s.mine = true → o = some (V.ref a) → OwnAt G Fz H l a → OwnAt G Fz' H' l a := fun l a m eo oa => by
        subst eo
        obtain ⟨⟨u, ha⟩, nF⟩ := oa.obj
        obtain ⟨k1, _, k3⟩ := x.keep a _ ha (other j s a hj ej m h1)
        exact oa.mono x.sub (k3 nF) fun u2 e2 => by rw [ha] at e2; cases e2; exact k1
      cases s with
      | emp => trivial
      | fro d => obtain ⟨v, ev, rv⟩ := h2; exact ⟨v, ev, rv.mono x.sub⟩
      | own l => obtain ⟨a, eo, oa⟩ := h2; exact ⟨a, eo, keepO l a rfl eo oa⟩
      | io l => obtain ⟨a, eo, oa⟩ := h2; exact ⟨a, eo, keepO l a rfl eo oa⟩
  · have back : ∀ (j : Nat) (s : Slot), (putArgs as args' env)[j]? = some s → Slot.mine s = true → ∃ s0, env[j]? = some s0 ∧ Slot.mine s0 = true := fun j s ej m => by
      by_cases hj : j ∈ ioIxs as
      · obtain ⟨s0, l, l', k, a, e1, e2, e3, _⟩ := inn j s hj ej
        exact ⟨s0, e1, by rw [← like_mine s0 l l' e2, ← e3]; exact m⟩
      · rw [putArgs_out hj] at ej
        exact ⟨s, ej, m⟩
    obtain ⟨s1, e1, m1⟩ := back i si ei mi
    obtain ⟨s2, e2, m2⟩ := back j sj ej mj
    exact r.sep i j s1 s2 b e1 e2 m1 m2 qi qj
  · obtain ⟨k1, k2, k3⟩ := x.keep p o e0 fun z => w (ow0 p z)
    exact ⟨k1, fun z => w (ow p z), k3⟩
  · by_cases hj : j ∈ ioIxs as
    · have hl : j < (putArgs as args' env).length := by rw [lp]; exact getElem?_lt ej
      obtain ⟨s0, l1, l', k, a, e1, e2, e3, _⟩ := inn j _ hj (List.getElem?_eq_getElem hl)
      rw [ej] at e1; cases e1
      rcases e2 with e2 | e2
      · cases e2
      · exact ⟨⟨l', by rw [List.getElem?_eq_getElem hl, e3]; rfl⟩, rfl⟩
    · exact ⟨⟨l, by rw [putArgs_out hj]; exact ej⟩, rfl⟩
theorem call_sp {n : Nat} {F : M Slot} {as : List Ag} {xs : List V} {Q : VK} (hn : as.length = n) (r : RelS G Fz σ H env) (ra : AgR G Fz σ xs as)
    (p : Post rpS G W Fz σ env H Q ((fun e => if decide (ioIxs as).Nodup then (match argSlots e as with | some args => finCall as e (F args) | none => .bad) else .bad : M Slot) env)) : spF G n F xs H Q (fun cls x H => W cls x σ H) := by
  dsimp only at p
  by_cases nd : (ioIxs as).Nodup
  · rw [decide_eq_true nd] at p
    simp only [if_true] at p
    cases e : argSlots env as with
    | none => rw [e] at p; exact p.elim
    | some args =>
      rw [e] at p
      dsimp only at p
      obtain ⟨ra2, ow0⟩ := args_rel r ra nd e
      refine ⟨Fz, args, ra2, by rw [argSlots_len e]; exact hn, argSlots_ok e, ?_⟩
      cases ef : F args with
      | bad => rw [ef] at p; exact p
      | err c fs args' =>
        rw [ef] at p
        intro Fz' H' cls y x' r' er
        obtain ⟨r2, x2, _⟩ := call_back r ra nd e x' r'
        exact p Fz' H' cls y x2 r2 er
      | ok s args' =>
        rw [ef] at p
        intro Fz' v H' x' r' rs
        obtain ⟨r2, x2, ow⟩ := call_back r ra nd e x' r'
        refine p Fz' v H' x2 r2 ?_
        cases s with
        | own l =>
          obtain ⟨a, ea, oa, n0, nw⟩ := rs
          exact ⟨a, ea, oa, n0, fun z => by
            obtain ⟨⟨vs, hh⟩, _⟩ := r.ownObj (ow a z)
            rw [n0] at hh; cases hh⟩
        | fro d => exact rs
        | emp => exact rs
        | io l => exact rs
  · rw [decide_eq_false nd] at p
    exact p.elim
theorem qo_call {F : M Slot} {n : Nat} {m : M (List Ag)} {k : Nat} {f : Addr} {fd : FuncData} {ps : List Str} (Fo : FnOk X.prog X.w X.K X.mg X.base (L2N.CX X.prog X.w) k f fd ps (spF G n F)) (hr : Room k X.A) (hg : Gl X x) (hm : X.mg x = some (.ref f)) (hk : PySem.W.keepIn X.K (.ref f) = true) (hb : Binds X.K fd ps [])
    (hx : ∀ σ, PassesAt (L2N.CX X.prog X.w) X σ (WE W σ)) (ha : QAg G X W (e :: es) m) (hl : ∀ env as e', m env = .ok as e' → as.length = n)
    (hdb : (x == ("__debug__" : Str)) = false := by decide) (he : starEach (e :: es) X.env = (false, eval e X.env) :: starEach es X.env := by rfl) (hpl : (backTo pos (starEach es X.env)).any (·.1) = false := by rfl) :
    QO G X W (.Call (.Name x p) (e :: es) [] pos) (mCall F m) :=
  PE_imp (pe_callS Fo hr hg hm hk hb hx ha hdb he hpl) fun σ H Q q => by
    obtain ⟨Fz, env, r, hh, p⟩ := q
    refine ⟨Fz, env, r, hh, ?_⟩
    unfold mCall M.bind at p
    cases e0 : m env with
    | bad => rw [e0] at p; exact p
    | err c fs e1 => rw [e0] at p; exact p
    | ok as e1 =>
      rw [e0] at p
      intro Fz1 xs H1 x1 r1 ra
      exact call_sp (hl env as e1 e0) r1 ra (Post.then_ (α := Slot) backS x1 p)
theorem len_agNil {env : En} {as : List Ag} {e' : En} (h : agNil env = .ok as e') : as.length = 0 := by cases h; rfl
theorem len_agV {n : M (List Ag)} {k : Nat} (h : ∀ env as e', n env = .ok as e' → as.length = k) : ∀ env as e', agV ma n env = .ok as e' → as.length = k + 1 := fun env as e' q => by
  unfold agV M.bind at q
  cases e0 : ma env with
  | bad => rw [e0] at q; cases q
  | err c fs e1 => rw [e0] at q; cases q
  | ok d e1 =>
    rw [e0] at q
    dsimp only at q
    cases e2 : n e1 with
    | bad => rw [e2] at q; cases q
    | err c fs e3 => rw [e2] at q; cases q
    | ok as1 e3 => rw [e2] at q; cases q; exact congrArg (· + 1) (h _ _ _ e2)
theorem len_agIo {n : M (List Ag)} {i k : Nat} (h : ∀ env as e', n env = .ok as e' → as.length = k) : ∀ env as e', agIo i n env = .ok as e' → as.length = k + 1 := fun env as e' q => by
  unfold agIo at q
  cases e0 : myOb i env with
  | none => rw [e0] at q; cases q
  | some l =>
    rw [e0] at q
    dsimp only [M.bind] at q
    cases e2 : n env with
    | bad => rw [e2] at q; cases q
    | err c fs e3 => rw [e2] at q; cases q
    | ok as1 e3 => rw [e2] at q; cases q; exact congrArg (· + 1) (h _ _ _ e2)
theorem pass_w0 {X : Cx} : ∀ σ, PassesAt (L2N.CX X.prog X.w) X σ (WE W0 σ) := fun σ _ _ _ _ _ _ c => by
  obtain ⟨_, _, _, _, _, _, _, _, _, _, _, _, h⟩ := c
  exact h.elim
end
end Eng

end
section
set_option Elab.async false
set_option linter.all false
set_option autoImplicit false
set_option maxRecDepth 100000
set_option maxHeartbeats 2000000
namespace Eng
open PySem PySem.Spec L2
open PyProof.Rows hiding St

/-! ### instances -/
def insD (c : Nat) : D → M D
  | .ins c' l => if c' = c then M.pure (.ins c' l) else bad
  | _ => bad
def getF (c k : Nat) : D → M D
  | .ins c' l => if c' = c then (match l[k]? with
    | some d => M.pure d
    | none => bad) else bad
  | _ => bad
section
variable {G : Kx} {X : Cx} {W : WX} {e a b c tg iter elt o : Expr} {es ifs : List Expr} {pos p spos cpos apos pos' : Pos} {ma mb mc : M D} {x f : Str} {σ σ1 : St} {H H1 Fz Fz1 : Hp} {env env1 : En} {E E' : Ends} {hv : List (V × D)}
theorem lookup_zip {α : Type} : ∀ {names : List Str} {vs : List α} {k : Nat} {f : Str} {v : α}, names.Nodup → vs.length = names.length → names[k]? = some f → vs[k]? = some v → (names.zip vs).lookup f = some v
  | n :: ns, w :: vs, 0, f, v, _, _, h1, h2 => by
    simp at h1 h2; subst h1 h2
    simp [List.lookup]
  | n :: ns, w :: vs, k + 1, f, v, nd, hl, h1, h2 => by
    have nd' := List.nodup_cons.mp nd
    have h1' : ns[k]? = some f := by simpa using h1
    have ne : (f == n) = false := by
      have hm := List.mem_of_getElem? h1'
      have : f ≠ n := fun z => nd'.1 (z ▸ hm)
      simpa using this
    rw [List.zip_cons_cons, List.lookup_cons, ne]
    exact lookup_zip nd'.2 (by simpa using hl) h1' (by simpa using h2)
  | [], _, k, _, _, _, _, h, _ => by simp at h
  | _ :: _, [], k, _, _, _, hl, _, _ => by simp at hl
/-- e.f, a field -/
theorem qe_fld (hK : X.K = G.K) {c k : Nat} {C : Addr} {names : List Str} (hc : G.cs[c]? = some (C, names)) (hk : names[k]? = some f) (nd : names.Nodup) (ok : InsOk G.K C) (na : NoAttr G.K C f) (ha : QE G X W a ma) (hb : attributeBase a f X.env (eval a X.env) = eval a X.env := by rfl) : QE G X W (.Attribute a f pos) (ma.bind (getF c k)) :=
  PE_imp (pe_fld ha hb) fun σ H Q q => (tOf.bind_ backD q).mono fun x H1 ⟨d, Fz, env, rl, hh, q⟩ => by
    have rx : Rep G Fz x d := hh _ List.mem_cons_self
    rw [hK]
    cases rx with
    | @ins a C' dx c' names' vs ds h hc' hn r =>
      simp only [getF] at q
      by_cases ec : c' = c
      · subst ec
        rw [if_pos rfl] at q
        rw [hc] at hc'; cases hc'
        cases ed : ds[k]? with
        | none => rw [ed] at q; exact q.elim
        | some d =>
          rw [ed] at q
          obtain ⟨v, ev, rv⟩ := r.get' ed
          exact ⟨a, C, dx, _, v, rfl, rl.sub _ _ h, ok.cl, na, lookup_zip nd hn hk ev, q Fz v H1 (Ext.refl _ _ _ _) rl rv⟩
      · rw [if_neg ec] at q; exact q.elim
    | _ => exact q.elim

/-! ### calls by values -/
def mCallV (F : M Slot) (ds : List D) : M Slot := fun e => match F (ds.map .fro) with
  | .ok s _ => .ok s e
  | .err c fs _ => .err c fs e
  | .bad => .bad
theorem agv_rel : ∀ {xs : List V} {ds : List D}, Reps G Fz xs ds → AgR G Fz σ xs (ds.map .v)
  | _, _, .nil => .nil
  | _, _, .cons h t => .v h (agv_rel t)
theorem agv_slots : ∀ {ds : List D}, argSlots env (ds.map .v) = some (ds.map .fro)
  | [] => rfl
  | d :: ds => by simp only [List.map_cons, argSlots]; rw [agv_slots]; rfl
theorem agv_ix : ∀ {ds : List D}, ioIxs (ds.map .v) = []
  | [] => rfl
  | d :: ds => agv_ix (ds := ds)
theorem agv_put : ∀ {ds : List D} {args e : En}, putArgs (ds.map .v) args e = e
  | [], args, e => by cases args <;> rfl
  | d :: ds, [], e => rfl
  | d :: ds, s :: args, e => by show putArgs (ds.map .v) args e = e; exact agv_put
theorem call_spV {n : Nat} {F : M Slot} {ds : List D} {xs : List V} {Q : VK} (hn : ds.length = n) (r : RelS G Fz σ H env) (ra : Reps G Fz xs ds) (p : Post rpS G W Fz σ env H Q (mCallV F ds env)) : spF G n F xs H Q (fun cls x H => W cls x σ H) := by
  refine call_sp (as := ds.map .v) (by rw [List.length_map]; exact hn) r (agv_rel ra) ?_
  dsimp only
  rw [agv_ix, agv_slots]
  simp only [List.nodup_nil, decide_true, if_true]
  unfold mCallV at p
  cases e : F (ds.map .fro) with
  | bad => rw [e] at p; exact p
  | err c fs e1 => rw [e] at p; simp only [finCall, agv_put]; exact p
  | ok s e1 => rw [e] at p; simp only [finCall, agv_put]; exact p
def noErr {α : Type} (m : M α) : M α := fun e => match m e with
  | .ok a e' => .ok a e'
  | _ => .bad
theorem post_noErr {ω α : Type} {rp : RP ω α} {Q : ω → Hp → Prop} {m : M α} {W' : WX} (h : Post rp G W Fz σ env H Q (noErr m env)) : Post rp G W' Fz σ env H Q (m env) := by
  unfold noErr at h
  cases e : m env with
  | ok a e1 => rw [e] at h; exact h
  | err c fs e1 => rw [e] at h; exact h.elim
  | bad => rw [e] at h; exact h
def mProp (c : Nat) (F : M Slot) (m : M D) : M Slot := m.bind fun d => (insD c d).bind fun d => noErr (mCallV F [d])
theorem insD_of {α : Type} {rp : RP V α} {c : Nat} {C : Addr} {names : List Str} {f : D → M α} {d : D} {v : V} {Q : VK} (hc : G.cs[c]? = some (C, names)) (r : RelS G Fz σ H env) (rv : Rep G Fz v d) (p : Post rp G W Fz σ env H Q (((insD c d).bind f) env)) :
    ∃ a dx fs, v = .ref a ∧ H a = some (.ins C dx fs) ∧ Post rp G W Fz σ env H Q (f d env) := by
  cases rv with
  | @ins a C' dx c' names' vs ds h hc' hn rr =>
    simp only [insD] at p
    by_cases ec : c' = c
    · subst ec
      rw [if_pos rfl] at p
      rw [hc] at hc'; cases hc'
      exact ⟨a, dx, _, rfl, r.sub _ _ h, p⟩
    · rw [if_neg ec] at p; exact p.elim
  | _ => exact p.elim
theorem passN {X : Cx} : Passes (L2N.CX X.prog X.w) X E0 := fun _ _ _ _ _ _ _ h => by
  obtain ⟨_, _, _, _, _, _, _, _, _, _, _, _, z⟩ := h
  exact z.elim
/-- e.f, a property -/
theorem qo_prop (hK : X.K = G.K) {c k : Nat} {C pa g : Addr} {names ps : List Str} {fd : FuncData} {F : M Slot} (hc : G.cs[c]? = some (C, names)) (ok : InsOk G.K C) (hp : PropOf X.K C f pa g) (Fo : FnOk X.prog X.w X.K X.mg X.base (L2N.CX X.prog X.w) k g fd ps (spF G 1 F)) (hr : Room (k + 1) X.A) (hb : Binds X.K fd ps []) (ha : QE G X W a ma)
    (hab : attributeBase a f X.env (eval a X.env) = eval a X.env := by rfl) : QO G X W (.Attribute a f pos) (mProp c F ma) :=
  PE_imp (pe_prop ha (by rw [hK]; exact ok.cl) hp Fo hr hb .nil (passN (X := X.nox)) hab) fun σ H Q q => (tOf.bind_ backS q).mono fun x H1 ⟨d, Fz, env, rl, hh, q⟩ => by
    have rx : Rep G Fz x d := hh _ List.mem_cons_self
    obtain ⟨a, dx, fs, rfl, h1, h2⟩ := insD_of hc rl rx q
    refine ⟨a, dx, fs, rfl, h1, ?_⟩
    exact call_spV (W := fun _ _ _ _ => False) rfl rl (.cons rx .nil) (post_noErr h2)

/-! ### operators of an own class -/
theorem inst_at {pins : List (Addr × Obj)} {s : Shared} {C dx a : Addr} {fs : List (Str × V)} (I : Inv X pins σ H s) (e : H a = some (.ins C dx fs)) : ∃ od, PySem.W.InstAt s.heap a (PySem.W.instObj C dx) C (some od) := by
  obtain ⟨mA, O, _⟩ := ins_get I.hok e
  obtain ⟨od, J, _⟩ := O.look
  exact ⟨od, J⟩
variable {CX : CXT} {sp : Sp} {EW : St → XK} {k : Nat} {g C : Addr} {fd : FuncData} {ps : List Str} {ta tb : TE}
theorem cmpback' {P : Value → Shared → Prop} {z : V} {v : Value} {s' : Shared} (r : RelV z v) (h : P v s') : PySem.W.CmpBack P v s' := by
  cases z with
  | non => cases (show v = Value.none from r); exact h
  | bl b => cases (show v = Value.bool b from r); exact h
  | int i => obtain ⟨t, rfl⟩ := r; exact h
  | str i => obtain ⟨t, rfl⟩ := r; exact h
  | byt i => obtain ⟨t, rfl⟩ := r; exact h
  | flt i => obtain ⟨t, rfl⟩ := r; exact h
  | ref a => cases (show v = Value.ref a from r); exact h
  | ty n => cases (show v = Value.type n from r); exact h
/-- an own method is called on values -/
theorem run_own {pins : List (Addr × Obj)} {s : Shared} {Q : VK} {us : List Value} {vs : List V} (F : FnOk X.prog X.w X.K X.mg X.base CX k g fd ps sp) (hr : Room k X.A) (hb : Binds X.K fd ps []) (hx : PassesAt CX X σ (EW σ)) (I : Inv X pins σ H s) (r : Vals vs us) (h : sp vs H Q (EW σ)) :
    wpAny (model X.prog X.w) X.A (call (.ref g) us) (PySem.W.CmpBack (EP X pins σ Q)) X.xe s :=
  thn (run_fnS F hr hb hx I r h) fun u s' ⟨v, H', I', rv, q⟩ => cmpback' rv ⟨v, H', I', rv, q⟩
def tInv (C : Addr) (sp : Sp) (EW : St → XK) (ta : TE) : TE := fun σ H Q => ta σ H fun x H1 => ∃ a dx fs, x = .ref a ∧ H1 a = some (.ins C dx fs) ∧ sp [x] H1 Q (EW σ)
theorem pe_inv (hs : PySem.W.findIn X.K (.ref C) "__invert__" = some (some (.ref g))) (hf : PySem.W.isFn X.K (.ref g) = true) (F : FnOk X.prog X.w X.K X.mg X.base CX k g fd ps sp) (hr : Room k X.A) (hb : Binds X.K fd ps []) (hx : ∀ σ, PassesAt CX X σ (EW σ)) (ha : PE X a ta) : PE X (.UnaryOp .Invert a pos) (tInv C sp EW ta) := by
  refine ⟨fun pins s σ H Q I h => ?_⟩
  refine UnaryOp_ (thn (ha.run pins s σ H _ I h) fun v s1 ⟨x, H1, I1, r1, a, dx, fs, ex, ea, q⟩ => ?_)
  subst ex
  obtain rfl : v = Value.ref a := r1
  obtain ⟨od, J⟩ := inst_at I1 ea
  obtain ⟨m, hF⟩ := I1.fr
  exact PySem.W.ksp_inv hF I1.ok.mod.kin J hs hf (run_fnS (vs := [.ref a]) F hr hb (hx σ) I1 (.cons rfl .nil) q)
def tBinO (C : Addr) (sp : Sp) (EW : St → XK) (ta tb : TE) : TE := fun σ H Q => ta σ H fun x H1 => tb σ H1 fun y H2 => ∃ a dx fs b dy gs, x = .ref a ∧ H2 a = some (.ins C dx fs) ∧ y = .ref b ∧ H2 b = some (.ins C dy gs) ∧ sp [x, y] H2 Q (EW σ)
theorem pe_binO {op : Operator} (hc : PySem.W.selfFirst X.K C = true) (hs : PySem.W.findIn X.K (.ref C) (PySem.dunder op.info.2) = some (some (.ref g))) (hf : PySem.W.isFn X.K (.ref g) = true) (F : FnOk X.prog X.w X.K X.mg X.base CX k g fd ps sp) (hr : Room k X.A) (hb : Binds X.K fd ps []) (hx : ∀ σ, PassesAt CX X σ (EW σ))
    (ha : PE X a ta) (hbb : PE X b tb) : PE X (.BinOp a op b pos) (tBinO C sp EW ta tb) := by
  refine ⟨fun pins s σ H Q I h => ?_⟩
  refine wpAny_BinOp (bin ha hbb I h fun v u s2 x y H2 I2 rx ry ⟨a, dx, fs, b, dy, gs, ex, ea, ey, eb, q⟩ => ?_)
  subst ex ey
  obtain rfl : v = Value.ref a := rx
  obtain rfl : u = Value.ref b := ry
  obtain ⟨od, J⟩ := inst_at I2 ea
  obtain ⟨od', J'⟩ := inst_at I2 eb
  obtain ⟨m, hF⟩ := I2.fr
  exact PySem.W.binop_K hF I2.ok.mod.kin J J'.type hc hs hf (run_own (vs := [.ref a, .ref b]) F hr hb (hx σ) I2 (.cons rfl (.cons rfl .nil)) q)
theorem pe_cmpO {op : CmpOp} (hop : ∀ a b, compareOp op a b = richCompare op a b) (hm : behindInMarks op b = false) (hnf : PySem.W.notFirst X.K C (.ref C) = true) (hs : PySem.W.findIn X.K (.ref C) (cmpInfo op).2.1 = some (some (.ref g))) (hf : PySem.W.isFn X.K (.ref g) = true) (F : FnOk X.prog X.w X.K X.mg X.base CX k g fd ps sp) (hr : Room k X.A) (hb : Binds X.K fd ps []) (hx : ∀ σ, PassesAt CX X σ (EW σ))
    (ha : PE X a ta) (hbb : PE X b tb) : PC X op a b (tBinO C sp EW ta tb) := by
  refine ⟨fun pins s σ H Q I h => ?_⟩
  refine bin ha hbb I h fun v u s2 x y H2 I2 rx ry ⟨a, dx, fs, b, dy, gs, ex, ea, ey, eb, q⟩ => ?_
  subst ex ey
  obtain rfl : v = Value.ref a := rx
  obtain rfl : u = Value.ref b := ry
  obtain ⟨od, J⟩ := inst_at I2 ea
  obtain ⟨od', J'⟩ := inst_at I2 eb
  obtain ⟨m, hF⟩ := I2.fr
  rw [hop]
  exact PySem.W.cmp_K hr.units0 hF I2.ok.mod.kin J J'.type hnf hs hf (run_own (vs := [.ref a, .ref b]) F hr hb (hx σ) I2 (.cons rfl (.cons rfl .nil)) q)
def mInv (c : Nat) (F : M Slot) (m : M D) : M Slot := m.bind fun d => (insD c d).bind fun d => mCallV F [d]
theorem qo_inv (hK : X.K = G.K) {c : Nat} {names : List Str} {F : M Slot} (hc : G.cs[c]? = some (C, names)) (hs : PySem.W.findIn X.K (.ref C) "__invert__" = some (some (.ref g))) (hf : PySem.W.isFn X.K (.ref g) = true) (Fo : FnOk X.prog X.w X.K X.mg X.base (L2N.CX X.prog X.w) k g fd ps (spF G 1 F)) (hr : Room k X.A) (hb : Binds X.K fd ps []) (hx : ∀ σ, PassesAt (L2N.CX X.prog X.w) X σ (WE W σ)) (ha : QE G X W a ma) :
    QO G X W (.UnaryOp .Invert a pos) (mInv c F ma) :=
  PE_imp (pe_inv hs hf Fo hr hb hx ha) fun σ H Q q => (tOf.bind_ backS q).mono fun x H1 ⟨d, Fz, env, rl, hh, q⟩ => by
    have rx : Rep G Fz x d := hh _ List.mem_cons_self
    obtain ⟨a, dx, fs, rfl, h1, h2⟩ := insD_of hc rl rx q
    exact ⟨a, dx, fs, rfl, h1, call_spV rfl rl (.cons rx .nil) h2⟩
def mBinO (c : Nat) (F : M Slot) (m n : M D) : M Slot := m.bind fun d => n.bind fun d' => (insD c d).bind fun d => (insD c d').bind fun d' => mCallV F [d, d']
theorem t_binO {c : Nat} {names : List Str} {F : M Slot} (hc : G.cs[c]? = some (C, names)) {Q : VK} (q : tOf rpS G W [] (mBinO c F ma mb) σ H Q) : tBinO C (spF G 2 F) (WE W) (tOf rpD G W [] ma) (tOf rpD G W [] mb) σ H Q :=
  (tOf.bind_ backS q).mono fun x H1 ⟨d, q1⟩ => (tOf.bind_ backS q1).mono fun y H2 ⟨d', Fz, env, rl, hh, q⟩ => by
    have ry : Rep G Fz y d' := hh (y, d') List.mem_cons_self
    have rx : Rep G Fz x d := hh (x, d) (List.mem_cons_of_mem _ List.mem_cons_self)
    obtain ⟨a, dx, fs, rfl, h1, h2⟩ := insD_of hc rl rx q
    obtain ⟨b, dy, gs, rfl, h3, h4⟩ := insD_of hc rl ry h2
    exact ⟨a, dx, fs, b, dy, gs, rfl, h1, rfl, h3, call_spV rfl rl (.cons rx (.cons ry .nil)) h4⟩
theorem qo_binO {op : Operator} {c : Nat} {names : List Str} {F : M Slot} (hc : G.cs[c]? = some (C, names)) (hsf : PySem.W.selfFirst X.K C = true) (hs : PySem.W.findIn X.K (.ref C) (PySem.dunder op.info.2) = some (some (.ref g))) (hf : PySem.W.isFn X.K (.ref g) = true) (Fo : FnOk X.prog X.w X.K X.mg X.base (L2N.CX X.prog X.w) k g fd ps (spF G 2 F)) (hr : Room k X.A) (hb : Binds X.K fd ps []) (hx : ∀ σ, PassesAt (L2N.CX X.prog X.w) X σ (WE W σ)) (ha : QE G X W a ma) (hbb : QE G X W b mb) :
    QO G X W (.BinOp a op b pos) (mBinO c F ma mb) :=
  PE_imp (pe_binO hsf hs hf Fo hr hb hx ha hbb) fun σ H Q q => t_binO hc q
theorem qo_eqO {c : Nat} {names : List Str} {F : M Slot} (hc : G.cs[c]? = some (C, names)) (hnf : PySem.W.notFirst X.K C (.ref C) = true) (hs : PySem.W.findIn X.K (.ref C) "__eq__" = some (some (.ref g))) (hf : PySem.W.isFn X.K (.ref g) = true) (Fo : FnOk X.prog X.w X.K X.mg X.base (L2N.CX X.prog X.w) k g fd ps (spF G 2 F)) (hr : Room k X.A) (hb : Binds X.K fd ps []) (hx : ∀ σ, PassesAt (L2N.CX X.prog X.w) X σ (WE W σ)) (ha : QE G X W a ma) (hbb : QE G X W b mb) :
    QO G X W (.Compare a [.Eq] [b] pos) (mBinO c F ma mb) :=
  PE_imp (pe_cmp (pe_cmpO (op := .Eq) (fun _ _ => rfl) (nobehind _ (by decide) (by decide)) hnf hs hf Fo hr hb hx ha hbb) (nobehind _ (by decide) (by decide))) fun σ H Q q => t_binO hc q

/-! ### an instance is made -/
def putFD (f : Str) (d : D) : List (Str × D) → List (Str × D)
  | [] => [(f, d)]
  | (g, x) :: r => if g = f then (g, d) :: r else (g, x) :: putFD f d r
theorem putF_rel {f : Str} {v : V} {d : D} (rv : Rep G Fz v d) : ∀ {vs : List (Str × V)} {ds : List (Str × D)}, vs.map (·.1) = ds.map (·.1) → Reps G Fz (vs.map (·.2)) (ds.map (·.2)) → (putF f v vs).map (·.1) = (putFD f d ds).map (·.1) ∧ Reps G Fz ((putF f v vs).map (·.2)) ((putFD f d ds).map (·.2))
  | [], [], _, _ => ⟨rfl, .cons rv .nil⟩
  | (g, w) :: vs, (g', d') :: ds, e, .cons h t => by
    simp only [List.map_cons, List.cons.injEq] at e
    obtain ⟨rfl, e⟩ := e
    simp only [putF, putFD]
    by_cases hg : g = f
    · rw [if_pos hg, if_pos hg]
      exact ⟨by simp [e], .cons rv t⟩
    · rw [if_neg hg, if_neg hg]
      obtain ⟨h1, h2⟩ := putF_rel rv e t
      exact ⟨by simp [h1], .cons h h2⟩
  | [], _ :: _, e, _ => by simp at e
  | _ :: _, [], e, _ => by simp at e
/-- self.f = e -/
def mPutF (i c : Nat) (f : Str) (m : M D) : M Fl := m.bind fun d e => match myOb i e with
  | some (.o c' fs) => if c' = c ∧ fs.length < 1000 then .ok .nx (putOb i (.o c (putFD f d fs)) e) else .bad
  | _ => .bad
theorem qs_putF (hK : X.K = G.K) (i : Nat) {c : Nat} {names : List Str} (hc : G.cs[c]? = some (C, names)) (ok : InsOk G.K C) (na : NoAttr G.K C f) (ho : PE X o (tVar i)) (hv : QE G X W e ma) (hs : swapsWith e (some (.Attribute o f pos')) pos.line X.env = pure false := by rfl) : QS G X W (.Assign [.Attribute o f pos'] e pos) (mPutF i c f ma) :=
  PS_imp (ps_fld ho hv hs) fun E σ H ⟨Fz, env, r, p⟩ => ⟨Fz, env, r, (fun _ z => nomatch z), by
    unfold mPutF M.bind at p
    cases em : ma env with
    | bad => rw [em] at p; exact p
    | err c fs e => rw [em] at p; exact fun Fz' H' cls y x r k => p Fz' σ H' cls y x r k
    | ok d e1 =>
      rw [em] at p
      intro Fz1 v H1 x1 r1 rv
      have rv : Rep G Fz1 v d := rv
      dsimp only at p
      cases e0 : myOb i e1 with
      | none => rw [e0] at p; exact p.elim
      | some ob =>
        rw [e0] at p
        cases ob with
        | l l => exact p.elim
        | o c' fs =>
          dsimp only at p
          by_cases hcc : c' = c ∧ fs.length < 1000
          · obtain ⟨rfl, hl⟩ := hcc
            rw [if_pos ⟨rfl, hl⟩] at p
            obtain ⟨a, s, _, _, ea, C', dx, names', vs, ha, nF, hc', en, rr⟩ := ob_at r1 e0
            rw [hc] at hc'; cases hc'
            obtain ⟨q1, q2⟩ := putF_rel (f := f) rv en rr
            have hlen : vs.length = fs.length := by have := congrArg List.length en; simpa using this
            obtain ⟨r2, x2⟩ := putOb_rel (o' := .ins C dx (putF f v vs)) (l' := .o c' (putFD f d fs)) r1 e0 ea ⟨C, dx, names, _, upd_same, nF, hc, q1, q2⟩
            rw [hK]
            exact ⟨_, ea, a, C, dx, vs, rfl, ha, ok.cl, na, by omega, p Fz1 σ _ (x1.trans x2) r2⟩
          · rw [if_neg hcc] at p; exact p.elim⟩
/-- self.f, self being made -/
def mGetO (i : Nat) (c : Nat) (f : Str) : M D := fun e => match myOb i e with
  | some (.o c' fs) => if c' = c then (match fs.lookup f with
    | some d => .ok d e
    | none => .bad) else .bad
  | _ => .bad
theorem lookup_rel {f : Str} {d : D} : ∀ {vs : List (Str × V)} {ds : List (Str × D)}, vs.map (·.1) = ds.map (·.1) → Reps G Fz (vs.map (·.2)) (ds.map (·.2)) → ds.lookup f = some d → ∃ v, vs.lookup f = some v ∧ Rep G Fz v d
  | [], [], _, _, h => by simp at h
  | (g, w) :: vs, (g', d') :: ds, e, .cons h t, hl => by
    simp only [List.map_cons, List.cons.injEq] at e
    obtain ⟨rfl, e⟩ := e
    rw [List.lookup_cons] at hl ⊢
    cases q : (f == g) with
    | true => rw [q] at hl; cases hl; exact ⟨w, rfl, h⟩
    | false => rw [q] at hl; exact lookup_rel e t hl
  | [], _ :: _, e, _, _ => by simp at e
  | _ :: _, [], e, _, _ => by simp at e
theorem qe_getO (hK : X.K = G.K) (i : Nat) {c : Nat} {names : List Str} (hc : G.cs[c]? = some (C, names)) (ok : InsOk G.K C) (na : NoAttr G.K C f) (ho : PE X o (tVar i)) (hb : attributeBase o f X.env (eval o X.env) = eval o X.env := by rfl) : QE G X W (.Attribute o f pos) (mGetO i c f) :=
  PE_imp (pe_fld ho hb) fun σ H Q ⟨Fz, env, r, hh, p⟩ => by
    unfold mGetO at p
    cases e0 : myOb i env with
    | none => rw [e0] at p; exact p.elim
    | some ob =>
      rw [e0] at p
      cases ob with
      | l l => exact p.elim
      | o c' fs =>
        dsimp only at p
        by_cases hcc : c' = c
        · subst hcc
          rw [if_pos rfl] at p
          obtain ⟨a, s, _, _, ea, C', dx, names', vs, ha, nF, hc', en, rr⟩ := ob_at r e0
          rw [hc] at hc'; cases hc'
          cases el : fs.lookup f with
          | none => rw [el] at p; exact p.elim
          | some d =>
            rw [el] at p
            obtain ⟨v, ev, rv⟩ := lookup_rel en rr el
            rw [hK]
            exact ⟨_, ea, a, C, dx, vs, v, rfl, ha, ok.cl, na, ev, p Fz v H (Ext.refl _ _ _ _) r rv⟩
        · rw [if_neg hcc] at p; exact p.elim
/-- C(e, ..) by its own __init__, by values -/
def mNew (c : Nat) (names : List Str) (F : M Slot) (ds : List D) : M D := fun e => match F (.io (.o c []) :: ds.map .fro) with
  | .ok (.fro .non) (.io (.o c' fs) :: _) => if c' = c ∧ fs.map (·.1) = names then .ok (.ins c (fs.map (·.2))) e else .bad
  | .err k fs _ => .err k fs e
  | _ => .bad
theorem zip_of : ∀ {vs : List (Str × V)}, vs = (vs.map (·.1)).zip (vs.map (·.2))
  | [] => rfl
  | (a, b) :: r => by simp only [List.map_cons, List.zip_cons_cons]; rw [← zip_of]
theorem new_sp {n c : Nat} {names : List Str} {F : M Slot} {ds : List D} {xs : List V} {Q : VK} {x dx : Addr} (hc : G.cs[c]? = some (C, names)) (hn : ds.length + 1 = n) (r : RelS G Fz σ H env) (ra : Reps G Fz xs ds) (hx : H x = none) (hdx : H dx = none) (ne : dx ≠ x) (p : Post rpD G W Fz σ env H Q (mNew c names F ds env)) :
    spF G n F (.ref x :: xs) (upd (upd H dx (.own x)) x (.ins C dx [])) (fun v H2 => v = .non ∧ Q (.ref x) H2) (fun cls y H => W cls y σ H) := by
  obtain ⟨r1, x1, n1, w1⟩ := r.allocO (o := .own x) hdx
  have hx' : (upd H dx (.own x)) x = none := by rw [upd_ne (Ne.symm ne)]; exact hx
  obtain ⟨r2, x2, n2, w2⟩ := r1.allocO (o := .ins C dx []) hx'
  have lx := ra.length
  refine ⟨Fz, .io (.o c []) :: ds.map .fro, ⟨r2.sub, by simp [lx], fun j s ej => ?_, fun i j si sj b ei ej mi mj _ _ => ?_, r.hot⟩, by simpa using hn, ?_, ?_⟩
  · cases j with
    | zero =>
      simp at ej; subst ej
      exact ⟨_, rfl, x, rfl, C, dx, names, [], upd_same, n2, hc, rfl, .nil⟩
    | succ j =>
      have ej' : (ds.map Slot.fro)[j]? = some s := by simpa using ej
      rw [List.getElem?_map] at ej'
      cases ed : ds[j]? with
      | none => rw [ed] at ej'; cases ej'
      | some d =>
        rw [ed] at ej'; cases ej'
        obtain ⟨v, ev, rv⟩ := ra.get' ed
        exact ⟨some v, by simp [ev], v, rfl, rv⟩
  · have z : ∀ (i : Nat) (s : Slot), (Slot.io (.o c []) :: ds.map .fro)[i]? = some s → s.mine = true → i = 0 := fun i s e m => by
      cases i with
      | zero => rfl
      | succ i =>
        have e' : (ds.map Slot.fro)[i]? = some s := by simpa using e
        rw [List.getElem?_map] at e'
        cases ed : ds[i]? with
        | none => rw [ed] at e'; cases e'
        | some d => rw [ed] at e'; cases e'; cases m
    rw [z i si ei mi, z j sj ej mj]
  · intro s hs
    rcases List.mem_cons.mp hs with rfl | hs
    · rfl
    · obtain ⟨d, _, rfl⟩ := List.mem_map.mp hs; rfl
  · -- the owned one is new: what stood ahead is kept
    have back : ∀ {Fz' H' : Hp} {args' : En}, Ext Fz ((V.ref x :: xs).map some) (.io (.o c []) :: ds.map .fro) (upd (upd H dx (.own x)) x (.ins C dx [])) Fz' ((V.ref x :: xs).map some) args' H' → RelS G Fz' ((V.ref x :: xs).map some) H' args' → RelS G Fz' σ H' env ∧ Ext Fz σ env H Fz' σ env H' := fun {Fz' H' args'} xx rr => by
      have nw : ∀ b o, H b = some o → ¬ Own ((V.ref x :: xs).map some) (.io (.o c []) :: ds.map .fro) b := fun b o e ⟨i, s, ei, mi, zi⟩ => by
        cases i with
        | zero => simp at zi; rw [← zi, hx] at e; cases e
        | succ i =>
          have e' : (ds.map Slot.fro)[i]? = some s := by simpa using ei
          rw [List.getElem?_map] at e'
          cases ed : ds[i]? with
          | none => rw [ed] at e'; cases e'
          | some d => rw [ed] at e'; cases e'; cases mi
      have up : ∀ b o, H b = some o → (upd (upd H dx (.own x)) x (.ins C dx [])) b = some o := fun b o e => by rw [upd_ne (ne_of_none e hx), upd_ne (ne_of_none e hdx)]; exact e
      have kp : ∀ b o, H b = some o → H' b = some o ∧ (Fz b = none → Fz' b = none) := fun b o e => let ⟨k1, _, k3⟩ := xx.keep b o (up b o e) (nw b o e); ⟨k1, k3⟩
      refine ⟨r.grow xx.sub rr.sub (fun b w => ?_) fun b u w e => (kp b u e).1, ⟨xx.sub, fun b o e w => ⟨(kp b o e).1, w, (kp b o e).2⟩, fun _ l h => ⟨⟨l, h⟩, rfl⟩, fun b e => ?_⟩⟩
      · obtain ⟨⟨u, hu⟩, hn⟩ := r.ownObj w
        exact (kp b u hu).2 hn
      · cases q : H b with
        | none => rfl
        | some o => rw [(kp b o q).1] at e; cases e
    unfold mNew at p
    cases ef : F (.io (.o c []) :: ds.map .fro) with
    | bad => rw [ef] at p; exact p
    | err k fs args' =>
      rw [ef] at p
      intro Fz' H' cls y xx rr er
      obtain ⟨b1, b2⟩ := back xx rr
      exact p Fz' H' cls y b2 b1 er
    | ok s args' =>
      rw [ef] at p
      intro Fz' v H' xx rr rs
      obtain ⟨b1, b2⟩ := back xx rr
      match s, args', p, rs, rr, xx with
      | .fro .non, .io (.o c' fs) :: rest, p, rs, rr, xx =>
        dsimp only at p
        by_cases hcc : c' = c ∧ fs.map (·.1) = names
        · rw [if_pos hcc] at p
          obtain ⟨rfl, hnm⟩ := hcc
          have rs : Rep G Fz' v .non := rs
          cases rs
          refine ⟨rfl, ?_⟩
          obtain ⟨o, ho, a2, eo, C2, dx2, names2, vs, ha, nF, hc2, en, rr2⟩ := rr.at_ 0 _ rfl
          simp at ho; subst ho; cases eo
          rw [hc] at hc2; cases hc2
          have z2 := zip_of (vs := vs)
          rw [en, hnm] at z2
          have sm : Same Fz' (upd Fz' x (.ins C dx2 vs)) := same_upd nF
          have sub2 : Same (upd Fz' x (.ins C dx2 vs)) H' := fun b u eb => by
            by_cases hb : b = x
            · subst hb; rw [upd_same] at eb; rw [ha]; exact eb
            · rw [upd_ne hb] at eb; exact b1.sub b u eb
          have nx : ∀ b, Own σ env b → b ≠ x := fun b w z => by
            obtain ⟨⟨u, hu⟩, _⟩ := r.ownObj w
            rw [z, hx] at hu; cases hu
          refine p (upd Fz' x (.ins C dx2 vs)) (.ref x) H' ⟨b2.sub.trans sm, fun b u e w => ?_, b2.ios, b2.live⟩ (b1.grow sm sub2 (fun b w => ?_) fun _ _ _ q => q) ?_
          · obtain ⟨k1, k2, k3⟩ := b2.keep b u e w
            exact ⟨k1, k2, fun z => by rw [upd_ne (ne_of_none e hx)]; exact k3 z⟩
          · rw [upd_ne (nx b w)]; exact (b1.ownObj w).2
          · exact .ins (names := names) (vs := vs.map (·.2)) (dx := dx2) (by rw [← z2]; exact upd_same) hc (by have := congrArg List.length hnm; have h3 := congrArg List.length en; simp at this h3 ⊢; omega) (rr2.mono sm)
        · rw [if_neg hcc] at p; exact p.elim
/-- C(e, ..) -/
def mMake (c : Nat) (names : List Str) (F : M Slot) (fill : List D → List D) (n : M (List D)) : M D := n.bind fun ds => mNew c names F (fill ds)
end
end Eng

end
section
set_option Elab.async false
set_option linter.all false
set_option autoImplicit false
set_option maxRecDepth 100000
set_option maxHeartbeats 2000000
namespace Eng
open PySem PySem.Spec L2
open PyProof.Rows hiding St
section
variable {G : Kx} {X : Cx} {W : WX} {e a b c tg iter elt o : Expr} {es ifs : List Expr} {kws : List Keyword} {pos p spos cpos apos pos' tpos : Pos} {ma mb mc : M D} {x f : Str} {σ σ1 : St} {H H1 Fz Fz1 : Hp} {env env1 : En} {E E' : Ends} {hv : List (V × D)}
/-- a statement that is not met -/
theorem qs_bad {st : Stmt} : QS G X W st bad := PS_imp ps_never fun E σ H ⟨Fz, env, r, p⟩ => p
theorem qss_bad {st : List Stmt} : QSs G X W st bad := PSs_imp pss_never fun E σ H ⟨Fz, env, r, p⟩ => p

/-! ### a < b < c -/
def mChain (f g : D → D → M D) (m n k : M D) : M D := m.bind fun x => n.bind fun y => (f x y).bind fun z => (dBl z).bind fun t => if t then k.bind fun w => g y w else M.pure (.bl false)
/-- an answer of an operator, then what follows -/
def Op2K (G : Kx) (r : R2) (f : D → D → M D) : Prop := ∀ (x y : V) (d1 d2 : D) (Fz H : Hp) (Q : VK), Same Fz H → Rep G Fz x d1 → Rep G Fz y d2 → ((∃ d, f d1 d2 = M.pure d ∧ ((∀ v, Rep G Fz v d → Q v H) → r x y H Q)) ∨ f d1 d2 = bad)
theorem op2_of {r : R2} {f : D → D → M D} (h : Op2K G r f) : Op2 rpD G W r f := op2_pure h
theorem k_i2 {g : Int → Int → Bool} : Op2K G (rI0 fun i j => .bl (g i j)) (dI20 fun i j => .bl (g i j)) := fun x y d1 d2 Fz H Q s r1 r2 => by
  cases r1 <;> cases r2 <;> try exact .inr rfl
  rename_i i j
  exact .inl ⟨.bl (g i j), rfl, fun k => ⟨i, j, rfl, rfl, k _ (.bl _)⟩⟩
theorem q_chain {op op' : CmpOp} {r r' : R2} {f g : D → D → M D} (ho : OpR X (compareOp op) r) (ho' : OpR X (compareOp op') r') (hf : Op2K G r f) (hg : Op2 rpD G W r' g) (ha : QE G X W a ma) (hb : QE G X W b mb) (hc : QE G X W c mc)
    (hm : lastMarks [op, op'] [b, c] = false := by with_unfolding_all rfl) : QE G X W (.Compare a [op, op'] [b, c] pos) (mChain f g ma mb mc) :=
  PE_imp (pe_chain ho ho' ha hb hc hm) fun σ H Q q => (tOf.bind_ backD q).mono fun x H1 ⟨d1, q1⟩ => (tOf.bind_ backD q1).mono fun y H2 ⟨d2, q2⟩ => by
    obtain ⟨Fz, env, rl, hh, p⟩ := q2
    have ry : Rep G Fz y d2 := hh (y, d2) List.mem_cons_self
    have rx : Rep G Fz x d1 := hh (x, d1) (List.mem_cons_of_mem _ List.mem_cons_self)
    rcases hf x y d1 d2 Fz H2 (fun z H3 => ∃ k, z = .bl k ∧ (if k = true then tOf rpD G W [] mc σ H3 fun w' H4 => r' y w' H4 Q else Q (.bl false) H3)) rl.sub rx ry with ⟨z, ez, kz⟩ | ez
    · rw [ez] at p
      refine kz fun v rv => ?_
      have p' : Post rpD G W Fz σ env H2 Q (((dBl z).bind fun t => if t then mc.bind fun w => g d2 w else M.pure (.bl false)) env) := p
      cases rv with
      | bl k =>
        refine ⟨k, rfl, ?_⟩
        cases k with
        | true =>
          refine iteT ?_
          have q3 : tOf rpD G W [(y, d2)] (mc.bind fun w => g d2 w) σ H2 Q := ⟨Fz, env, rl, (fun q hq => by rw [List.mem_singleton.mp hq]; exact ry), p'⟩
          exact (tOf.bind_ backD q3).mono fun w H4 ⟨d3, Fz4, env4, rl4, hh4, p4⟩ => hg y w d2 d3 σ H4 Q ⟨Fz4, env4, rl4, (fun q hq => by
            rcases List.mem_cons.mp hq with rfl | hq
            · exact hh4 _ List.mem_cons_self
            · rw [List.mem_singleton.mp hq]; exact hh4 _ (List.mem_cons_of_mem _ List.mem_cons_self)), p4⟩
        | false => exact iteF (p' Fz (.bl false) H2 (Ext.refl _ _ _ _) rl (.bl false))
      | _ => exact p'.elim
    · rw [ez] at p; exact p.elim

/-! ### enumerate, zip, of lists -/
def enumD (ds : List D) : List D := ds.mapIdx fun i d => .tup [.int (i : Nat), d]
theorem gives_enum {K : PySem.W.Frag} {l : Addr} {vs : List V} {ds : List D} (h : Fz l = some (.lst vs)) (r : Reps G Fz vs ds) : Gives G Fz (Ite K l) (enumD ds) where
  go := fun i H s hi => by
    have hv : i < vs.length := by rw [r.length]; unfold enumD at hi; rw [List.length_mapIdx] at hi; exact hi
    exact ⟨vs, vs[i], SqL.of (s _ _ h), List.getElem?_eq_getElem hv⟩
  stop := fun i H s hi => ⟨vs, SqL.of (s _ _ h), by unfold enumD at hi; rw [List.length_mapIdx] at hi; rw [r.length, hi]; exact Nat.le_refl _⟩
  yld := fun i H x H' d s y e => by
    unfold enumD at e
    rw [List.getElem?_mapIdx] at e
    cases ed : ds[i]? with
    | none => rw [ed] at e; cases e
    | some d0 =>
      rw [ed] at e
      simp only [Option.map_some, Option.some.injEq] at e
      subst e
      obtain ⟨v, e1, rv⟩ := r.get' ed
      obtain ⟨T, w, rfl, hT, rfl, hw⟩ := y
      have := hw vs (SqL.of (s _ _ h))
      rw [e1] at this; cases this
      exact .inr ⟨T, _, hT, rfl, fun Fz1 s1 n => .tup (SqT.of upd_same) (by rw [sizeLine_eq]; show (2 : Nat) ≤ _; decide) (.cons (.int _) (.cons ((rv.mono s1).mono (same_upd n)) .nil))⟩
def dEnum : List D → M (List D)
  | [.lst l] => M.pure (enumD l)
  | _ => bad
theorem qi_enum {n : M (List D)} {elts : List Expr} {kk : Nat} (hg : Gl X "enumerate") (hm : X.mg "enumerate" = none) (ha : QA G X W [a] n) (hs : starEach [a] X.env = [(false, eval a X.env)] := by rfl) : QI G X W (.Tuple elts kk tpos) (.Call (.Name "enumerate" p) [a] [] pos) (n.bind dEnum) :=
  PI_imp (pi_enum hg hm ha hs) fun σ H Q q => (tOf.bindL backI q).mono fun xs H1 ⟨ds, el, Fz, env, rl, hh, q⟩ => by
    match xs, ds, el with
    | [], [], _ => exact q.elim
    | [v], [d], _ =>
      have rv : Rep G Fz v d := hh (v, d) List.mem_cons_self
      cases rv with
      | lst h z r => exact ⟨_, _, rfl, SqL.of (rl.sub _ _ h), q Fz _ H1 (Ext.refl _ _ _ _) rl (gives_enum h r)⟩
      | _ => exact q.elim
    | _ :: _ :: _, d :: _ :: _, _ => cases d <;> exact q.elim

/-! ### t.index(x), x and the items flat -/
theorem mt_tup_indexF : MtR X "tuple.index" (fun x xs H Q => ∃ (a : Addr) (ys : List V) (y : V) (j : Nat) (z : V), x = V.ref a ∧ xs = [y] ∧ SqT X.K H a ys ∧ flatV y = true ∧ ys.all flatV = true ∧ ys[j]? = some z ∧ eqV z y = true ∧
    (∀ (m : Nat) (z' : V), m < j → ys[m]? = some z' → eqV z' y = false) ∧ Q (.int (j : Nat)) H) := by
  intro pins s σ H x xs v us Q I rx rxs h
  obtain ⟨a, ys, y, j, z, rfl, rfl, hs, fy, fys, hz, hzj, hno, q⟩ := h
  cases rx
  cases rxs with
  | cons ry rt =>
    rename_i uy ut
    cases rt
    obtain ⟨its, rv, pl, hlen⟩ := I.tuple hs
    obtain ⟨⟨cls, dd, data, sl⟩, ho, hc, n, hd⟩ := pl
    simp only at hc hd
    subst hc hd
    obtain ⟨u, hu, ru⟩ := rv.get hz
    obtain ⟨hjl, hje⟩ := List.getElem?_eq_some_iff.mp hu
    have hvl := rv.length
    have hj : j < its.toArray.size := by simpa using hjl
    have hsl := sizeLine_eq
    refine call_meets PySem.F.slot_tuple_index ⟨_, ho, rfl⟩ PySem.F.entry_tuple_index (PySem.F.args_tuple_index_2 _ _)
      (TI.tuple_indexAt a its.toArray n dd sl uy (eqU y) j hj ?_ ?_) ⟨ho, fun u' hu' => mem_eqAt ry fy rv fys u' (by simpa using hu'), ?_⟩
    · have e1 : its.toArray[j] = u := by simpa using hje
      rw [e1, eqU_of ru (flat_at fys hz)]
      exact hzj
    · intro m hm hmj
      have hml : m < its.length := by simpa using hm
      have hmy : m < ys.length := by omega
      have hy' : ys[m]? = some ys[m] := List.getElem?_eq_getElem hmy
      obtain ⟨u2, hu2, ru2⟩ := rv.get hy'
      obtain ⟨_, hme⟩ := List.getElem?_eq_some_iff.mp hu2
      have e1 : its.toArray[m] = u2 := by simpa using hme
      rw [e1, eqU_of ru2 (flat_at fys hy')]
      exact hno m _ hmj hy'
    · exact ⟨.int (j : Nat), H, I.tok _, ⟨_, rfl⟩, q⟩
/-- what is asked of the place's parts -/
def dIdxL (l : List D) (d : D) : Option Nat := if dFlat d && l.all dFlat then l.findIdx? (fun z => dEqF z d) else none
theorem idx_of {vs : List V} {ds : List D} {v : V} {d : D} {j : Nat} (r : Reps G Fz vs ds) (rv : Rep G Fz v d) (h : dIdxL ds d = some j) : flatV v = true ∧ vs.all flatV = true ∧ ∃ z, vs[j]? = some z ∧ eqV z v = true ∧ ∀ (m : Nat) (z' : V), m < j → vs[m]? = some z' → eqV z' v = false := by
  unfold dIdxL at h
  cases e : (dFlat d && ds.all dFlat) with
  | false => rw [e] at h; cases h
  | true =>
    rw [e] at h
    obtain ⟨e1, e2⟩ := Bool.and_eq_true_iff.mp e
    simp only [if_true] at h
    obtain ⟨h1, h2, h3⟩ := List.findIdx?_eq_some_iff_getElem.mp h
    refine ⟨(flat_eq rv).trans e1, (allFlat r).trans e2, ?_⟩
    obtain ⟨z, hz, rz⟩ := r.get' (List.getElem?_eq_getElem h1)
    refine ⟨z, hz, (eqF_eq rz rv).trans h2, fun m z' hm hz' => ?_⟩
    obtain ⟨d', hd', rd'⟩ := r.get hz'
    rw [eqF_eq rd' rv]
    have hml : m < ds.length := by omega
    rw [List.getElem?_eq_getElem hml] at hd'
    cases hd'
    simpa using h3 m hm
def dIdx : D → List D → M D
  | .lst l, [d] => match dIdxL l d with
    | some j => M.pure (.int (j : Nat))
    | none => bad
  | _, _ => bad
def dIdxT : D → List D → M D
  | .stp l, [d] => match dIdxL l d with
    | some j => M.pure (.int (j : Nat))
    | none => bad
  | _, _ => bad
def mMeth (f : D → List D → M D) (m : M D) (n : M (List D)) : M D := m.bind fun d => match d with
  | .lst l => n.bind fun ds => f (.lst l) ds
  | _ => bad
/-- xs.index(e), xs a list -/
theorem qe_idx (hK : X.K = G.K) {n : M (List D)} (ho : QE G X W a ma) (ha : QA G X W [e] n)
    (hbase : attributeBase a "index" X.env (eval a X.env) = eval a X.env := by rfl)
    (hfew : ((backTo cpos (starEach [e] X.env)).all (fun x => !x.1) && (backToKw cpos (keywordEach [] X.env)).all (fun x => x.1.isSome)
      && decide ([e].length + ([] : List Keyword).length + (if ([] : List Keyword).isEmpty then 0 else 1) < 30)) = true := by rfl)
    (hline : (apos.endLine == cpos.line) = true := by rfl) (hs : starEach [e] X.env = (false, eval e X.env) :: starEach [] X.env := by rfl) (hplain : (backTo cpos (starEach [] X.env)).any (·.1) = false := by rfl) :
    QE G X W (.Call (.Attribute a "index" apos) [e] [] cpos) (mMeth dIdx ma n) :=
  PE_imp (pe_bm PySem.F.plainAttrs_list PySem.F.slot_list_index PySem.F.type_list_index mt_index ho ha hbase hfew hline hs hplain) fun σ H Q q => (tOf.bind_ backD q).mono fun x H1 ⟨d, q1⟩ => by
    obtain ⟨Fz, env, rl, hh, p⟩ := id q1
    have rx : Rep G Fz x d := hh _ List.mem_cons_self
    cases rx with
    | @lst l vs ds h z r =>
      refine ⟨.inl ⟨rfl, _, SqL.of (rl.sub _ _ h)⟩, ?_⟩
      refine (tOf.bindL backD q1).mono fun xs H2 ⟨es, el, Fz2, env2, rl2, hh2, p2⟩ => ?_
      match xs, es, el with
      | [], [], _ => exact p2.elim
      | [v], [d2], _ =>
        have rv : Rep G Fz2 v d2 := hh2 (v, d2) List.mem_cons_self
        have rx2 : Rep G Fz2 (.ref l) (.lst ds) := hh2 (.ref l, .lst ds) (List.mem_cons_of_mem _ List.mem_cons_self)
        cases rx2 with
        | @lst _ vs2 _ h2 z2 r2 =>
          simp only [dIdx] at p2
          cases ej : dIdxL ds d2 with
          | none => rw [ej] at p2; exact p2.elim
          | some j =>
            rw [ej] at p2
            obtain ⟨f1, f2, zz, f3, f4, f5⟩ := idx_of r2 rv ej
            rw [hK]
            exact ⟨l, vs2, v, j, zz, rfl, rfl, SqL.of (rl2.sub _ _ h2), f1, f2, f3, f4, f5, p2 Fz2 _ H2 (Ext.refl _ _ _ _) rl2 (.int _)⟩
      | _ :: _ :: _, _ :: _ :: _, _ => exact p2.elim
    | _ => exact p.elim
def tTidx (r : V → List V → Hp → VK → Prop) (to : TE) (t : TA) : TE := fun σ H Q => to σ H fun x H1 => (∃ a o vs, x = .ref a ∧ H1 a = some (.frz o (.tup vs)) ∧ o.cls = .type "tuple" ∧ o.dict = none) ∧ t σ H1 fun xs H2 => r x xs H2 Q
theorem pe_tidx {id : String} {name : Str} {r : V → List V → Hp → VK → Prop} {to : TE} {t : TA} (pa : PlainAttrs "tuple") (slot : PySem.Slot "tuple" name id) (hty : typeOf (.builtin id) = pure (.type "method_descriptor")) (hm : MtR X id r) (ho : PE X o to) (ha : PA X (e :: es) t)
    (hbase : attributeBase o name X.env (eval o X.env) = eval o X.env := by rfl)
    (hfew : ((backTo cpos (starEach (e :: es) X.env)).all (fun x => !x.1) && (backToKw cpos (keywordEach [] X.env)).all (fun x => x.1.isSome)
      && decide ((e :: es).length + ([] : List Keyword).length + (if ([] : List Keyword).isEmpty then 0 else 1) < 30)) = true := by rfl)
    (hline : (apos.endLine == cpos.line) = true := by rfl) (hs : starEach (e :: es) X.env = (false, eval e X.env) :: starEach es X.env := by rfl) (hplain : (backTo cpos (starEach es X.env)).any (·.1) = false := by rfl) :
    PE X (.Call (.Attribute o name apos) (e :: es) [] cpos) (tTidx r to t) := by
  refine ⟨fun pins s σ H Q I h => ?_⟩
  refine wpAny_Call_method_late hbase hfew hline rfl (thn (ho.run pins s σ H _ I h) fun v s1 ⟨x, H1, I1, r1, ty1, q1⟩ => ?_)
  obtain ⟨a, ob, vs, rfl, hh, hc, hd⟩ := ty1
  obtain rfl : v = Value.ref a := r1
  obtain ⟨hob, _⟩ := I1.hok a _ hh
  refine ⟨"tuple", id, pa, slot, hty, ⟨ob, hob, hc⟩, fun b eb => by cases eb; exact ⟨ob, hob, hd⟩, ?_⟩
  have hA := ha.run cpos pins s1 σ H1 _ I1 q1
  rw [hs] at hA ⊢
  refine Calls.callWith_builtin (by show (false || (backTo cpos (starEach es X.env)).any (·.1)) = false; rw [hplain] <;> rfl) (Calls.evalArgs_plain ?_)
  exact thn hA fun us s2 ⟨vs, H2, I2, r2, q2⟩ => hm pins s2 σ H2 (.ref a) vs _ us Q I2 rfl r2 q2
def mMethT (f : D → List D → M D) (m : M D) (n : M (List D)) : M D := m.bind fun d => match d with
  | .stp l => n.bind fun ds => f (.stp l) ds
  | _ => bad
/-- t.index(e), t a tuple whose object is known -/
theorem qe_idxT (hK : X.K = G.K) {n : M (List D)} (ho : QE G X W a ma) (ha : QA G X W [e] n)
    (hbase : attributeBase a "index" X.env (eval a X.env) = eval a X.env := by rfl)
    (hfew : ((backTo cpos (starEach [e] X.env)).all (fun x => !x.1) && (backToKw cpos (keywordEach [] X.env)).all (fun x => x.1.isSome)
      && decide ([e].length + ([] : List Keyword).length + (if ([] : List Keyword).isEmpty then 0 else 1) < 30)) = true := by rfl)
    (hline : (apos.endLine == cpos.line) = true := by rfl) (hs : starEach [e] X.env = (false, eval e X.env) :: starEach [] X.env := by rfl) (hplain : (backTo cpos (starEach [] X.env)).any (·.1) = false := by rfl) :
    QE G X W (.Call (.Attribute a "index" apos) [e] [] cpos) (mMethT dIdxT ma n) :=
  PE_imp (pe_tidx PySem.F.plainAttrs_tuple PySem.F.slot_tuple_index PySem.F.type_tuple_index mt_tup_indexF ho ha hbase hfew hline hs hplain) fun σ H Q q => (tOf.bind_ backD q).mono fun x H1 ⟨d, q1⟩ => by
    obtain ⟨Fz, env, rl, hh, p⟩ := id q1
    have rx : Rep G Fz x d := hh _ List.mem_cons_self
    cases rx with
    | @stp l ob vs ds h hc hd z r =>
      refine ⟨⟨l, ob, vs, rfl, rl.sub _ _ h, hc, hd⟩, ?_⟩
      refine (tOf.bindL backD q1).mono fun xs H2 ⟨es, el, Fz2, env2, rl2, hh2, p2⟩ => ?_
      match xs, es, el with
      | [], [], _ => exact p2.elim
      | [v], [d2], _ =>
        have rv : Rep G Fz2 v d2 := hh2 (v, d2) List.mem_cons_self
        have rx2 : Rep G Fz2 (.ref l) (.stp ds) := hh2 (.ref l, .stp ds) (List.mem_cons_of_mem _ List.mem_cons_self)
        cases rx2 with
        | @stp _ ob2 vs2 _ h2 _ _ z2 r2 =>
          simp only [dIdxT] at p2
          cases ej : dIdxL ds d2 with
          | none => rw [ej] at p2; exact p2.elim
          | some j =>
            rw [ej] at p2
            obtain ⟨f1, f2, zz, f3, f4, f5⟩ := idx_of r2 rv ej
            exact ⟨l, vs2, v, j, zz, rfl, rfl, .inl (.inr ⟨_, rl2.sub _ _ h2⟩), f1, f2, f3, f4, f5, p2 Fz2 _ H2 (Ext.refl _ _ _ _) rl2 (.int _)⟩
      | _ :: _ :: _, _ :: _ :: _, _ => exact p2.elim
    | _ => exact p.elim
/-- tuple(xs), its object told -/
theorem call_tuple_ofF : CallR X (.type "tuple") (fun xs H Q => ∃ p ys, xs = [.ref p] ∧ SqL X.K H p ys ∧ ∀ (l : Addr) (o : Obj), o.cls = .type "tuple" → o.dict = none → H l = none → Q (.ref l) (upd H l (.frz o (.tup ys)))) := by
  intro pins s σ H xs us Q I r h
  obtain ⟨p, ys, rfl, hq, q⟩ := h
  cases r with
  | cons rx rt =>
    cases rt
    cases rx
    obtain ⟨its, r', pl, hz⟩ := I.list hq
    have hlen := r'.length
    refine call_tuple_list pl.isList (fun h' kp => ?_) (by simp only [List.size_toArray] <;> omega)
    have I1 : Inv X pins σ H { s with heap := h' } := I.kept (t' := s.toks) kp
    have I2 : Inv X pins σ (upd H h'.objs.size (.frz { cls := .type "tuple", data := .seq its.toArray } (.tup ys))) { s with heap := h'.push { cls := .type "tuple", data := .seq its.toArray } } :=
      I1.laid (t' := s.toks) (fun b o e => Heap.get?_push_of_some _ e) (Nat.le_refl _) (show ObjOk X.prog X.w _ _ _ (.frz _ (.tup ys)) from ⟨Heap.get?_push_size _ rfl, hz, its, r', IsTup.new _ _⟩)
    exact ⟨.ref h'.objs.size, _, I2, rfl, q _ _ rfl rfl (I1.hok.fresh (Nat.le_refl _))⟩
def dTupleF : List D → M D
  | [.lst l] => M.pure (.stp l)
  | _ => bad
theorem s_tupleF (hK : X.K = G.K) : CallS rpD G W (fun xs H Q => ∃ p ys, xs = [.ref p] ∧ SqL X.K H p ys ∧ ∀ (l : Addr) (o : Obj), o.cls = .type "tuple" → o.dict = none → H l = none → Q (.ref l) (upd H l (.frz o (.tup ys)))) dTupleF := callS1 rfl (fun a b l => by cases a <;> rfl) fun v d Fz H σ env Q rl rv q => by
  rw [hK]
  cases rv with
  | lst h z r =>
    refine ⟨_, _, rfl, SqL.of (rl.sub _ _ h), fun l o hc hd hl => ?_⟩
    obtain ⟨r', x'⟩ := rl.alloc (o := .frz o (.tup _)) hl
    exact q _ _ _ x' r' (.stp upd_same hc hd z (r.mono x'.sub))
  | _ => exact q.elim
theorem qe_tupleF (hK : X.K = G.K) {n : M (List D)} (hg : Gl X "tuple") (hm : X.mg "tuple" = none) (ha : QA G X W [e] n) (he : starEach [e] X.env = (false, eval e X.env) :: starEach [] X.env := by rfl) : QE G X W (.Call (.Name "tuple" p) [e] [] pos) (n.bind dTupleF) :=
  q_callTy backD call_tuple_ofF (s_tupleF hK) hg hm (by decide +kernel) ha (he := he)

/-! ### calls with keywords; an instance is made -/
abbrev QK (G : Kx) (X : Cx) (W : WX) (kws : List Keyword) (m : M (List D)) : Prop := PK X kws (tOf rpL G W [] m)
theorem PK_imp {X : Cx} {kws : List Keyword} {t t' : TA} (h : PK X kws t) (k : ∀ σ H Q, t' σ H Q → t σ H Q) : PK X kws t' := ⟨fun z p s σ H Q I q => h.run z p s σ H Q I (k σ H Q q)⟩
theorem qk_nil : QK G X W [] mNil := PK_imp pk_nil fun σ H Q ⟨Fz, env, r, hh, p⟩ => p Fz [] H (Ext.refl _ _ _ _) r .nil
theorem qk_cons {nm : Option Str} {kpos : Pos} {n : M (List D)} (ha : QE G X W e ma) (hr : QK G X W kws n) : QK G X W (⟨nm, e, kpos⟩ :: kws) (mCons ma n) :=
  PK_imp (pk_cons ha hr) fun σ H Q q => (tOf.bind_ backL q).mono fun x H1 ⟨d, h1⟩ => (tOf.bindL backL h1).mono fun xs H2 ⟨ds, el, h2⟩ => by
    obtain ⟨Fz, env, r, hh, p⟩ := h2
    refine p Fz (x :: xs) H2 (Ext.refl _ _ _ _) r (.cons (hh _ (List.mem_append_right _ (List.mem_cons_self))) (zip_hv el fun q hq => hh q (List.mem_append_left _ hq)))
/-- the wish of errors does not look at the slots -/
def WFlat (W : WX) : Prop := ∀ c x σ σ' H, W c x σ H → W c x σ' H
theorem wflat_fn {E : XK} : WFlat (fun c x _ H => E c x H) := fun _ _ _ _ _ h => h
theorem wflat_0 : WFlat W0 := fun _ _ _ _ _ h => h
theorem passes_flat (hw : WFlat W) (hx : ∀ σ, PassesAt (L2N.CX X.prog X.w) X σ (WE W σ)) : Passes (L2N.CX X.prog X.w) X (fun c y H => W c y [] H) := fun pins σ H s e s' I c => by
  have q := hx σ pins H s e s' I
  apply q
  obtain ⟨a, B, H', cls, d, h1, h2, h3, h4, h5, h6, h7, h8⟩ := c
  exact ⟨a, B, H', cls, d, h1, h2, h3, h4, h5, h6, h7, hw _ _ _ _ _ h8⟩
theorem spF_mono {n : Nat} {F : M Slot} {vs : List V} {Q : VK} {E1 E2 : XK} (h : spF G n F vs H Q E1) (k : ∀ c y H, E1 c y H → E2 c y H) : spF G n F vs H Q E2 := by
  obtain ⟨Fz, args, r, ln, ok, p⟩ := h
  refine ⟨Fz, args, r, ln, ok, ?_⟩
  cases e : F args with
  | bad => rw [e] at p; exact p
  | err c fs e1 => rw [e] at p; exact fun Fz' H' cls y x r' er => k _ _ _ (p Fz' H' cls y x r' er)
  | ok s e1 => rw [e] at p; exact p
structure Bld (bv : List V → List V → List V) (bd : List D → List D → List D) : Prop where
  rel : ∀ (G : Kx) (Fz : Hp) (xs ys : List V) (ds es : List D), Reps G Fz xs ds → Reps G Fz ys es → Reps G Fz (bv xs ys) (bd ds es)
theorem bld_app : Bld (fun a b => a ++ b) (fun a b => a ++ b) := ⟨fun _ _ _ _ _ _ h1 h2 => h1.append h2⟩
def mCallKw (n1 n2 : Nat) (F : M Slot) (bd : List D → List D → List D) (m k : M (List D)) : M Slot := m.bind fun ds => k.bind fun es => if ds.length = n1 ∧ es.length = n2 then mCallV F (bd ds es) else bad
def mMakeKw (n1 n2 c : Nat) (names : List Str) (F : M Slot) (bd : List D → List D → List D) (m k : M (List D)) : M D := m.bind fun ds => k.bind fun es => if ds.length = n1 ∧ es.length = n2 then mNew c names F (bd ds es) else bad
theorem zip_split {xs ys : List V} {ds es : List D} (h1 : xs.length = ds.length) (h2 : ys.length = es.length) (h : ∀ q ∈ ys.zip es ++ (xs.zip ds ++ ([] : List (V × D))), Rep G Fz q.1 q.2) : Reps G Fz xs ds ∧ Reps G Fz ys es :=
  ⟨zip_hv h1 fun q hq => h q (List.mem_append_right _ (List.mem_append_left _ hq)), zip_hv h2 fun q hq => h q (List.mem_append_left _ hq)⟩
variable {k j n1 : Nat} {fa C : Addr} {fd : FuncData} {ps ks names : List Str} {g : List Value → List Value → List Value} {gV : List V → List V → List V} {F : M Slot} {n m : M (List D)}
/-- C(e, .., k = v, ..) -/
theorem qe_makeKw (hw : WFlat W) (hx : ∀ σ, PassesAt (L2N.CX X.prog X.w) X σ (WE W σ)) {cc : Nat} (hc : G.cs[cc]? = some (C, names)) (Mk' : Mk X.K C fa) {np : Nat} (Fo : FnOk X.prog X.w X.K X.mg X.base (L2N.CX X.prog X.w) k fa fd ps (spF G np F)) (hr : Room (k + 1) X.A) (hg : Gl X x) (hm : X.mg x = some (.ref C)) (hb : KBn X.K fd ps (n1 + 1) ks g gV)
    {bv : List V → List V → List V} {bd : List D → List D → List D} (hbl : Bld bv bd) (hgV : ∀ v vs zs, gV (v :: vs) zs = v :: bv vs zs) (hnp : ∀ ds es : List D, ds.length = n1 → es.length = ks.length → (bd ds es).length + 1 = np) (ha : QA G X W (e :: es) n) (hkw : QK G X W kws m)
    (hall : (backToKw pos (keywordEach kws X.env)).all (·.1.isSome) = true := by rfl) (hks : (backToKw pos (keywordEach kws X.env)).filterMap (·.1) = ks := by rfl) (hdb : (x == ("__debug__" : Str)) = false := by decide)
    (he : starEach (e :: es) X.env = (false, eval e X.env) :: starEach es X.env := by rfl) (hpl : ((backTo pos (starEach (e :: es) X.env)).any (·.1) || (backToKw pos (keywordEach kws X.env)).any (·.1.isNone)) = false := by rfl) :
    QE G X W (.Call (.Name x p) (e :: es) kws pos) (mMakeKw n1 ks.length cc names F bd n m) :=
  PE_imp (pe_makeK Mk' Fo hr hg hm hb (passes_flat hw hx) ha hkw hall hks hdb he hpl) fun σ H Q q => (tOf.bindL backD q).mono fun xs H1 ⟨ds, el, q1⟩ => (tOf.bindL backD q1).mono fun ys H2 ⟨es, el2, Fz, env, rl, hh, p⟩ => by
    obtain ⟨r1, r2⟩ := zip_split el el2 hh
    by_cases hl : ds.length = n1 ∧ es.length = ks.length
    · rw [if_pos hl] at p
      refine ⟨el.trans hl.1, el2.trans hl.2, fun x dx hx hdx ne => ?_⟩
      rw [hgV]
      exact spF_mono (new_sp hc (hnp ds es hl.1 hl.2) rl (hbl.rel G Fz _ _ _ _ r1 r2) hx hdx ne p) fun c y H h => hw _ _ _ _ _ h
    · rw [if_neg hl] at p; exact p.elim
/-- f(k = v, ..) -/
theorem pe_callK0 {CX : CXT} {sp : Sp} {EX : XK} {tk : TA} (Fo : FnOk X.prog X.w X.K X.mg X.base CX k fa fd ps sp) (hr : Room k X.A) (hg : Gl X x) (hm : X.mg x = some (.ref fa)) (hk : PySem.W.keepIn X.K (.ref fa) = true) (hb : KBn X.K fd ps 0 ks g gV) (hx : Passes CX X EX) (hkw : PK X kws tk)
    (hall : (backToKw pos (keywordEach kws X.env)).all (·.1.isSome) = true := by rfl) (hks : (backToKw pos (keywordEach kws X.env)).filterMap (·.1) = ks := by rfl) (hdb : (x == ("__debug__" : Str)) = false := by decide)
    (hpl : ((backTo pos (starEach [] X.env)).any (·.1) || (backToKw pos (keywordEach kws X.env)).any (·.1.isNone)) = false := by rfl) :
    PE X (.Call (.Name x p) [] kws pos) (tCallN 0 ks.length sp gV EX tNil tk) := by
  refine ⟨fun pins s σ H Q I h => ?_⟩
  refine wpAny_Call_Name_kw (ld_glob I hg hm ?_ hdb)
  refine PySem.W.callWith_KW0 (h₀ := X.base) I.ok.mod.kin hk hall ?_ hpl
  refine thn (hkw.run pos pins s σ H _ I h) fun ws s2 ⟨zs, H2, I2, rz, l1, l2, q2⟩ => ⟨I2.kIn, ?_⟩
  rw [hks]
  exact run_fnN (us := []) (vs := []) Fo hr hb hx I2 .nil rz rfl l2 q2
def mCallK0 (n2 : Nat) (F : M Slot) (bd : List D → List D) (k : M (List D)) : M Slot := k.bind fun es => if es.length = n2 then mCallV F (bd es) else bad
theorem qo_callK0 (hw : WFlat W) (hx : ∀ σ, PassesAt (L2N.CX X.prog X.w) X σ (WE W σ)) {np : Nat} (Fo : FnOk X.prog X.w X.K X.mg X.base (L2N.CX X.prog X.w) k fa fd ps (spF G np F)) (hr : Room k X.A) (hg : Gl X x) (hm : X.mg x = some (.ref fa)) (hk : PySem.W.keepIn X.K (.ref fa) = true) (hb : KBn X.K fd ps 0 ks g gV)
    {bv : List V → List V → List V} {bd : List D → List D → List D} (hbl : Bld bv bd) (hgV : ∀ zs, gV [] zs = bv [] zs) (hnp : ∀ es : List D, es.length = ks.length → (bd [] es).length = np) (hkw : QK G X W kws m)
    (hall : (backToKw pos (keywordEach kws X.env)).all (·.1.isSome) = true := by rfl) (hks : (backToKw pos (keywordEach kws X.env)).filterMap (·.1) = ks := by rfl) (hdb : (x == ("__debug__" : Str)) = false := by decide)
    (hpl : ((backTo pos (starEach [] X.env)).any (·.1) || (backToKw pos (keywordEach kws X.env)).any (·.1.isNone)) = false := by rfl) :
    QO G X W (.Call (.Name x p) [] kws pos) (mCallK0 ks.length F (bd []) m) :=
  PE_imp (pe_callK0 Fo hr hg hm hk hb (passes_flat hw hx) hkw hall hks hdb hpl) fun σ H Q q => (tOf.bindL backS q).mono fun ys H2 ⟨es, el2, Fz, env, rl, hh, p⟩ => by
    have r2 : Reps G Fz ys es := zip_hv el2 fun q hq => hh q (List.mem_append_left _ hq)
    by_cases hl : es.length = ks.length
    · rw [if_pos hl] at p
      refine ⟨rfl, el2.trans hl, ?_⟩
      rw [hgV]
      exact spF_mono (call_spV (hnp es hl) rl (hbl.rel G Fz _ _ _ _ .nil r2) p) fun c y H h => hw _ _ _ _ _ h
    · rw [if_neg hl] at p; exact p.elim
theorem kbn_of {K : PySem.W.Frag} {qual : Str} {params : Arguments} {body : List Stmt} {scope : Scope} {kws : List (Str × V)} (F : FunD K x qual params body scope [] kws fa fd) (n : Nat) (gp : {α : Type} → List α → List α → List α)
    (hrel : ∀ {vs zs : List V} {us ws : List Value}, Vals vs us → Vals zs ws → Vals (gp vs zs) (gp us ws))
    (h : ∀ (kV doc pm : Value) (an : Option Addr) (cdv ct : Value) (us ws : List Value), us.length = n → ws.length = ks.length → bindArgs (PySem.W.fnOf x qual params body scope .none kV doc pm an cdv ct) ⟨us, ks.zip ws⟩ = pure (ps.zip (gp us ws))) :
    KBn K fd ps n ks (fun us ws => gp us ws) (fun vs zs => gp vs zs) := by
  obtain ⟨oc, od, dV, kV, doc, pm, an, cdv, ct, osl, rfl, lk, hcd, hD, hK⟩ := F.ex
  rcases hD with ⟨_, rfl⟩ | ⟨e, _⟩
  · exact ⟨fun s us ws _ l1 l2 => .of_eq (h kV doc pm an cdv ct us ws l1 l2), fun r1 r2 => hrel r1 r2⟩
  · exact absurd rfl e
end
end Eng

end
section
set_option Elab.async false
set_option linter.all false
set_option autoImplicit false
set_option maxRecDepth 100000
set_option maxHeartbeats 2000000
namespace Eng
open PySem PySem.Spec L2
open PyProof.Rows hiding St

/-! ### what the head tells: defs wherever they stand, and what is asked besides -/
structure DefX where
  ad : PySem.W.Frag → Addr
  name : Str
  qual : Str
  params : Arguments
  body : List Stmt
  scope : Scope
  dfl : List V := []
  kwd : List (Str × V) := []
def fdOf (K : PySem.W.Frag) (a : Addr) : FuncData := match K.lookup a with
  | some ⟨_, _, .func fd, _⟩ => fd
  | _ => PySem.W.fnOf "" "" ⟨[], [], none, [], [], none, []⟩ [] ⟨.function, [], false, false, []⟩ .none .none .none .none none .none .none
def fnX (K : PySem.W.Frag) (a : Addr) : He.FnW := match K.lookup a with
  | some ⟨_, _, .func fd, _⟩ => some (fd.name, fd.qualname, fd.params, fd.body, fd.scope, fd.globals, fd.closure, fd.builtins)
  | _ => none
def DefX.val (d : DefX) : He.FnW := some (d.name, d.qual, d.params, .stmts d.body, d.scope, mainGlobals, [], builtinsNs)
def DefX.ok (K : PySem.W.Frag) (d : DefX) : Bool := PySem.W.keepIn K (.ref (d.ad K)) && (match K.lookup (d.ad K) with
  | some ⟨_, _, .func fd, _⟩ => PySem.W.codeIn K fd.code d.qual && (He.dflB K fd.defaults d.dfl && He.kwdB K fd.kwdefaults d.kwd)
  | _ => false)
theorem DefX.funD {K : PySem.W.Frag} {d : DefX} (e : fnX K (d.ad K) = d.val) (c : d.ok K = true) : FunD K d.name d.qual d.params d.body d.scope d.dfl d.kwd (d.ad K) (fdOf K (d.ad K)) := by
  obtain ⟨kp, c2⟩ := Bool.and_eq_true_iff.mp c
  unfold fnX at e
  unfold fdOf
  cases q : K.lookup (d.ad K) with
  | none =>
    rw [q] at c2
    cases c2
  | some o =>
    obtain ⟨oc, od, dt, osl⟩ := o
    rw [q] at c2 e
    cases dt with
    | func fd =>
      obtain ⟨n1, n2, n3, n4, n5, n6, n7, n8, n9, n10, n11, n12, n13, n14, n15⟩ := fd
      have e2 : (some (n1, n2, n3, n4, n5, n6, n7, n15) : He.FnW) = some (d.name, d.qual, d.params, .stmts d.body, d.scope, mainGlobals, [], builtinsNs) := e
      simp only [Option.some.injEq, Prod.mk.injEq] at e2
      obtain ⟨h1, h2, h3, h4, h5, h6, h7, h8⟩ := e2
      subst h1 h2 h3 h4 h5 h6 h7 h8
      have c3 : (PySem.W.codeIn K n13 d.qual && (He.dflB K n8 d.dfl && He.kwdB K n9 d.kwd)) = true := c2
      obtain ⟨k1, k2⟩ := Bool.and_eq_true_iff.mp c3
      obtain ⟨k3, k4⟩ := Bool.and_eq_true_iff.mp k2
      exact ⟨⟨oc, od, n8, n9, n10, n11, n12, n13, n14, osl, rfl, q, k1, He.dflB_ok k3, He.kwdB_ok k4⟩, kp⟩
    | _ => cases c2
abbrev AlX : Type := Bool × List He.FnW
def obsX (fa : List He.Fa) (fn : List DefX) (ex : PySem.W.Frag → Bool) (K : PySem.W.Frag) : AlX := ((fa.all fun f => f.ok K) && ((fn.all fun d => d.ok K) && ex K), fn.map fun d => fnX K (d.ad K))
def valX (fn : List DefX) : AlX := (true, fn.map DefX.val)
def SaysX (fa : List He.Fa) (fn : List DefX) (ex : PySem.W.Frag → Bool) (K : PySem.W.Frag) : Prop := obsX fa fn ex K = valX fn
def obsXG (n : Nat) (fa : List He.Fa) (fn : List DefX) (ex : PySem.W.Frag → Bool) (g : Addr → Option Obj) : AlX := obsX fa fn ex (He.frG g (He.asD g n))
def hookX (n : Nat) (fa : List He.Fa) (fn : List DefX) (ex : PySem.W.Frag → Bool) : PySem.W.Hook where
  α := AlX
  obs := fun s => obsXG n fa fn ex s.heap.get?
  val := fun _ => valX fn
  says := fun _ h => ∃ K : PySem.W.Frag, K.In h ∧ SaysX fa fn ex K
  of := fun _ _ e => ⟨_, He.frG_in, e⟩
  keeps := fun _ _ _ ⟨K, hK, c⟩ k => ⟨K, PySem.W.Frag.In.keeps hK k, c⟩
theorem obsXG_eq {n : Nat} {fa : List He.Fa} {fn : List DefX} {ex : PySem.W.Frag → Bool} {g : Addr → Option Obj} {s : Shared} (h : ∀ a, g a = s.heap.get? a) : obsXG n fa fn ex g = (hookX n fa fn ex).obs s := by
  have e : g = s.heap.get? := funext h
  rw [e] <;> rfl
/-- the written part, what it says, the module's names -/
structure Hd (fa : List He.Fa) (fn : List DefX) (ex : PySem.W.Frag → Bool) (K : PySem.W.Frag) (mg : Str → Option Value) : Prop where
  says : SaysX fa fn ex K
  hp : ∃ h, K.In h ∧ h.Ns mainGlobals mg
section
variable {fa : List He.Fa} {fn : List DefX} {ex : PySem.W.Frag → Bool} {K : PySem.W.Frag} {mg : Str → Option Value}
theorem Hd.fact (T : Hd fa fn ex K mg) (i : Nat) {f : He.Fa} (h : fa[i]? = some f := by rfl) : f.ok K = true := by
  have c1 := (Bool.and_eq_true_iff.mp (show ((fa.all fun f => f.ok K) && ((fn.all fun d => d.ok K) && ex K)) = true from congrArg (fun z : AlX => z.1) T.says)).1
  exact List.all_eq_true.mp c1 f (List.mem_of_getElem? h)
theorem Hd.exs (T : Hd fa fn ex K mg) : ex K = true :=
  (Bool.and_eq_true_iff.mp (Bool.and_eq_true_iff.mp (show ((fa.all fun f => f.ok K) && ((fn.all fun d => d.ok K) && ex K)) = true from congrArg (fun z : AlX => z.1) T.says)).2).2
theorem Hd.def_ (T : Hd fa fn ex K mg) (i : Nat) {d : DefX} (h : fn[i]? = some d := by rfl) : FunD K d.name d.qual d.params d.body d.scope d.dfl d.kwd (d.ad K) (fdOf K (d.ad K)) := by
  have c2 := (Bool.and_eq_true_iff.mp (Bool.and_eq_true_iff.mp (show ((fa.all fun f => f.ok K) && ((fn.all fun d => d.ok K) && ex K)) = true from congrArg (fun z : AlX => z.1) T.says)).2).1
  have e : fn.map (fun d => fnX K (d.ad K)) = fn.map DefX.val := congrArg (fun z : AlX => z.2) T.says
  have e2 : (fn.map fun d => fnX K (d.ad K))[i]? = (fn.map DefX.val)[i]? := by rw [e]
  rw [List.getElem?_map, List.getElem?_map, h] at e2
  exact DefX.funD (Option.some.inj e2) (List.all_eq_true.mp c2 d (List.mem_of_getElem? h))
theorem Hd.glo (T : Hd fa fn ex K mg) (i : Nat) {x : Str} (h : fa[i]? = some (.glo x) := by rfl) : mg x = some (.ref (He.ga K x)) := let ⟨_, X, N⟩ := T.hp; He.glo_ok X N (T.fact i h)
theorem Hd.free (T : Hd fa fn ex K mg) (i : Nat) {x : Str} (h : fa[i]? = some (.free x) := by rfl) : mg x = none := let ⟨_, X, N⟩ := T.hp; He.free_ok X N (T.fact i h)
theorem Hd.int (T : Hd fa fn ex K mg) (i : Nat) {x : Str} {z : Int} (h : fa[i]? = some (.int x z) := by rfl) : ∃ t, mg x = some (.int z t) := let ⟨_, X, N⟩ := T.hp; He.int_ok X N (T.fact i h)
theorem Hd.meth (T : Hd fa fn ex K mg) (i : Nat) {x m : Str} (h : fa[i]? = some (.meth x m) := by rfl) : Meth K (He.ga K x) m (He.ma K (He.ga K x) m) := He.meth_ok (T.fact i h)
theorem Hd.mkr (T : Hd fa fn ex K mg) (i : Nat) {x : Str} (h : fa[i]? = some (.mkr x) := by rfl) : Mk K (He.ga K x) (He.ma K (He.ga K x) "__init__") := He.mkr_ok (T.fact i h)
theorem Hd.noat (T : Hd fa fn ex K mg) (i : Nat) {x f : Str} (h : fa[i]? = some (.noat x f) := by rfl) : NoAttr K (He.ga K x) f := He.noat_ok (T.fact i h)
end
/-- what is asked of a class of instances -/
def insB (K : PySem.W.Frag) (C : Addr) : Bool :=
  (PySem.W.plainGet K C Str.empty && (PySem.W.hasDictIn K C && (PySem.W.plainOver K C && He.eqO (PySem.W.findIn K (.ref C) "__setattr__") (some (some (.builtin "object.__setattr__")))))) &&
  (He.eqO (PySem.W.findIn K (.ref C) "__class__") (some (some (.builtin "object.__class__"))) && (He.eqO (PySem.W.specialIn K (.builtin "object.__class__") "__get__") (some (some (.builtin "getset_descriptor.__get__"))) &&
  (decide (PySem.W.takesIn K (.builtin "object.__class__") = some true) && (decide (PySem.W.mroIn K C (.type "object") = some true) &&
  ((tyNames2.all fun n => decide (PySem.W.kitOne K (.ref C) (.type n) = some false)) && (tyNames.all fun n => decide (PySem.W.kitOne K (.type n) (.ref C) = some false)))))))
theorem insB_ok {K : PySem.W.Frag} {C : Addr} (h : insB K C = true) : InsOk K C := by
  obtain ⟨h1, h2⟩ := Bool.and_eq_true_iff.mp h
  obtain ⟨a1, h1⟩ := Bool.and_eq_true_iff.mp h1
  obtain ⟨a2, h1⟩ := Bool.and_eq_true_iff.mp h1
  obtain ⟨a3, a4⟩ := Bool.and_eq_true_iff.mp h1
  obtain ⟨b1, h2⟩ := Bool.and_eq_true_iff.mp h2
  obtain ⟨b2, h2⟩ := Bool.and_eq_true_iff.mp h2
  obtain ⟨b3, h2⟩ := Bool.and_eq_true_iff.mp h2
  obtain ⟨b4, h2⟩ := Bool.and_eq_true_iff.mp h2
  obtain ⟨b5, b6⟩ := Bool.and_eq_true_iff.mp h2
  exact ⟨⟨a1, a2, a3, He.eqO_ok a4⟩, He.eqO_ok b1, He.eqO_ok b2, of_decide_eq_true b3, of_decide_eq_true b4, fun n hn => of_decide_eq_true (List.all_eq_true.mp b5 n hn), fun n hn => of_decide_eq_true (List.all_eq_true.mp b6 n hn)⟩
/-- the classes by names -/
def kxOf (K : PySem.W.Frag) (cs es : List (Str × List Str)) : Kx := ⟨K, cs.map fun p => (He.ga K p.1, p.2), es.map fun p => (He.ga K p.1, p.2), none⟩
/-- the classes that stand above the class at a: b is the base of all errors -/
def mroE (b a : Addr) : List Value := if a = b then .ref b :: He.veBase else .ref a :: .ref b :: He.veBase
theorem mroE_has {b a e : Addr} : (mroE b a).contains (.ref e) = (decide (e = a) || decide (e = b)) := by
  have no : He.veBase.contains (.ref e) = false := by simp [He.veBase]
  have eq : ∀ u v : Addr, (Value.ref u == Value.ref v) = decide (u = v) := fun u v => by
    by_cases h : u = v
    · subst h; simp
    · simp [h]
  unfold mroE
  split
  · rename_i h
    rw [List.contains_cons, no, eq, h]
    simp
  · rw [List.contains_cons, List.contains_cons, no, eq, eq]
    simp
theorem mroE_ty {b a : Addr} {n : String} : (mroE b a).contains (.type n) = He.veBase.contains (.type n) := by
  unfold mroE
  split
  · rw [List.contains_cons, show (Value.type n == Value.ref b) = false from rfl, Bool.false_or]
  · rw [List.contains_cons, List.contains_cons, show (Value.type n == Value.ref a) = false from rfl, show (Value.type n == Value.ref b) = false from rfl, Bool.false_or, Bool.false_or]
theorem mroE_ne {b a : Addr} : (mroE b a).isEmpty = false := by unfold mroE; split <;> rfl
/-- what is asked of a class of errors -/
def errB (K : PySem.W.Frag) (b a : Addr) : Bool := (match K.lookup a with
  | some ⟨.type "type", _, .cls cd, sl⟩ => decide (cd.mro = mroE b a) && (!cd.hasDel && (cd.hasDict && (match sl.toList with
    | [_, _, _, _, some (.builtin n), _] => n == "ValueError.__new__"
    | _ => false)))
  | _ => false) && (PySem.W.keepIn K (.ref a) && (He.eqO (PySem.W.findIn K (.ref a) "__setattr__") (some (some (.builtin "object.__setattr__"))) && (He.eqO (PySem.W.findIn K (.ref a) "__getattribute__") (some (some (.builtin "BaseException.__getattribute__"))) &&
  (He.eqO (PySem.W.findIn K (.ref a) "__getattr__") (some none) && He.eqO (PySem.W.findIn K (.ref a) "__class__") (some (some (.builtin "object.__class__")))))))
/-- a class that is known: its line -/
structure Lin (K : PySem.W.Frag) (a : Addr) (l : List Value) : Prop where
  cl : ∃ cd, PySem.W.clsIn K a = some cd ∧ cd.mro = l
  ty : PySem.W.typeIn K (.ref a) = some (.type "type")
theorem Lin.sub {K : PySem.W.Frag} {a : Addr} {l : List Value} (h : Lin K a l) (hl : l.isEmpty = false) (v : Value) : PySem.W.subIn K (.ref a) v = some (l.contains v) := by
  obtain ⟨cd, e, rfl⟩ := h.cl
  show (PySem.W.clsIn K a).bind _ = _
  rw [e]
  show (if cd.mro.isEmpty = true then none else some (cd.mro.contains v)) = _
  rw [hl]
  rfl
theorem Lin.kit {K : PySem.W.Frag} {a : Addr} {l : List Value} (h : Lin K a l) (t : Value) : PySem.W.kitCls K t (.ref a) = PySem.W.subIn K t (.ref a) := by
  obtain ⟨cd, e, _⟩ := h.cl
  show (if ((PySem.W.clsIn K a).isSome && PySem.W.typeIn K (.ref a) == some (.type "type")) = true then _ else _) = _
  rw [e, h.ty, if_pos (by simp)]
theorem errB_lin {K : PySem.W.Frag} {b a : Addr} (h : errB K b a = true) : Lin K a (mroE b a) ∧ OexC K a ∧ (PySem.W.hasDictIn K a = true) := by
  obtain ⟨q, h⟩ := Bool.and_eq_true_iff.mp h
  obtain ⟨h1, h⟩ := Bool.and_eq_true_iff.mp h
  obtain ⟨h2, h⟩ := Bool.and_eq_true_iff.mp h
  split at q
  · rename_i dd cd sl lk
    obtain ⟨q1, z⟩ := Bool.and_eq_true_iff.mp q
    obtain ⟨q2, z⟩ := Bool.and_eq_true_iff.mp z
    obtain ⟨q3, z4⟩ := Bool.and_eq_true_iff.mp z
    have em := of_decide_eq_true q1
    clear q z
    split at z4
    · rename_i k0 k1 k2 k3 n k5 hs
      obtain ⟨nm, bs, mro, ns, qn, hd, sn, sub, ab, col, del⟩ := cd
      dsimp only at em q2 q3
      subst em q3
      obtain rfl : del = false := by simpa using q2
      obtain rfl : n = "ValueError.__new__" := eq_of_beq z4
      have hsl : sl = #[k0, k1, k2, k3, some (.builtin "ValueError.__new__"), k5] := by
        obtain ⟨l⟩ := sl
        simp only at hs
        rw [hs]
      subst hsl
      have lin : Lin K a (mroE b a) := ⟨⟨_, by unfold PySem.W.clsIn; rw [lk], rfl⟩, by show (K.lookup a).map _ = _; rw [lk]; rfl⟩
      have line : ∃ rest, mroE b a = .ref a :: rest ∧ PySem.HandSPX.refsVE rest = true := by
        unfold mroE
        split
        · rename_i z; rw [z]; exact ⟨_, rfl, by decide +kernel⟩
        · exact ⟨_, rfl, by show PySem.HandSPX.refsVE He.veBase = true; decide +kernel⟩
      obtain ⟨rest, el, ve⟩ := line
      refine ⟨lin, ⟨⟨nm, qn, ns, bs, rest, sn, sub, ab, col, dd, k0, k1, k2, k3, k5, ?_, ve⟩, He.eqO_ok h2, ?_, lin.ty, h1⟩, ?_⟩
      · rw [lk, el]
      · rw [lin.sub mroE_ne, mroE_ty]; decide +kernel
      · unfold PySem.W.hasDictIn PySem.W.clsIn; rw [lk]; rfl
    · cases z4
  · cases q
def objB (K : PySem.W.Frag) : Bool := He.eqO (PySem.W.specialIn K (.builtin "object.__class__") "__get__") (some (some (.builtin "getset_descriptor.__get__"))) && decide (PySem.W.takesIn K (.builtin "object.__class__") = some true)
theorem errB_ok {K : PySem.W.Frag} {b a : Addr} (ho : objB K = true) (h : errB K b a = true) : ErrOk K a := by
  obtain ⟨lin, ox, hd⟩ := errB_lin h
  obtain ⟨_, h⟩ := Bool.and_eq_true_iff.mp h
  obtain ⟨_, h⟩ := Bool.and_eq_true_iff.mp h
  obtain ⟨_, h⟩ := Bool.and_eq_true_iff.mp h
  obtain ⟨h3, h⟩ := Bool.and_eq_true_iff.mp h
  obtain ⟨h4, h5⟩ := Bool.and_eq_true_iff.mp h
  obtain ⟨o1, o2⟩ := Bool.and_eq_true_iff.mp ho
  have obj : PySem.W.mroIn K a (.type "object") = some true := by
    have q := lin.sub mroE_ne (.type "object")
    rw [mroE_ty] at q
    exact q.trans (by decide +kernel)
  refine ⟨⟨He.eqO_ok h3, He.eqO_ok h4, ox.exC, hd, He.eqO_ok h5, He.eqO_ok o1, of_decide_eq_true o2, obj⟩, ox, fun n hn => ?_, fun n hn => ?_⟩
  · have k : PySem.W.kitOne K (.ref a) (.type n) = if PySem.W.kitMeta n = true then some (He.veBase.contains (.type n)) else none := by
      show (if (Value.ref a == Value.type n) = true then some true else PySem.W.kitCls K (.ref a) (.type n)) = _
      rw [if_neg (by intro z; cases z)]
      show (if PySem.W.kitMeta n = true then PySem.W.subIn K (.ref a) (.type n) else none) = _
      rw [lin.sub mroE_ne, mroE_ty]
    rw [k]
    exact (by decide +kernel : ∀ n ∈ tyNames2, (if PySem.W.kitMeta n = true then some (He.veBase.contains (.type n)) else none) = some (tyIs "ValueError" n)) n hn
  · show (if (Value.type n == Value.ref a) = true then some true else PySem.W.kitCls K (.type n) (.ref a)) = _
    rw [if_neg (by intro z; cases z), lin.kit]
    show (PySem.fastBuiltinMro n).map (·.contains (Value.ref a)) = some false
    have all : ∀ n ∈ tyNames, ∃ l : List String, PySem.fastBuiltinMro n = some (l.map Value.type) := by
      have q : ∀ n ∈ tyNames, PySem.fastBuiltinMro n = some (((PySem.fastBuiltinMro n).getD []).map fun v => Value.type (match v with | .type s => s | _ => "")) := by decide +kernel
      exact fun n hn => ⟨((PySem.fastBuiltinMro n).getD []).map fun v => (match v with | .type s => s | _ => ""), by rw [List.map_map]; exact q n hn⟩
    obtain ⟨l, e⟩ := all n hn
    rw [e]
    show some _ = some false
    congr 1
    simp
/-- two lists of classes, each pair -/
def pairB (K : PySem.W.Frag) (as bs : List (Str × List Str)) (f : PySem.W.Frag → Value → Value → Option Bool) (g : Nat → Nat → Bool) : Bool :=
  as.zipIdx.all fun p => bs.zipIdx.all fun q => decide (f K (.ref (He.ga K p.1.1)) (.ref (He.ga K q.1.1)) = some (g p.2 q.2))
theorem at_of {K : PySem.W.Frag} {cs : List (Str × List Str)} {c : Nat} {C : Addr} {ns : List Str} (e : (cs.map fun p => (He.ga K p.1, p.2))[c]? = some (C, ns)) : ∃ p, cs[c]? = some p ∧ C = He.ga K p.1 ∧ ns = p.2 := by
  rw [List.getElem?_map] at e
  cases q : cs[c]? with
  | none => rw [q] at e; cases e
  | some p => rw [q] at e; cases e; exact ⟨p, rfl, rfl, rfl⟩
theorem pairB_ok {K : PySem.W.Frag} {as bs : List (Str × List Str)} {f : PySem.W.Frag → Value → Value → Option Bool} {g : Nat → Nat → Bool} (h : pairB K as bs f g = true) {c d : Nat} {C E : Addr} {ns ms : List Str}
    (e1 : (as.map fun p => (He.ga K p.1, p.2))[c]? = some (C, ns)) (e2 : (bs.map fun p => (He.ga K p.1, p.2))[d]? = some (E, ms)) : f K (.ref C) (.ref E) = some (g c d) := by
  obtain ⟨p, hp, rfl, rfl⟩ := at_of e1
  obtain ⟨q, hq, rfl, rfl⟩ := at_of e2
  have m1 : (p, c) ∈ as.zipIdx := List.mem_zipIdx_iff_getElem?.mpr hp
  have m2 : (q, d) ∈ bs.zipIdx := List.mem_zipIdx_iff_getElem?.mpr hq
  exact of_decide_eq_true (List.all_eq_true.mp (List.all_eq_true.mp h (p, c) m1) (q, d) m2)
/-- an instance's class: its line -/
def linB (K : PySem.W.Frag) (a : Addr) : Bool := decide ((PySem.W.clsIn K a).map (·.mro) = some [.ref a, .type "object"]) && decide (PySem.W.typeIn K (.ref a) = some (.type "type"))
theorem linB_ok {K : PySem.W.Frag} {a : Addr} (h : linB K a = true) : Lin K a [.ref a, .type "object"] := by
  obtain ⟨h1, h2⟩ := Bool.and_eq_true_iff.mp h
  obtain ⟨cd, e, q⟩ := Option.map_eq_some_iff.mp (of_decide_eq_true h1)
  exact ⟨⟨cd, e, q⟩, of_decide_eq_true h2⟩
def adrs (K : PySem.W.Frag) (l : List (Str × List Str)) : List Addr := l.map fun p => He.ga K p.1
def clsB (K : PySem.W.Frag) (cs es : List (Str × List Str)) : Bool :=
  (cs.all fun p => insB K (He.ga K p.1)) && (pairB K cs cs PySem.W.kitOne (fun c d => decide (c = d)) && (es.isEmpty || (objB K && ((adrs K es).all (errB K ((adrs K es).headD 0)) && ((adrs K cs).all (linB K) && decide ((adrs K es ++ adrs K cs).Nodup))))))
theorem clsB_ok {K : PySem.W.Frag} {cs es : List (Str × List Str)} (h : clsB K cs es = true) : KOk (kxOf K cs es) := by
  obtain ⟨h1, h⟩ := Bool.and_eq_true_iff.mp h
  obtain ⟨h2, h3⟩ := Bool.and_eq_true_iff.mp h
  -- where an error stands
  have at2 : ∀ {l : List (Str × List Str)} {c : Nat} {C : Addr} {ns : List Str}, (l.map fun p => (He.ga K p.1, p.2))[c]? = some (C, ns) → (adrs K l)[c]? = some C := fun {l c C ns} e => by
    obtain ⟨p, hp, rfl, rfl⟩ := at_of e
    unfold adrs
    rw [List.getElem?_map, hp]
    rfl
  have facts : ∀ {d : Nat} {E : Addr}, (adrs K es)[d]? = some E → objB K = true ∧ (∀ a ∈ adrs K es, errB K ((adrs K es).headD 0) a = true) ∧ (∀ a ∈ adrs K cs, linB K a = true) ∧ (adrs K es ++ adrs K cs).Nodup := fun {d E} e => by
    rcases Bool.or_eq_true_iff.mp h3 with z | z
    · have z' : es = [] := by simpa using z
      subst z'
      simp [adrs] at e
    · obtain ⟨q1, z⟩ := Bool.and_eq_true_iff.mp z
      obtain ⟨q2, z⟩ := Bool.and_eq_true_iff.mp z
      obtain ⟨q3, q4⟩ := Bool.and_eq_true_iff.mp z
      exact ⟨q1, List.all_eq_true.mp q2, List.all_eq_true.mp q3, of_decide_eq_true q4⟩
  have inj : ∀ {c d : Nat} {C E : Addr}, (adrs K es)[c]? = some C → (adrs K es)[d]? = some E → (decide (E = C) || decide (E = (adrs K es).headD 0)) = subE c d := fun {c d C E} e1 e2 => by
    obtain ⟨_, _, _, nd⟩ := facts e1
    have nd := (List.nodup_append.mp nd).1
    have ix : ∀ {i j : Nat} {a : Addr}, (adrs K es)[i]? = some a → (adrs K es)[j]? = some a → i = j := fun {i j a} q1 q2 => by
      obtain ⟨l1, g1⟩ := List.getElem?_eq_some_iff.mp q1
      obtain ⟨l2, g2⟩ := List.getElem?_eq_some_iff.mp q2
      exact (List.getElem_inj nd).mp (g1.trans g2.symm)
    have hd : (adrs K es)[0]? = some ((adrs K es).headD 0) := by
      cases q : adrs K es with
      | nil => rw [q] at e1; simp at e1
      | cons x r => rfl
    unfold subE
    congr 1
    · by_cases z : E = C
      · subst z; rw [ix e1 e2]; simp
      · have : c ≠ d := fun y => by subst y; rw [e1] at e2; exact z (Option.some.inj e2).symm
        simp [z, this]
    · by_cases z : E = (adrs K es).headD 0
      · rw [decide_eq_true z]
        rw [← z] at hd
        rw [ix e2 hd]
        rfl
      · have : d ≠ 0 := fun y => by subst y; rw [hd] at e2; exact z (Option.some.inj e2).symm
        rw [decide_eq_false z]
        exact (beq_eq_false_iff_ne.mpr this).symm
  have ap : ∀ {c d : Nat} {C E : Addr}, (adrs K cs)[c]? = some C → (adrs K es)[d]? = some E → C ≠ E := fun {c d C E} e1 e2 z => by
    obtain ⟨_, _, _, nd⟩ := facts e2
    exact (List.nodup_append.mp nd).2.2 _ (List.mem_of_getElem? e2) _ (List.mem_of_getElem? e1) z.symm
  have lin : ∀ {c : Nat} {C : Addr}, (adrs K es)[c]? = some C → Lin K C (mroE ((adrs K es).headD 0) C) := fun {c C} e => (errB_lin ((facts e).2.1 C (List.mem_of_getElem? e))).1
  have kit : ∀ {t : Value} {a : Addr} {l : List Value}, Lin K a l → (t == .ref a) = false → PySem.W.kitOne K t (.ref a) = PySem.W.subIn K t (.ref a) := fun {t a l} hl hn => by
    show (if (t == Value.ref a) = true then some true else PySem.W.kitCls K t (.ref a)) = _
    rw [hn, if_neg Bool.false_ne_true, hl.kit]
  have rne : ∀ {a e : Addr}, a ≠ e → (Value.ref a == Value.ref e) = false := fun {a e} z => by simp [z]
  refine ⟨fun c C ns e => ?_, fun c d C E ns ms e1 e2 => ?_, fun c d C E ns ms e1 e2 => ?_, fun c d C E ns ms e1 e2 => ?_, fun c d C E ns ms e1 e2 => ?_, fun c C ns e => ?_, fun c d C E ns ms e1 e2 => pairB_ok h2 e1 e2⟩
  · obtain ⟨o, al, _⟩ := facts (at2 e)
    exact errB_ok o (al C (List.mem_of_getElem? (at2 e)))
  · have e1 := at2 e1
    have e2 := at2 e2
    rw [← inj e1 e2]
    by_cases z : C = E
    · subst z
      have self : PySem.W.kitOne K (.ref C) (.ref C) = some true := by unfold PySem.W.kitOne; rw [if_pos (by simp)]
      exact self.trans (by simp)
    · refine (kit (lin e2) (rne z)).trans ?_
      show PySem.W.subIn K (.ref C) (.ref E) = _
      rw [(lin e1).sub mroE_ne, mroE_has]
  · have e1 := at2 e1
    have e2 := at2 e2
    have ne := ap e1 e2
    refine (kit (lin e2) (rne ne)).trans ?_
    show PySem.W.subIn K (.ref C) (.ref E) = _
    rw [(linB_ok ((facts e2).2.2.1 C (List.mem_of_getElem? e1))).sub rfl]
    simp [Ne.symm ne]
  · have e1 := at2 e1
    have e2 := at2 e2
    have ne := ap e2 e1
    refine (kit (linB_ok ((facts e1).2.2.1 E (List.mem_of_getElem? e2))) (rne (Ne.symm ne))).trans ?_
    show PySem.W.subIn K (.ref C) (.ref E) = _
    have hd : (adrs K es)[0]? = some ((adrs K es).headD 0) := by
      cases q : adrs K es with
      | nil => rw [q] at e1; simp at e1
      | cons x r => rfl
    rw [(lin e1).sub mroE_ne, mroE_has, decide_eq_false ne, decide_eq_false (ap e2 hd)]
    rfl
  · have e1 := at2 e1
    have e2 := at2 e2
    rw [← inj e1 e2]
    have hb : (PySem.W.subIn K (.ref E) (.type "BaseException") == some true) = true := by
      have q := (errB_lin ((facts e2).2.1 E (List.mem_of_getElem? e2))).2.1.exC
      rw [q]; rfl
    show (if (PySem.W.subIn K (.ref E) (.type "BaseException") == some true) = true then PySem.W.kitCls K (.ref C) (.ref E) else none) = _
    rw [if_pos hb, (lin e2).kit, (lin e1).sub mroE_ne, mroE_has]
  · obtain ⟨p, hp, rfl, rfl⟩ := at_of e
    exact insB_ok (List.all_eq_true.mp h1 p (List.mem_of_getElem? hp))
/-- a class of errors that has its own __init__ -/
def einiB (K : PySem.W.Frag) (x : Str) (fs : List Str) : Bool := He.eqO (PySem.W.findIn K (.ref (He.ga K x)) "__init__") (some (some (.ref (He.ma K (He.ga K x) "__init__")))) && (decide (PySem.W.typeIn K (.ref (He.ma K (He.ga K x) "__init__")) = some (.type "function")) && fs.all fun f => He.eqO (PySem.W.findIn K (.ref (He.ga K x)) f) (some none))
structure EIni (K : PySem.W.Frag) (C fI : Addr) (fs : List Str) : Prop where
  iC : PySem.W.findIn K (.ref C) "__init__" = some (some (.ref fI))
  tI : PySem.W.typeIn K (.ref fI) = some (.type "function")
  no : ∀ f ∈ fs, PySem.W.findIn K (.ref C) f = some none
theorem einiB_ok {K : PySem.W.Frag} {x : Str} {fs : List Str} (h : einiB K x fs = true) : EIni K (He.ga K x) (He.ma K (He.ga K x) "__init__") fs := by
  obtain ⟨h1, h⟩ := Bool.and_eq_true_iff.mp h
  obtain ⟨h2, h3⟩ := Bool.and_eq_true_iff.mp h
  exact ⟨He.eqO_ok h1, of_decide_eq_true h2, fun f hf => He.eqO_ok (List.all_eq_true.mp h3 f hf)⟩
/-- a property's getter -/
def getterOf (K : PySem.W.Frag) (x f : Str) : Addr := match PySem.W.recIn K (He.ma K (He.ga K x) f) "property" with
  | some (.ref g :: _) => g
  | _ => 0
def propB (K : PySem.W.Frag) (x f : Str) : Bool :=
  He.eqO (PySem.W.findIn K (.ref (He.ga K x)) f) (some (some (.ref (He.ma K (He.ga K x) f)))) && (He.eqO (PySem.W.specialIn K (.ref (He.ma K (He.ga K x) f)) "__get__") (some (some (.builtin "property.__get__"))) &&
  (decide (PySem.W.takesIn K (.ref (He.ma K (He.ga K x) f)) = some true) && (match PySem.W.recIn K (He.ma K (He.ga K x) f) "property" with
    | some (.ref _ :: _) => true
    | _ => false)))
theorem propB_ok {K : PySem.W.Frag} {x f : Str} (h : propB K x f = true) : PropOf K (He.ga K x) f (He.ma K (He.ga K x) f) (getterOf K x f) := by
  obtain ⟨a1, h⟩ := Bool.and_eq_true_iff.mp h
  obtain ⟨a2, h⟩ := Bool.and_eq_true_iff.mp h
  obtain ⟨a3, a4⟩ := Bool.and_eq_true_iff.mp h
  refine ⟨He.eqO_ok a1, He.eqO_ok a2, of_decide_eq_true a3, ?_⟩
  unfold getterOf
  cases e : PySem.W.recIn K (He.ma K (He.ga K x) f) "property" with
  | none => rw [e] at a4; cases a4
  | some l =>
    cases l with
    | nil => rw [e] at a4; cases a4
    | cons v r =>
      cases v with
      | ref g => exact ⟨r, rfl⟩
      | _ => rw [e] at a4; cases a4
def ordB (K : PySem.W.Frag) (x : Str) : Bool := PySem.W.selfFirst K (He.ga K x) && PySem.W.notFirst K (He.ga K x) (.ref (He.ga K x))

/-! ### the law -/
theorem law_sp {G : Kx} (hG : G.hot = none) {F : M Slot} {H : Hp} {a : Addr} {ns : List Int} (hS : SqL G.K H a (ns.map V.int)) (hl : ns.length ≤ sizeLine) (h : ∃ e, F [.fro (.scr ns)] = .ok (.fro (.bl true)) e) : spF G 1 F [.ref a] H (fun v _ => v = .bl true) (fun _ _ _ => False) := by
  obtain ⟨e, he⟩ := h
  refine ⟨H, [.fro (.scr ns)], ⟨fun _ _ h => h, rfl, fun i s ei => ?_, fun i j si sj b ei ej mi mj _ _ => ?_, fun x e => by rw [hG] at e; cases e⟩, rfl, fun s hs => by rw [List.mem_singleton.mp hs]; rfl, ?_⟩
  · cases i with
    | zero => simp at ei; subst ei; exact ⟨_, rfl, _, rfl, .scr hS hl⟩
    | succ i => simp at ei
  · cases i with
    | zero => simp at ei; subst ei; cases mi
    | succ i => simp at ei
  · rw [he]
    intro Fz' v H' _ _ rv
    have rv : Rep G Fz' v (.bl true) := rv
    cases rv; rfl
end Eng

end
section
set_option Elab.async false
set_option linter.all false
set_option autoImplicit false
set_option maxRecDepth 100000
set_option maxHeartbeats 2000000
namespace Eng
open PySem PySem.Spec L2
open PyProof.Rows hiding St

theorem hu65 {k : Nat} {A : Around} (r : Room k A) : A.units + 65 < cLine := by have := r.un; omega
theorem tgi_nm {i : Nat} {vs : List Nat} (h : i ∈ vs) : (Tg.nm i).ins vs := h
theorem tgi_tp {is vs : List Nat} (h : ∀ i ∈ is, i ∈ vs) : (Tg.tp is).ins vs := h
def fPop0 (l : List D) : List D → Option (List D × D) := fun ds => match ds with
  | [] => fPop l []
  | _ => none
def fPop1 (l : List D) : List D → Option (List D × D) := fun ds => match ds with
  | [i] => fPop l [i]
  | _ => none
theorem s_pop0 {G : Kx} : MutS G rPop fPop0 := s_pop
theorem s_pop1 {G : Kx} : MutS G rPopAt fPop1 := s_popAt
section
variable {G : Kx} {X : Cx} {W : WX} {e a b c tg iter elt o : Expr} {es ifs : List Expr} {pos p spos cpos apos pos' : Pos} {ma mb mc : M D} {x f : Str} {σ σ1 : St} {H H1 Fz Fz1 : Hp} {env env1 : En} {E E' : Ends} {hv : List (V × D)}
theorem qe_glob_int {z : Int} (hg : Gl X x) (h : ∃ t, X.mg x = some (.int z t)) (hd : (x == ("__debug__" : Str)) = false := by decide) : QE G X W (.Name x pos) (M.pure (.int z)) :=
  let ⟨t, ht⟩ := h
  qe_c (pe_glob (v := .int z) hg ht ⟨t, rfl⟩ hd) fun _ => .int z
theorem noexc {P : Program} {w : World} {H : Hp} {s : Shared} {e : Value} {s' : Shared} (h : L2N.CX P w [] H s (fun _ _ _ => False) e s') : False := by
  obtain ⟨_, _, _, _, _, _, _, _, _, _, _, _, h⟩ := h
  exact h
theorem ok_bad {P : Program} {w : World} {K : PySem.W.Frag} {mg : Str → Option Value} {base : Heap} {CX : CXT} {k n : Nat} {f : Addr} {fd : FuncData} {ps : List Str} : FnOk P w K mg base CX k f fd ps (spF G n bad) :=
  ⟨fun vs H Q E ⟨Fz, args, r, ln, _, h⟩ => h.elim, fun A outer s H args us vs Q E _ _ _ _ ⟨Fz, args, r, ln, _, h⟩ => h.elim⟩
theorem qe_isisA {ks : List Ck} {us : List Value} {ws : List V} {t : TA} {k : Nat} {tpos : Pos} (ok : KOk G) (hK : X.K = G.K) (hk : Paired (fun (k : Ck) u => k.val G = some u) ks us) (hw : Paired ClsV ws us) (hg : Gl X "isinstance") (hm : X.mg "isinstance" = none) (ha : QE G X W a ma) (hc : PA X es t) (ht : ∀ σ H Q, Q ws H → t σ H Q) (hz : ws.length ≤ 100)
    (h1 : starEach [a, .Tuple es k tpos] X.env = (false, eval a X.env) :: starEach [.Tuple es k tpos] X.env := by rfl) (h2 : starEach [.Tuple es k tpos] X.env = (false, eval (.Tuple es k tpos) X.env) :: starEach [] X.env := by rfl) (hpl : (backTo pos (starEach [.Tuple es k tpos] X.env)).any (·.1) = false := by rfl) :
    QE G X W (.Call (.Name "isinstance" p) [a, .Tuple es k tpos] [] pos) (mIsis ks ma) := qe_isis ok hK hk hw hg hm ha hc ht hz h1 h2 hpl
theorem qe_makeKwA {kws : List Keyword} {k n1 : Nat} {fa C : Addr} {fd : FuncData} {ps ks names : List Str} {g : List Value → List Value → List Value → List Value} {gV : List V → List V → List V} {F : M Slot} {n m : M (List D)} {cc np kn : Nat} {bv : List V → List V → List V} {bd : List D → List D → List D} (hw : WFlat W) (hx : ∀ σ, PassesAt (L2N.CX X.prog X.w) X σ (WE W σ)) (hc : G.cs[cc]? = some (C, names)) (Mk' : Mk X.K C fa) (Fo : FnOk X.prog X.w X.K X.mg X.base (L2N.CX X.prog X.w) k fa fd ps (spF G np F)) (hr : Room (k + 1) X.A) (hg : Gl X x) (hm : X.mg x = some (.ref C)) (hb : ∃ mv, KBn X.K fd ps (n1 + 1) ks (g mv) gV)
    (hbl : Bld bv bd) (hgV : ∀ v vs zs, gV (v :: vs) zs = v :: bv vs zs) (hnp : ∀ ds es : List D, ds.length = n1 → es.length = ks.length → (bd ds es).length + 1 = np) (ha : QA G X W (e :: es) n) (hkw : QK G X W kws m) (hkn : ks.length = kn)
    (hall : (backToKw pos (keywordEach kws X.env)).all (·.1.isSome) = true := by rfl) (hks : (backToKw pos (keywordEach kws X.env)).filterMap (·.1) = ks := by rfl) (hdb : (x == ("__debug__" : Str)) = false := by decide)
    (he : starEach (e :: es) X.env = (false, eval e X.env) :: starEach es X.env := by rfl) (hpl : ((backTo pos (starEach (e :: es) X.env)).any (·.1) || (backToKw pos (keywordEach kws X.env)).any (·.1.isNone)) = false := by rfl) :
    QE G X W (.Call (.Name x p) (e :: es) kws pos) (mMakeKw n1 kn cc names F bd n m) :=
  let ⟨_, hb⟩ := hb
  hkn ▸ qe_makeKw hw hx hc Mk' Fo hr hg hm hb hbl hgV hnp ha hkw hall hks hdb he hpl
theorem qo_callK0A {kws : List Keyword} {k : Nat} {fa : Addr} {fd : FuncData} {ps ks : List Str} {g : List Value → List Value → List Value} {gV : List V → List V → List V} {F : M Slot} {m : M (List D)} {np kn : Nat} (hw : WFlat W) (hx : ∀ σ, PassesAt (L2N.CX X.prog X.w) X σ (WE W σ)) (Fo : FnOk X.prog X.w X.K X.mg X.base (L2N.CX X.prog X.w) k fa fd ps (spF G np F)) (hr : Room k X.A) (hg : Gl X x) (hm : X.mg x = some (.ref fa)) (hk : PySem.W.keepIn X.K (.ref fa) = true) (hb : KBn X.K fd ps 0 ks g gV)
    (hgV : ∀ zs, gV [] zs = [] ++ zs) (hnp : ks.length = np) (hkw : QK G X W kws m) (hkn : ks.length = kn)
    (hall : (backToKw pos (keywordEach kws X.env)).all (·.1.isSome) = true := by rfl) (hks : (backToKw pos (keywordEach kws X.env)).filterMap (·.1) = ks := by rfl) (hdb : (x == ("__debug__" : Str)) = false := by decide)
    (hpl : ((backTo pos (starEach [] X.env)).any (·.1) || (backToKw pos (keywordEach kws X.env)).any (·.1.isNone)) = false := by rfl) :
    QO G X W (.Call (.Name x p) [] kws pos) (mCallK0 kn F (fun a => [] ++ a) m) :=
  hkn ▸ qo_callK0 (bd := fun a b => a ++ b) hw hx Fo hr hg hm hk hb bld_app hgV (fun es h => h.trans hnp) hkw hall hks hdb hpl
theorem t_chain {r r' : R2} {f g : D → D → M D} (hf : Op2K G r f) (hg : Op2 rpD G W r' g) {σ : St} {H : Hp} {Q : VK} (q : tOf rpD G W [] (mChain f g ma mb mc) σ H Q) : tChain r r' (tOf rpD G W [] ma) (tOf rpD G W [] mb) (tOf rpD G W [] mc) σ H Q :=
  (tOf.bind_ backD q).mono fun x H1 ⟨d1, q1⟩ => (tOf.bind_ backD q1).mono fun y H2 ⟨d2, q2⟩ => by
    obtain ⟨Fz, env, rl, hh, p⟩ := q2
    have ry : Rep G Fz y d2 := hh (y, d2) List.mem_cons_self
    have rx : Rep G Fz x d1 := hh (x, d1) (List.mem_cons_of_mem _ List.mem_cons_self)
    rcases hf x y d1 d2 Fz H2 (fun z H3 => ∃ k, z = .bl k ∧ (if k = true then tOf rpD G W [] mc σ H3 fun w' H4 => r' y w' H4 Q else Q (.bl false) H3)) rl.sub rx ry with ⟨z, ez, kz⟩ | ez
    · rw [ez] at p
      refine kz fun v rv => ?_
      have p' : Post rpD G W Fz σ env H2 Q (((dBl z).bind fun t => if t then mc.bind fun w => g d2 w else M.pure (.bl false)) env) := p
      cases rv with
      | bl k =>
        refine ⟨k, rfl, ?_⟩
        cases k with
        | true =>
          refine iteT ?_
          have q3 : tOf rpD G W [(y, d2)] (mc.bind fun w => g d2 w) σ H2 Q := ⟨Fz, env, rl, (fun q hq => by rw [List.mem_singleton.mp hq]; exact ry), p'⟩
          exact (tOf.bind_ backD q3).mono fun w H4 ⟨d3, Fz4, env4, rl4, hh4, p4⟩ => hg y w d2 d3 σ H4 Q ⟨Fz4, env4, rl4, (fun q hq => by
            rcases List.mem_cons.mp hq with rfl | hq
            · exact hh4 _ List.mem_cons_self
            · rw [List.mem_singleton.mp hq]; exact hh4 _ (List.mem_cons_of_mem _ List.mem_cons_self)), p4⟩
        | false => exact iteF (p' Fz (.bl false) H2 (Ext.refl _ _ _ _) rl (.bl false))
      | _ => exact p'.elim
    · rw [ez] at p; exact p.elim

theorem qt_chain {op op' : CmpOp} {r r' : R2} {f g : D → D → M D} (ho : OpR X (compareOp op) r) (ho' : OpR X (compareOp op') r') (hf : Op2K G r f) (hg : Op2 rpD G W r' g) (ha : QE G X W a ma) (hb : QE G X W b mb) (hc : QE G X W c mc)
    (hm : lastMarks [op, op'] [b, c] = false := by with_unfolding_all rfl) : QT G X W (.Compare a [op, op'] [b, c] pos) (mTst (mChain f g ma mb mc)) := PT_imp (pt_chain ho ho' ha hb hc hm) fun _ _ _ h => t_chain hf hg (t_tst h)
end
end Eng

end
section
set_option Elab.async false
set_option linter.all false
set_option autoImplicit false
set_option maxRecDepth 100000
set_option maxHeartbeats 2000000
namespace Eng
open PySem PySem.Spec L2
open PyProof.Rows hiding St
open RZ
section
variable {G : Kx} {X : Cx} {W : WX} {e a b c tg iter elt o : Expr} {es ifs : List Expr} {pos p spos cpos apos pos' tpos : Pos} {ma mb mc : M D} {x f : Str} {σ σ1 : St} {H H1 Fz Fz1 : Hp} {env env1 : En} {E E' : Ends} {hv : List (V × D)}
/-! ### zip of two lists, of two tuples -/
def zipD (xs ys : List D) : List D := List.zipWith (fun x y => .tup [x, y]) xs ys
theorem zipD_get {xs ys : List D} {i : Nat} {d : D} (h : (zipD xs ys)[i]? = some d) : ∃ x y, xs[i]? = some x ∧ ys[i]? = some y ∧ d = .tup [x, y] := by
  unfold zipD at h
  rw [List.getElem?_zipWith] at h
  cases hx : xs[i]? with
  | none => rw [hx] at h; simp at h
  | some x =>
    cases hy : ys[i]? with
    | none => rw [hx, hy] at h; simp at h
    | some y => rw [hx, hy] at h; simp at h; exact ⟨x, y, rfl, rfl, h.symm⟩
theorem zipD_len {xs ys : List D} : (zipD xs ys).length = min xs.length ys.length := by simp [zipD]
theorem gives_zip {K : PySem.W.Frag} {l m : Addr} {vs ws : List V} {ds es : List D} (h : Fz l = some (.lst vs)) (h2 : Fz m = some (.lst ws)) (r : Reps G Fz vs ds) (r2 : Reps G Fz ws es) : Gives G Fz (Itz K l m) (zipD ds es) where
  go := fun i H s hi => by
    rw [zipD_len, ← r.length, ← r2.length] at hi
    have h1 : i < vs.length := by omega
    have h3 : i < ws.length := by omega
    exact ⟨vs, ws, vs[i], ws[i], SqL.of (s _ _ h), SqL.of (s _ _ h2), List.getElem?_eq_getElem h1, List.getElem?_eq_getElem h3⟩
  stop := fun i H s hi => by
    rw [zipD_len, ← r.length, ← r2.length] at hi
    exact ⟨vs, ws, SqL.of (s _ _ h), SqL.of (s _ _ h2), by omega⟩
  yld := fun i H x H' d s y e => by
    obtain ⟨d1, d2, e1, e2, rfl⟩ := zipD_get e
    obtain ⟨v, ev, rv⟩ := r.get' e1
    obtain ⟨w, ew, rw'⟩ := r2.get' e2
    obtain ⟨T, x1, y1, rfl, hT, rfl, hx, hy⟩ := y
    have q1 := hx vs (SqL.of (s _ _ h))
    have q2 := hy ws (SqL.of (s _ _ h2))
    rw [ev] at q1; cases q1
    rw [ew] at q2; cases q2
    exact .inr ⟨T, _, hT, rfl, fun Fz1 s1 n => .tup (SqT.of upd_same) (by rw [sizeLine_eq]; show (2 : Nat) ≤ _; decide) (.cons ((rv.mono s1).mono (same_upd n)) (.cons ((rw'.mono s1).mono (same_upd n)) .nil))⟩
theorem gives_zipT {l m : Addr} {vs ws : List V} {ds es : List D} (h : SqT G.K Fz l vs) (h2 : SqT G.K Fz m ws) (r : Reps G Fz vs ds) (r2 : Reps G Fz ws es) : Gives G Fz (ItzT G.K l m) (zipD ds es) where
  go := fun i H s hi => by
    rw [zipD_len, ← r.length, ← r2.length] at hi
    have h1 : i < vs.length := by omega
    have h3 : i < ws.length := by omega
    exact ⟨vs, ws, vs[i], ws[i], sqt_mono s h, sqt_mono s h2, List.getElem?_eq_getElem h1, List.getElem?_eq_getElem h3⟩
  stop := fun i H s hi => by
    rw [zipD_len, ← r.length, ← r2.length] at hi
    exact ⟨vs, ws, sqt_mono s h, sqt_mono s h2, by omega⟩
  yld := fun i H x H' d s y e => by
    obtain ⟨d1, d2, e1, e2, rfl⟩ := zipD_get e
    obtain ⟨v, ev, rv⟩ := r.get' e1
    obtain ⟨w, ew, rw'⟩ := r2.get' e2
    obtain ⟨T, x1, y1, rfl, hT, rfl, hx, hy⟩ := y
    have q1 := hx vs (sqt_mono s h)
    have q2 := hy ws (sqt_mono s h2)
    rw [ev] at q1; cases q1
    rw [ew] at q2; cases q2
    exact .inr ⟨T, _, hT, rfl, fun Fz1 s1 n => .tup (SqT.of upd_same) (by rw [sizeLine_eq]; show (2 : Nat) ≤ _; decide) (.cons ((rv.mono s1).mono (same_upd n)) (.cons ((rw'.mono s1).mono (same_upd n)) .nil))⟩
def dZip : List D → M (List D)
  | [.lst l, .lst m] => M.pure (zipD l m)
  | [.tup l, .tup m] => M.pure (zipD l m)
  | _ => bad
theorem qi_zip {n : M (List D)} {elts : List Expr} {kk : Nat} (hK : X.K = G.K) (hg : Gl X "zip") (hm : X.mg "zip" = none) (ha : QA G X W [a, b] n) (hs : starEach [a, b] X.env = (false, eval a X.env) :: starEach [b] X.env := by rfl) (hpl : (backTo pos (starEach [b] X.env)).any (·.1) = false := by rfl) : QI G X W (.Tuple elts kk tpos) (.Call (.Name "zip" p) [a, b] [] pos) (n.bind dZip) :=
  PI_imp (pi_zipA hg hm ha hs hpl) fun σ H Q q => (tOf.bindL backI q).mono fun xs H1 ⟨ds, el, Fz, env, rl, hh, q⟩ => by
    match xs, ds, el with
    | [], [], _ => exact q.elim
    | [v], [d], _ => cases d <;> exact q.elim
    | [v, w], [d, d2], _ =>
      have rv : Rep G Fz v d := hh (v, d) List.mem_cons_self
      have rw' : Rep G Fz w d2 := hh (w, d2) (List.mem_cons_of_mem _ List.mem_cons_self)
      rw [hK]
      cases rv with
      | lst h z r =>
        cases rw' with
        | lst h2 z2 r2 => exact ⟨_, _, _, _, rfl, .inl ⟨SqL.of (rl.sub _ _ h), SqL.of (rl.sub _ _ h2), q Fz _ H1 (Ext.refl _ _ _ _) rl (gives_zip h h2 r r2)⟩⟩
        | _ => exact q.elim
      | tup h z r =>
        cases rw' with
        | tup h2 z2 r2 => exact ⟨_, _, _, _, rfl, .inr ⟨sqt_mono rl.sub h, sqt_mono rl.sub h2, q Fz _ H1 (Ext.refl _ _ _ _) rl (gives_zipT h h2 r r2)⟩⟩
        | _ => exact q.elim
      | _ => cases d2 <;> exact q.elim
    | _ :: _ :: _ :: _, d :: d2 :: _ :: _, _ => cases d <;> cases d2 <;> exact q.elim
end
end Eng

end
section
set_option Elab.async false
set_option linter.all false
set_option autoImplicit false
set_option maxRecDepth 100000
set_option maxHeartbeats 2000000
namespace Eng
open PySem PySem.Spec L2
open PyProof.Rows hiding St

/-! ### while an error is handled -/
abbrev hotK (G : Kx) (x : Option Addr) : Kx := ⟨G.K, G.cs, G.es, x⟩
section
variable {G : Kx} {x y : Option Addr} {H : Hp}
mutual
theorem Rep.hot : ∀ {v : V} {d : D}, Rep (hotK G x) H v d → Rep (hotK G y) H v d
  | _, _, .non => .non
  | _, _, .bl b => .bl b
  | _, _, .int i => .int i
  | _, _, .str x => .str x
  | _, _, .lst h n r => .lst h n (Reps.hot r)
  | _, _, .tup h n r => .tup h n (Reps.hot r)
  | _, _, .stp h c d n r => .stp h c d n (Reps.hot r)
  | _, _, .scr h n => .scr h n
  | _, _, .ins h c n r => .ins h c n (Reps.hot r)
  | _, _, .exc h h1 h2 h3 h4 c n r => .exc h h1 h2 h3 h4 c n (Reps.hot r)
theorem Reps.hot : ∀ {vs : List V} {ds : List D}, Reps (hotK G x) H vs ds → Reps (hotK G y) H vs ds
  | _, _, .nil => .nil
  | _, _, .cons h r => .cons (Rep.hot h) (Reps.hot r)
end
theorem OwnAt.hot {Fz : Hp} {l : Ob} {a : Addr} (o : OwnAt (hotK G x) Fz H l a) : OwnAt (hotK G y) Fz H l a := by
  cases l with
  | l l => obtain ⟨vs, h, n, z, r⟩ := o; exact ⟨vs, h, n, z, r.hot⟩
  | o c fs => obtain ⟨C, dx, names, vs, h, n, hc, e, r⟩ := o; exact ⟨C, dx, names, vs, h, n, hc, e, r.hot⟩
theorem RelS.toHot {Fz : Hp} {σ : St} {env : En} (r : RelS (hotK G x) Fz σ H env) (h : ∀ a, y = some a → HotF Fz a) : RelS (hotK G y) Fz σ H env := by
  refine ⟨r.sub, r.len, fun j s e => ?_, r.sep, h⟩
  obtain ⟨o, e1, q⟩ := r.at_ j s e
  refine ⟨o, e1, ?_⟩
  cases s with
  | emp => trivial
  | fro d => obtain ⟨v, e2, rv⟩ := q; exact ⟨v, e2, rv.hot⟩
  | own l => obtain ⟨a, e2, oa⟩ := q; exact ⟨a, e2, oa.hot⟩
  | io l => obtain ⟨a, e2, oa⟩ := q; exact ⟨a, e2, oa.hot⟩
theorem retR.hot {Fz H0 : Hp} {σ0 σ : St} {env0 env : En} {v : V} {s : Slot} (h : retR (hotK G x) Fz H0 σ0 env0 H σ env v s) : retR (hotK G y) Fz H0 σ0 env0 H σ env v s := by
  cases s with
  | own l => obtain ⟨a, e, o, n, w⟩ := h; exact ⟨a, e, o.hot, n, w⟩
  | fro d =>
    have h' : Rep (hotK G x) Fz v d := h
    exact h'.hot
  | emp => exact h
  | io l => exact h
theorem KOk.hot (ok : KOk G) : KOk (hotK G x) := ⟨ok.err, ok.ee, ok.ie, ok.ei, ok.xx, ok.ins, ok.two⟩
end

/-! ### defs that may be called anywhere -/
structure FnG (P : Program) (w : World) (K : PySem.W.Frag) (mg : Str → Option Value) (base : Heap) (CX : CXT) (k : Nat) (f : Addr) (fd : FuncData) (ps : List Str) (hot : Option Addr) (sp : Sp) : Prop where
  len : ∀ vs H Q E, sp vs H Q E → vs.length = ps.length
  run : ∀ (A : Around) (outer : List Env) (s : Shared) (H : Hp) (args : Args) (us : List Value) (vs : List V) (Q : VK) (E : XK), A.handled = hot.map Value.ref → L2H.RoomH k A → Env0 P w K mg base A outer s H → BindsTo s fd args (ps.zip us) → Vals vs us → sp vs H Q E →
    codeAny (model P w) A (.call (.ref f) args) (CR CX outer P w H s Q E) s
theorem FnG.calm {P : Program} {w : World} {K : PySem.W.Frag} {mg : Str → Option Value} {base : Heap} {CX : CXT} {k : Nat} {f : Addr} {fd : FuncData} {ps : List Str} {sp : Sp} (F : FnG P w K mg base CX k f fd ps none sp) : FnOk P w K mg base CX k f fd ps sp :=
  ⟨F.len, fun A outer s H args us vs Q E hr => F.run A outer s H args us vs Q E hr.hd (L2H.roomH_of hr)⟩
theorem ok_badG {P : Program} {w : World} {K : PySem.W.Frag} {mg : Str → Option Value} {base : Heap} {CX : CXT} {k n : Nat} {f : Addr} {fd : FuncData} {ps : List Str} {hot : Option Addr} {G : Kx} : FnG P w K mg base CX k f fd ps hot (spF G n bad) :=
  ⟨fun vs H Q E ⟨Fz, args, r, ln, _, h⟩ => h.elim, fun A outer s H args us vs Q E _ _ _ _ _ ⟨Fz, args, r, ln, _, h⟩ => h.elim⟩
theorem FnG.mono {P : Program} {w : World} {K : PySem.W.Frag} {mg : Str → Option Value} {base : Heap} {CX : CXT} {j k : Nat} {f : Addr} {fd : FuncData} {ps : List Str} {hot : Option Addr} {sp : Sp} (F : FnG P w K mg base CX j f fd ps hot sp) (h : j ≤ k) : FnG P w K mg base CX k f fd ps hot sp :=
  ⟨F.len, fun A outer s H args us vs Q E hh hr => F.run A outer s H args us vs Q E hh (hr.mono h)⟩
def cxG (CX : CXT) (P : Program) (w : World) (K : PySem.W.Frag) (mg : Str → Option Value) (base : Heap) (N : List Str) (qual : Str) (scope : Scope) (f : Addr) (cd : Value) (A : Around) (outer : List Env) (s : Shared) (H : Hp) (E : XK) : Cx :=
  { cxOf CX P w K mg base N qual scope f cd A outer s H E with calm := false }
/-- the invariant looks at what is handled only if the context is calm -/
theorem invRe {X : Cx} {pins : List (Addr × Obj)} {σ : St} {H : Hp} {s : Shared} (J : Inv X pins σ H s) (h : Option Value) : Inv { X with A := { X.A with handled := h }, calm := false } pins σ H s where
  ok := { J.ok with hd := fun z => nomatch z }
  os := J.os
  bare := J.bare
  base := J.base
  loc := J.loc
  cell := J.cell
  free := J.free
  freeC := J.freeC
  pin := J.pin
  hok := J.hok
  len := J.len
theorem env0Re {P : Program} {w : World} {K : PySem.W.Frag} {mg : Str → Option Value} {base : Heap} {A : Around} {outer : List Env} {s : Shared} {H : Hp} (e : Env0 P w K mg base A outer s H) (h : Option Value) : Env0 P w K mg base { A with handled := h } outer s H := { e with frames := e.frames }
theorem begun {CX : CXT} {P : Program} {w : World} {K : PySem.W.Frag} {mg : Str → Option Value} {base : Heap} {N ps : List Str} {qual : Str} {scope : Scope} {f : Addr} {cd : Value} {A : Around} {outer : List Env} {s s1 : Shared} {H : Hp} {E : XK} {us : List Value} {vs : List V}
    (S : FnScope N ps scope) (en : Env0 P w K mg base A outer s H) (ln : vs.length = ps.length) (vr : Vals vs us)
    (ic : InCallC s s.heap.objs.size (bindL (envOfC qual scope s.heap.objs.size f cd).kindOf (ps.zip us) fun _ => none) (cellsFrom (s.heap.objs.size + 1) scope.names []) (bindC (envOfC qual scope s.heap.objs.size f cd).kindOf (ps.zip us) fun _ => none) s1) :
    Inv (cxG CX P w K mg base N qual scope f cd A outer s H E) [] (L2.start N vs) H s1 :=
  let J := L2.inv_start (CX := CX) (E := E) S (A := { A with handled := none }) rfl (env0Re en none) ln vr ic
  let J2 := invRe J A.handled
  { ok := { J2.ok with hd := fun z => nomatch z }, os := J2.os, bare := J2.bare, base := J2.base, loc := J2.loc, cell := J2.cell, free := J2.free, freeC := J2.freeC, pin := J2.pin, hok := J2.hok, len := J2.len }
/-- how a body's end is a call's end -/
theorem ended {CX : CXT} {P : Program} {w : World} {K : PySem.W.Frag} {mg : Str → Option Value} {base : Heap} {N : List Str} {qual : Str} {scope : Scope} {f : Addr} {cd : Value} {A : Around} {outer : List Env} {s s' : Shared} {H : Hp} {E : XK} {Q : VK} {fl : Flow}
    (z : SP (cxG CX P w K mg base N qual scope f cd A outer s H E) [] { nx := fun _ H' => Q .non H', rt := Q } fl s') : CE outer P w H s Q (match fl with | .ret u => u | _ => .none) s' := by
  cases fl with
  | ret u => let ⟨v, st, Hb, J, rv, q⟩ := z; exact ⟨v, Hb, J.os, J.bare, J.base, J.hok, rv, q⟩
  | next => let ⟨st, Hb, J, q⟩ := z; exact ⟨.non, Hb, J.os, J.bare, J.base, J.hok, rfl, q⟩
  | brk => let ⟨_, _, _, q⟩ := z; exact q.elim
  | cont => let ⟨_, _, _, q⟩ := z; exact q.elim
theorem fn_ofG {CX : CXT} {P : Program} {w : World} {K : PySem.W.Frag} {mg : Str → Option Value} {base : Heap} {k : Nat} {f : Addr} {x qual : Str} {params : Arguments} {body : List Stmt} {scope : Scope} {dvs : List V} {kws : List (Str × V)} {fd : FuncData} {N ps : List Str} {sp : Sp} {hot : Option Addr}
    (Fd : FunD K x qual params body scope dvs kws f fd) (S : FnScope N ps scope) (ln : ∀ vs H Q E, sp vs H Q E → vs.length = ps.length)
    (go : ∀ (cdv : Value) (A : Around) (outer : List Env) (s : Shared) (H : Hp) (vs : List V) (Q : VK) (E : XK), A.handled = hot.map Value.ref → L2H.RoomH k (A.deeper (envOfC qual scope s.heap.objs.size f cdv)) → sp vs H Q E →
      ∃ t, PSs (cxG CX P w K mg base N qual scope f cdv A outer s H E) body t ∧ t { nx := fun _ H' => Q .non H', rt := Q } (L2.start N vs) H) :
    FnG P w K mg base CX (k + 1) f fd ps hot sp where
  len := ln
  run := fun A outer s H args us vs Q E hh room en bd vr want => by
    obtain ⟨cl, dd, dV, kV, dc, pm, an, cdv, ct, sl, rfl, at_, code, _⟩ := Fd.ex
    have frag : K.In s.heap := en.mod.kin.keeps fun b o e => (en.bs b o e).1
    refine codeAny_call_function room.depth (frag _ _ at_) rfl S.co S.gen rfl (PySem.W.codeRec_of frag code) (bd _ _ _ _ (wpAny_newFunctionEnv_cells S.kind (fun pr mem => ?_) fun en2 eqn s1 ic => ?_))
    · rcases S.par pr.1 (List.of_mem_zip mem).1 with loc | cel
      · exact .inl loc
      · exact .inr ⟨cel, PySem.W.cellsFrom_some _ _ _ (.inl cel)⟩
    · subst eqn
      obtain ⟨t, run, hold⟩ := go cdv A outer s H vs Q E hh (room.deeper _) want
      refine ⟨(en.mod.nolimit.keeps fun b o e => ic.toInCall.keep _ _ (en.bs b o e).1), codeAny_func (wpAny_mono (run.run [] s1 _ H _ (begun S en (ln _ _ _ _ want) vr ic) hold) (fun fl s2 z => ?_) fun e s2 z => z)⟩
      have c := ended z
      cases fl with
      | brk => let ⟨_, _, _, q⟩ := z; exact q.elim
      | cont => let ⟨_, _, _, q⟩ := z; exact q.elim
      | ret u => exact c
      | next => exact c
/-- THE RULE for a def that may be called anywhere -/
theorem def_okG {P : Program} {w : World} {mg : Str → Option Value} {base : Heap} {x qual : Str} {params : Arguments} {body : List Stmt} {scope : Scope} {dvs : List V} {kws : List (Str × V)} {f : Addr} {fd : FuncData} {N ps : List Str} {j n k : Nat} {m : M Fl} {G : Kx}
    (F : FunD G.K x qual params body scope dvs kws f fd) (S : FnScope N ps scope) (hn : ps.length = n) (hk : N.length = n + k)
    (hb : ∀ (cdv : Value) (A : Around) (outer : List Env) (s : Shared) (H : Hp) (E : XK), A.handled = G.hot.map Value.ref → L2H.RoomH j (A.deeper (envOfC qual scope s.heap.objs.size f cdv)) → QSs G (cxG (L2N.CX P w) P w G.K mg base N qual scope f cdv A outer s H E) (fun cls d _ H => E cls d H) body m) :
    FnG P w G.K mg base (L2N.CX P w) (j + 1) f fd ps G.hot (spF G n (mFn k m)) := by
  refine fn_ofG F S (fun vs H Q E ⟨Fz, args, r, ln, _⟩ => ?_) fun cdv A outer s H vs Q E hot hr h => ⟨_, hb cdv A outer s H E hot hr, fn_body hk h⟩
  have := r.len
  rw [List.length_map] at this
  omega
section
variable {G : Kx} {X : Cx} {W : WX} {e a b c tg iter elt o : Expr} {es ifs : List Expr} {pos p spos cpos apos pos' : Pos} {ma mb mc : M D} {x f : Str} {σ σ1 : St} {H H1 Fz Fz1 : Hp} {env env1 : En} {E E' : Ends} {hv : List (V × D)}
theorem run_fnG {CX : CXT} {k : Nat} {f : Addr} {fd : FuncData} {ps : List Str} {sp : Sp} {EW : St → XK} {hot : Option Addr} {pins : List (Addr × Obj)} {s : Shared} {Q : VK} {us : List Value} {vs : List V} (Fo : FnG X.prog X.w X.K X.mg X.base CX k f fd ps hot sp) (hh : X.A.handled = hot.map Value.ref) (room : L2H.RoomH k X.A) (bi : Binds X.K fd ps []) (px : PassesAt CX X σ (EW σ))
    (J : Inv X pins σ H s) (vr : Vals vs us) (want : sp vs H Q (EW σ)) : wpAny (model X.prog X.w) X.A (call (.ref f) us) (EP X pins σ Q) X.xe s := by
  have bd := bi s us J.kIn ((List.append_nil us).symm ▸ (vr.length.symm.trans (Fo.len _ _ _ _ want)))
  refine wpAny_call (codeAny_mono (Fo.run X.A X.stack s H ⟨us, []⟩ us vs Q (EW σ) hh room J.env0 (by simpa using bd) vr want) fun res s2 z => ?_)
  match res, z with
  | .error err, z => exact px pins H s err s2 J z
  | .ok (.ret u), z => exact J.after z
  | .ok .next, z => exact z.elim
  | .ok .brk, z => exact z.elim
  | .ok .cont, z => exact z.elim
theorem pe_callG {CX : CXT} {k : Nat} {f : Addr} {fd : FuncData} {ps : List Str} {sp : Sp} {EW : St → XK} {hot : Option Addr} {t : TA} (Fo : FnG X.prog X.w X.K X.mg X.base CX k f fd ps hot sp) (hh : X.A.handled = hot.map Value.ref) (room : L2H.RoomH k X.A) (hg : Gl X x) (hm : X.mg x = some (.ref f)) (kp : PySem.W.keepIn X.K (.ref f) = true) (bi : Binds X.K fd ps []) (px : ∀ σ, PassesAt CX X σ (EW σ))
    (ha : PA X (e :: es) t) (hdb : (x == ("__debug__" : Str)) = false := by decide) (he : starEach (e :: es) X.env = (false, eval e X.env) :: starEach es X.env := by rfl) (hpl : (backTo pos (starEach es X.env)).any (·.1) = false := by rfl) :
    PE X (.Call (.Name x p) (e :: es) [] pos) (tCallS sp EW t) where
  run := fun pins s st H Q J want => wpAny_Call_Name_kw (ld_glob J hg hm (PySem.W.callWith_K (h₀ := X.base) J.ok.mod.kin kp (thn (ha.run pos pins s st H _ J want) fun us s1 ⟨vs, Hb, Jb, vr, q⟩ => ⟨Jb.kIn, run_fnG Fo hh room bi (px st) Jb vr q⟩) he hpl) hdb)
theorem qo_callG {F : M Slot} {n : Nat} {m : M (List Ag)} {k : Nat} {f : Addr} {fd : FuncData} {ps : List Str} (Fo : FnG X.prog X.w X.K X.mg X.base (L2N.CX X.prog X.w) k f fd ps G.hot (spF G n F)) (hh : X.A.handled = G.hot.map Value.ref) (hr : L2H.RoomH k X.A) (hg : Gl X x) (hm : X.mg x = some (.ref f)) (hk : PySem.W.keepIn X.K (.ref f) = true) (hb : Binds X.K fd ps [])
    (hx : ∀ σ, PassesAt (L2N.CX X.prog X.w) X σ (WE W σ)) (ha : QAg G X W (e :: es) m) (hl : ∀ env as e', m env = .ok as e' → as.length = n)
    (hdb : (x == ("__debug__" : Str)) = false := by decide) (he : starEach (e :: es) X.env = (false, eval e X.env) :: starEach es X.env := by rfl) (hpl : (backTo pos (starEach es X.env)).any (·.1) = false := by rfl) :
    QO G X W (.Call (.Name x p) (e :: es) [] pos) (mCall F m) :=
  PE_imp (pe_callG Fo hh hr hg hm hk hb hx ha hdb he hpl) fun σ H Q q => by
    obtain ⟨Fz, env, r, hh, p⟩ := q
    refine ⟨Fz, env, r, hh, ?_⟩
    unfold mCall M.bind at p
    cases e0 : m env with
    | bad => rw [e0] at p; exact p
    | err c fs e1 => rw [e0] at p; exact p
    | ok as e1 =>
      rw [e0] at p
      intro Fz1 xs H1 x1 r1 ra
      exact call_sp (hl env as e1 e0) r1 ra (Post.then_ (α := Slot) backS x1 p)

/-! ### raise -/
/-- what an __init__ of an own error promises: its arguments become its fields -/
def spI (C : Addr) (fs : List Str) : Sp := fun vs H Q E => ∃ (a : Addr) (ws : List V), vs = .ref a :: ws ∧ ws.length = fs.length ∧ H a = some (exo a C none) ∧
  ∀ (d : Addr) (H' : Hp), H d = none → d ≠ a → H' a = some (exo a C (some d)) → H' d = some (exd d ((fs.zip ws).reverse)) → (∀ b, b ≠ a → b ≠ d → H' b = H b) → Q .non H'
theorem init1 {P : Program} {w : World} {K : PySem.W.Frag} {mg : Str → Option Value} {base : Heap} {x qual f1 : Str} {params : Arguments} {body : List Stmt} {scope : Scope} {dvs : List V} {kws : List (Str × V)} {f C : Addr} {fd : FuncData} {j : Nat}
    (F : FunD K x qual params body scope dvs kws f fd) (S : FnScope ["self", f1] ["self", f1] scope) (T : OexC K C) (n1 : PySem.W.findIn K (.ref C) f1 = some none)
    (hb : ∀ (cdv : Value) (A : Around) (outer : List Env) (s : Shared) (H : Hp) (E : XK), Room j (A.deeper (envOfC qual scope s.heap.objs.size f cdv)) → PSs (cxOf (L2N.CX P w) P w K mg base ["self", f1] qual scope f cdv A outer s H E) body (tOst K f1 (tVar 0) (tVar 1))) :
    FnOk P w K mg base (L2N.CX P w) (j + 1) f fd ["self", f1] (spI C [f1]) := by
  refine F.ok S (fun vs H Q E ⟨a, ws, e, l, _⟩ => by rw [e]; simp [l]) fun cdv A outer s H vs Q E hr h => ⟨_, hb cdv A outer s H E hr, ?_⟩
  obtain ⟨a, ws, rfl, hl, ea, q⟩ := h
  match ws, hl with
  | [y], _ =>
    refine ⟨y, rfl, .ref a, rfl, a, C, rfl, T, n1, .inl ⟨ea, fun dx hd hne => ?_⟩⟩
    refine q dx _ hd hne upd_same ?_ fun b h1 h2 => by rw [upd_ne h1, upd_ne h2]
    rw [upd_ne hne, upd_same]; rfl
theorem init2 {P : Program} {w : World} {K : PySem.W.Frag} {mg : Str → Option Value} {base : Heap} {x qual f1 f2 : Str} {params : Arguments} {body : List Stmt} {scope : Scope} {dvs : List V} {kws : List (Str × V)} {f C : Addr} {fd : FuncData} {j : Nat}
    (F : FunD K x qual params body scope dvs kws f fd) (S : FnScope ["self", f1, f2] ["self", f1, f2] scope) (T : OexC K C) (n1 : PySem.W.findIn K (.ref C) f1 = some none) (n2 : PySem.W.findIn K (.ref C) f2 = some none)
    (hb : ∀ (cdv : Value) (A : Around) (outer : List Env) (s : Shared) (H : Hp) (E : XK), Room j (A.deeper (envOfC qual scope s.heap.objs.size f cdv)) → PSs (cxOf (L2N.CX P w) P w K mg base ["self", f1, f2] qual scope f cdv A outer s H E) body (fun D σ H => tOst K f1 (tVar 0) (tVar 1) { D with nx := fun σ H => tOst K f2 (tVar 0) (tVar 2) D σ H } σ H)) :
    FnOk P w K mg base (L2N.CX P w) (j + 1) f fd ["self", f1, f2] (spI C [f1, f2]) := by
  refine F.ok S (fun vs H Q E ⟨a, ws, e, l, _⟩ => by rw [e]; simp [l]) fun cdv A outer s H vs Q E hr h => ⟨_, hb cdv A outer s H E hr, ?_⟩
  obtain ⟨a, ws, rfl, hl, ea, q⟩ := h
  match ws, hl with
  | [y, z], _ =>
    refine ⟨y, rfl, .ref a, rfl, a, C, rfl, T, n1, .inl ⟨ea, fun dx hd hne => ?_⟩⟩
    refine ⟨z, rfl, .ref a, rfl, a, C, rfl, T, n2, .inr ⟨dx, [(f1, y)], upd_same, by rw [upd_ne hne, upd_same], by simp, ?_⟩⟩
    refine q dx _ hd hne (by rw [upd_ne (Ne.symm hne), upd_same]) upd_same fun b h1 h2 => by rw [upd_ne h2, upd_ne h1, upd_ne h2]
/-- raise C(e, ..) -/
def mRaise (c n : Nat) (m : M (List D)) : M Fl := m.bind fun ds env => if ds.length == n then .err c ds.reverse env else .bad
end
/-- a new error of the class C, ahead of its __init__ -/
theorem laidErr {X : Cx} {pins : List (Addr × Obj)} {σ : St} {H : Hp} {s : Shared} {C : Addr} (J : Inv X pins σ H s) (us : List Value) :
    Inv X pins σ (upd H (s.heap.objs.size + 1) (exo (s.heap.objs.size + 1) C none)) { s with heap := (s.heap.push (PySem.W.kdv_tup us)).push (PySem.HandSPX.excO C s.heap.objs.size) } :=
  J.laid (t' := s.toks) (fun b o e => Heap.get?_push_of_some _ (Heap.get?_push_of_some _ e)) (Nat.le_succ _) (exo_ok (t1 := s.heap.objs.size) (by heap_get))
theorem pmkN_oex {X : Cx} {x : Str} {e : Expr} {es : List Expr} {ta : TA} {p pos : Pos} {CX : CXT} {C fI : Addr} {k : Nat} {fd : FuncData} {ps : List Str} {sp : Sp} (ox : OexC X.K C) (iC : PySem.W.findIn X.K (.ref C) "__init__" = some (some (.ref fI))) (tI : PySem.W.typeIn X.K (.ref fI) = some (.type "function"))
    (Fo : FnOk X.prog X.w X.K X.mg X.base CX k fI fd ps sp) (room : Room (k + 1) X.A) (bi : Binds X.K fd ps []) (px : Passes CX X (fun _ _ _ => False)) (hg : Gl X x) (hm : X.mg x = some (.ref C)) (ha : PA X (e :: es) ta)
    (hdb : (x == ("__debug__" : Str)) = false := by decide) (he : starEach (e :: es) X.env = (false, eval e X.env) :: starEach es X.env := by rfl) (hpl : (backTo pos (starEach es X.env)).any (·.1) = false := by rfl) :
    L2N.PMk X (.Call (.Name x p) (e :: es) [] pos) (tMkO C sp [] ta) := fun pins s σ H Q J want => by
  obtain ⟨nm, qn, nsp, bs, rest, sn, sub, ab, col, dct, y0, y1, y2, y3, y5, look, ve⟩ := ox.cls
  refine wpAny_Call_Name_kw (ld_glob J hg hm (PySem.W.callWith_K (h₀ := X.base) J.ok.mod.kin ox.kC (thn (ha.run pos pins s σ H _ J want) fun us s1 ⟨vs, Hb, Jb, vr, few, each⟩ => ⟨Jb.kIn, wpAny_call ?_⟩) he hpl) hdb)
  have want2 := each (s1.heap.objs.size + 1) (Jb.hok.fresh (Nat.le_succ _))
  rw [List.append_nil] at want2
  have Jn := laidErr (C := C) Jb us
  have vr2 : Vals (V.ref (s1.heap.objs.size + 1) :: vs) (Value.ref (s1.heap.objs.size + 1) :: us) := .cons rfl vr
  have bd := bi _ (Value.ref (s1.heap.objs.size + 1) :: us) Jn.kIn (by rw [List.append_nil, ← vr2.length]; exact Fo.len _ _ _ _ want2)
  refine PySem.HandSPX.call_own F.excBase_ValueError (fun has => PySem.HandSPX.refsVE_contains has rest ve) (Jb.kIn _ _ look) (PySem.W.looks_findIn Jb.kIn iC) (fun self => PySem.W.bind_fn Jb.kIn self tI) (show us.length ≤ sizeLine by rw [← vr.length, sizeLine_eq]; omega) ?_
  refine codeAny_mono (Fo.run _ X.stack _ _ ⟨Value.ref (s1.heap.objs.size + 1) :: us, []⟩ _ _ _ (fun _ _ _ => False) (room.make C us []) (Jn.env0.make C us []) (by simpa using bd) vr2 want2) fun res s2 z => ?_
  match res, z with
  | .error err, z => exact px pins σ _ _ err s2 Jn z
  | .ok .next, z => exact z.elim
  | .ok .brk, z => exact z.elim
  | .ok .cont, z => exact z.elim
  | .ok (.ret u), ⟨v, Hc, osE, bare, un, hok, ru, ev, d, fl, atE, atD, newD, q⟩ =>
    subst ev
    obtain ⟨t0, low, Jl, sub2, gone, obj, off⟩ := mk_end0 (d2 := s2.drawn) (t2 := s2.toks) Jb (Nat.le_succ _) (fun b o e => Heap.get?_push_of_some _ (Heap.get?_push_of_some _ e)) un hok osE bare atE atD newD
    exact ⟨ru, s1.heap.objs.size + 1, _, _, ⟨low, s2.gens, s2.drawn, s2.toks, s2.os⟩, _, .ref C, some d, rfl, Jl, sub2, gone, obj, ⟨rfl, rfl, fun w e => by cases e; rfl⟩, rfl, rfl, off, rfl, bare, raises_own ox.exC ox.tyC, q⟩
theorem pass_F {X : Cx} : Passes (L2N.CX X.prog X.w) X (fun _ _ _ => False) := fun _ _ _ _ _ _ _ c => by
  obtain ⟨_, _, _, _, _, _, _, _, _, _, _, _, h⟩ := c
  exact h.elim
theorem zip_rev2 {α β : Type} : ∀ {fs : List α} {vs : List β}, vs.length = fs.length → (fs.zip vs).reverse = fs.reverse.zip vs.reverse
  | [], [], _ => rfl
  | f :: fs, v :: vs, h => by
    have h' : vs.length = fs.length := by simpa using h
    rw [List.zip_cons_cons, List.reverse_cons, List.reverse_cons, List.reverse_cons, zip_rev2 h', List.zip_append (by simp [h'])]
    rfl
  | [], _ :: _, h => by cases h
  | _ :: _, [], h => by cases h
section
variable {G : Kx} {X : Cx} {W : WX} {e a b c tg iter elt o : Expr} {es ifs : List Expr} {pos p spos cpos apos pos' : Pos} {ma mb mc : M D} {x f : Str} {σ σ1 : St} {H H1 Fz Fz1 : Hp} {env env1 : En} {E E' : Ends} {hv : List (V × D)}
theorem qs_raise {cc n k : Nat} {C fI : Addr} {fd : FuncData} {fs ps : List Str} {m : M (List D)} (hc : X.calm = true) (hK : X.K = G.K) (hes : G.es[cc]? = some (C, fs.reverse)) (ok : KOk G) (EI : EIni G.K C fI fs) (F1 : FnOk X.prog X.w X.K X.mg X.base (L2N.CX X.prog X.w) k fI fd ps (spI C fs)) (hr : Room (k + 1) X.A) (hb : Binds X.K fd ps []) (tk : L2N.Takes X W)
    (hg : Gl X x) (hm : X.mg x = some (.ref C)) (ha : QA G X W (e :: es) m) (hn : fs.length = n) (hz : n ≤ 1000)
    (hdb : (x == ("__debug__" : Str)) = false := by decide) (he : starEach (e :: es) X.env = (false, eval e X.env) :: starEach es X.env := by rfl) (hpl : (backTo p (starEach es X.env)).any (·.1) = false := by rfl) :
    QS G X W (.Raise (some (.Call (.Name x apos) (e :: es) [] p)) none pos) (mRaise cc n m) := by
  refine PS_imp (L2N.ps_raise hc tk (pmkN_oex (sp := spI C fs) (by rw [hK]; exact (ok.err cc C _ hes).ox) (by rw [hK]; exact EI.iC) (by rw [hK]; exact EI.tI) F1 hr hb pass_F hg hm ha hdb he hpl)) fun D σ H ⟨Fz, env, r, p⟩ => ?_
  refine ⟨Fz, env, r, (fun _ z => nomatch z), ?_⟩
  unfold mRaise M.bind at p
  cases e0 : m env with
  | bad => rw [e0] at p; exact p
  | err c fs e1 => rw [e0] at p; exact fun Fz' H' cls y x r q => p Fz' σ H' cls y x r q
  | ok ds e1 =>
    rw [e0] at p
    cases q : (ds.length == n) with
    | false => simp [q] at p; exact p.elim
    | true =>
      simp only [q, if_true] at p
      have hl : ds.length = n := eq_of_beq q
      intro Fz1 vs H1 x1 r1 rv
      have hvl : vs.length = fs.length := by rw [rv.length, hl, hn]
      refine ⟨by rw [hvl, hn]; exact hz, fun a0 ha0 => ?_⟩
      refine ⟨a0, vs ++ [], rfl, by rw [List.append_nil]; exact hvl, upd_same, fun d H' hd hne h1 h2 h3 => ?_⟩
      rw [List.append_nil] at h2
      have hd1 : H1 d = none := by rw [upd_ne hne] at hd; exact hd
      refine ⟨rfl, d, _, h1, h2, hd1, ?_⟩
      have eH : upd (del H' a0) d (.xd ((fs.zip vs).reverse)) = upd H1 d (.xd ((fs.zip vs).reverse)) := by
        funext b
        by_cases hb : b = d
        · subst hb; rw [upd_same, upd_same]
        · rw [upd_ne hb, upd_ne hb]
          by_cases hba : b = a0
          · subst hba; rw [del_same, ha0]
          · rw [del_ne hba, h3 b hba hb, upd_ne hba]
      rw [eH]
      obtain ⟨r2, x2⟩ := r1.alloc (o := .xd ((fs.zip vs).reverse)) hd1
      refine p _ σ _ _ _ (x1.trans x2) r2 ⟨C, fs.reverse, vs.reverse, d, rfl, hes, rfl, by rw [← zip_rev2 hvl]; exact upd_same, by simp [hvl], (rv.mono x2.sub).reverse⟩

/-! ### try: body, except C: suite, except D as n: suite, .. -/
/-- an error has come down to this def, and is looked at -/
structure Got (X : Cx) (pins : List (Addr × Obj)) (B : Heap) (sI : Shared) (σ : St) (H : Hp) (a : Addr) (cls : Value) (d : Option Addr) (s : Shared) : Prop where
  stk : X.stack = X.env :: X.outer
  fra : X.env.frame = some X.env.locals
  noex : X.ex = []
  inv : Inv X pins σ H sI
  inB : ∀ b o, sI.heap.get? b = some o → b ∉ frs X.stack → B.get? b = some o
  up : sI.heap.UpToSlots s.heap
  os : s.os = sI.os
  ag : AllBare s.gens
  fly : HandSPX.FlyingZ B (X.env :: X.outer) a (L2N.Zn cls d) s.heap
  fr : H a = none
namespace Got
variable {X : Cx} {pins : List (Addr × Obj)} {B : Heap} {sI s : Shared} {σ : St} {H : Hp} {a : Addr} {cls : Value} {d : Option Addr}
theorem now (g : Got X pins B sI σ H a cls d s) : Inv X pins σ H s := g.inv.landed g.inB g.fly.1 g.up g.os g.ag
theorem off (g : Got X pins B sI σ H a cls d s) : a ∉ frs X.stack := fun mem => by
  obtain ⟨oe, fv, at_, _, dat⟩ := g.fly.there
  rw [g.stk] at mem
  obtain ⟨_, o, e, no⟩ := g.fly.2.2.1.mem mem
  exact no fv (by rw [at_] at e; cases e; exact dat)
theorem notB {b : Addr} {o : Obj} (g : Got X pins B sI σ H a cls d s) (e : sI.heap.get? b = some o) (n : b ∉ frs X.stack) : b ≠ a := fun z => by
  have q := g.inB b o e n
  rw [z, g.fly.2.1] at q
  cases q
theorem apart (g : Got X pins B sI σ H a cls d s) : a ≠ X.env.locals ∧ a ∉ X.fs := by
  have q := g.off
  rw [g.stk] at q
  exact ⟨fun z => q (List.mem_filterMap.mpr ⟨X.env, List.mem_cons_self, by rw [g.fra, z]⟩), fun mem => q (let ⟨en, m1, m2⟩ := List.mem_filterMap.mp mem; List.mem_filterMap.mpr ⟨en, List.mem_cons_of_mem _ m1, m2⟩)⟩
theorem young (g : Got X pins B sI σ H a cls d s) : X.s_0.heap.get? a = none := by
  cases e : X.s_0.heap.get? a with
  | none => rfl
  | some o =>
    obtain ⟨o2, e2⟩ := g.inv.base.there a o e (by rw [g.noex]; simp)
    exact absurd rfl (g.notB e2 g.off)
theorem unpinned (g : Got X pins B sI σ H a cls d s) : ∀ p ∈ X.pn ++ pins, p.1 ≠ a := fun p mem => by
  obtain ⟨e, _, q1, q2, _⟩ := g.inv.pin p mem
  exact g.notB e fun m => (List.mem_cons.mp (g.inv.stkSub p.1 m)).elim q1 q2
theorem moved {h' : Heap} (g : Got X pins B sI σ H a cls d s) (fly : HandSPX.FlyingZ B (X.env :: X.outer) a (L2N.Zn cls d) h') (u : s.heap.UpToSlots h') : Got X pins B sI σ H a cls d { s with heap := h' } := { g with up := g.up.trans u, fly := fly }
/-- laid among what is known: it stays as it is -/
theorem lay (g : Got X pins B sI σ H a cls d s) : ∃ oe fv, Inv X pins σ (upd H a (.frz oe exq)) s ∧ oe.cls = cls ∧ oe.dict = d ∧ oe.data = .fields fv ∧ fv[2]? = some .none := by
  obtain ⟨oe, fv, at_, zn, dat⟩ := g.fly.there
  have J := g.now
  have keep : ∀ {b : Addr} {u : HO}, H b = some u → (upd H a (.frz oe exq)) b = some u := fun {b u} e => by rw [upd_ne (ne_of_none e g.fr)]; exact e
  refine ⟨oe, fv, ?_, zn.1, zn.2.1, dat, zn.2.2 _ dat⟩
  refine { J with base := { J.base with free := fun b o e n m => ?_, tups := fun b xs e => keep (J.base.tups b xs e), frzs := fun b o u e => keep (J.base.frzs b o u e), tbls := fun b ps e => ?_ }, free := ?_, freeC := fun y c e => ?_, pin := fun p mem => ?_, hok := J.hok.laidN (fun _ _ e => e) g.fr ⟨at_, trivial, ⟨_, at_⟩, fun _ _ _ _ => trivial⟩ }
  · rw [upd_ne fun z => by rw [z, g.young] at e; cases e]
    exact J.base.free b o e n m
  · obtain ⟨more, q⟩ := J.base.tbls b ps e
    exact ⟨more, keep q⟩
  · rw [upd_ne (Ne.symm g.apart.1)]
    exact J.free
  · rw [upd_ne fun z => ?_]
    · exact J.freeC y c e
    · obtain ⟨v, oc, q1, q2⟩ := J.cell y c e
      rw [z, at_] at q1
      cases q1
      rw [dat] at q2
      cases q2
  · obtain ⟨q1, q2, q3⟩ := J.pin p mem
    exact ⟨q1, by rw [upd_ne (g.unpinned p mem)]; exact q2, q3⟩
/-- no clause takes it -/
theorem onward {W : WX} {D : Ends} (g : Got X pins B sI σ H a cls d s) (tk : L2N.Takes X W) (w : W cls d σ H) : wpAny (model X.prog X.w) X.A (handleBy (.ref a) X.env []) (SP X pins D) X.xe s := by
  obtain ⟨_, _, _, oe, fv, tb, ob, _, at_, _, dat, one, _⟩ := id g.fly
  have up : wpAny (model X.prog X.w) X.A (setFlight (.ref a) X.env.frame) (fun _ s2 => wpAny (model X.prog X.w) X.A (throw (.ref a) : Sem Flow) (SP X pins D) X.xe s2) X.xe s := by
    rw [g.fra]
    exact HandSPX.setFlight_upZ g.fly fun h2 held u2 => wpAny_throw (tk _ _ ⟨a, B, sI, pins, σ, H, cls, d, rfl, g.inv, g.inB, g.up.trans u2, .inr (.inr (by rw [g.stk]; exact held)), g.fr, g.os, g.ag, w⟩)
  refine wpAny_handleBy_nil ?_
  unfold PySem.passOn
  refine wpAny_bind (wpAny_field at_ dat one ?_)
  rw [if_neg (by simp)]
  first
    | exact wpAny_bind (wpAny_pure (wpAny_bind up))
    | exact wpAny_bind up
end Got
/-- a clause's class, the slot of its name (if any), its suite's reading -/
structure Hx where
  c : Value
  nm : Option Nat
  ts : Addr → TS
def endsOf (D : Ends) : Option Nat → Ends
  | none => D
  | some i => { nx := fun σ H => D.nx (σ.set i none) H, rt := D.rt, bk := fun σ H => D.bk (σ.set i none) H, ct := fun σ H => D.ct (σ.set i none) H }
def slotOf (σ : St) (a : Addr) : Option Nat → St
  | none => σ
  | some i => σ.set i (some (.ref a))
def wHds (K : PySem.W.Frag) (Wout : WX) (D : Ends) : List Hx → WX
  | [] => Wout
  | h :: l => fun cls d σ H => ∃ b, PySem.W.exmOne K cls h.c = some b ∧ (b = false → wHds K Wout D l cls d σ H) ∧
    (b = true → ∀ (a : Addr) (oe : Obj) (fv : Array Value), H a = none → oe.cls = cls → oe.dict = d → oe.data = .fields fv → fv[2]? = some .none → h.ts a (endsOf D h.nm) (slotOf σ a h.nm) (upd H a (.frz oe exq)))
inductive HdsX (X : Cx) : List ExceptHandler → List Hx → Prop
  | nil : HdsX X [] []
  | one {x : Str} {c : Value} {ts : Addr → TS} {b₀ : Stmt} {sts : List Stmt} {np hp : Pos} {hds : List ExceptHandler} {l : List Hx} (nm : Names X x c) (su : ∀ (a : Addr) (pn : List (Addr × Obj)), PSs (X.suite a pn) (b₀ :: sts) (ts a)) (r : HdsX X hds l) :
      HdsX X (.ExceptHandler (some (.Name x np)) none (b₀ :: sts) hp :: hds) (⟨c, none, ts⟩ :: l)
  | as {x n : Str} {i : Nat} {c : Value} {ts : Addr → TS} {b₀ : Stmt} {sts : List Stmt} {np hp : Pos} {hds : List ExceptHandler} {l : List Hx} (nm : Names X x c) (nd : X.N.Nodup) (hi : X.N[i]? = some n) (loc : X.env.kindOf n = some .local) (su : ∀ (a : Addr) (pn : List (Addr × Obj)), PSs (X.suite a pn) (b₀ :: sts) (ts a)) (r : HdsX X hds l) :
      HdsX X (.ExceptHandler (some (.Name x np)) (some n) (b₀ :: sts) hp :: hds) (⟨c, some i, ts⟩ :: l)
theorem suited {X : Cx} {pins : List (Addr × Obj)} {σ : St} {H : Hp} {s : Shared} {a : Addr} (J : Inv X pins σ H s) : Inv (X.suite a (X.pn ++ pins)) [] σ H s := { J with ok := J.ok.suite _ _, pin := fun p mem => J.pin p (by simpa using mem) }
theorem unsuited {X : Cx} {pins : List (Addr × Obj)} {σ : St} {H : Hp} {s : Shared} {a : Addr} (ok : X.Ok) (J : Inv (X.suite a (X.pn ++ pins)) [] σ H s) : Inv X pins σ H s := { J with ok := ok, pin := fun p mem => J.pin p (List.mem_append_left _ mem) }
theorem unsuitedP {X : Cx} {pins : List (Addr × Obj)} {D : Ends} {fl : Flow} {s : Shared} {a : Addr} (ok : X.Ok) (z : SP (X.suite a (X.pn ++ pins)) [] D fl s) : SP X pins D fl s := by
  cases fl with
  | ret u => let ⟨v, st, Hb, J, rv, q⟩ := z; exact ⟨v, st, Hb, unsuited ok J, rv, q⟩
  | next => let ⟨st, Hb, J, q⟩ := z; exact ⟨st, Hb, unsuited ok J, q⟩
  | brk => let ⟨st, Hb, J, q⟩ := z; exact ⟨st, Hb, unsuited ok J, q⟩
  | cont => let ⟨st, Hb, J, q⟩ := z; exact ⟨st, Hb, unsuited ok J, q⟩
theorem nameGone {X : Cx} {pins : List (Addr × Obj)} {D : Ends} {fl : Flow} {s : Shared} {i : Nat} {n : Str} {hp : Pos} (nd : X.N.Nodup) (hi : X.N[i]? = some n) (loc : X.env.kindOf n = some .local) (z : SP X pins (endsOf D (some i)) fl s) :
    wpAny (model X.prog X.w) X.A (do bindName X.env n .none; unbindBehindTheSuite X.env n hp) (fun _ s2 => SP X pins D fl s2) X.xe s := by
  cases fl with
  | ret u => let ⟨v, st, Hb, J, rv, q⟩ := z; exact gone_ok J nd hi loc fun s2 J2 => ⟨v, _, Hb, J2, rv, q⟩
  | next => let ⟨st, Hb, J, q⟩ := z; exact gone_ok J nd hi loc fun s2 J2 => ⟨_, Hb, J2, q⟩
  | brk => let ⟨st, Hb, J, q⟩ := z; exact gone_ok J nd hi loc fun s2 J2 => ⟨_, Hb, J2, q⟩
  | cont => let ⟨st, Hb, J, q⟩ := z; exact gone_ok J nd hi loc fun s2 J2 => ⟨_, Hb, J2, q⟩
/-- the class that a clause names, evaluated -/
theorem clauseName {X : Cx} {pins : List (Addr × Obj)} {σ : St} {H : Hp} {s : Shared} {x : Str} {c : Value} {a : Addr} {np : Pos} {Q : Value → Shared → Prop} {E : Value → Shared → Prop} (nm : Names X x c) (J : Inv X pins σ H s) (q : Q c s) :
    wpAny (model X.prog X.w) (X.A.mark (some (.ref a))) (eval (.Name x np) X.env) Q E s := by
  have Js := suited (a := a) J
  obtain ⟨hg, nd, own | ⟨no, blt, ne⟩⟩ := nm
  · exact ld_glob (X := X.suite a (X.pn ++ pins)) Js hg own q nd
  · exact ld_blt (X := X.suite a (X.pn ++ pins)) Js hg no blt q ne nd
theorem clauses {X : Cx} {pins : List (Addr × Obj)} {B : Heap} {sI s : Shared} {σ : St} {H : Hp} {a : Addr} {cls : Value} {d : Option Addr} {W : WX} {D : Ends} (g : Got X pins B sI σ H a cls d s) (tk : L2N.Takes X W) {hds : List ExceptHandler} {l : List Hx} (hx : HdsX X hds l) (w : wHds X.K W D l cls d σ H) :
    wpAny (model X.prog X.w) X.A (handleBy (.ref a) X.env hds) (SP X pins D) X.xe s := by
  have ok := g.inv.ok
  have typ : PySem.W.Looks (model X.prog X.w) s.heap (typeOf (.ref a)) cls := fun A Q E s2 k q => by
    obtain ⟨oe, fv, at_, zn, _⟩ := g.fly.there
    exact wpAny_typeOf_ref (k _ _ at_) (by rw [zn.1]; exact q)
  induction hx with
  | nil => exact g.onward tk w
  | one nm su r ih =>
    obtain ⟨b, hit, no, yes⟩ := w
    refine wpAny_handleBy_cons (codeAny_handlers_test (clauseName nm g.now ((PySem.W.exm_one (M := model X.prog X.w) g.now.kIn typ hit).here ?_))) (fun z => nomatch z)
    cases b with
    | false => exact ih (no rfl)
    | true =>
      refine codeAny_handlers_suite (HandSPX.lands_againZ g.fly fun h2 fly2 u2 => ?_)
      have g2 := g.moved fly2 u2
      obtain ⟨oe, fv, J, q1, q2, q3, q4⟩ := g2.lay
      exact wpAny_mono ((su a (X.pn ++ pins)).run [] _ _ _ _ (suited J) (yes rfl a oe fv g.fr q1 q2 q3 q4)) (fun fl s2 z => unsuitedP ok z) fun _ _ z => z.elim
  | @as x n i c ts b₀ sts np hp hds l nm nd hi loc su r ih =>
    obtain ⟨b, hit, no, yes⟩ := w
    refine wpAny_handleBy_cons (codeAny_handlers_test (clauseName nm g.now ((PySem.W.exm_one (M := model X.prog X.w) g.now.kIn typ hit).here ?_))) (fun z => nomatch z)
    cases b with
    | false => exact ih (no rfl)
    | true =>
      refine codeAny_handlers_suite_as (HandSPX.lands_againZ g.fly fun h2 fly2 u2 => ?_)
      have g2 := g.moved fly2 u2
      obtain ⟨oe, fv, J, q1, q2, q3, q4⟩ := g2.lay
      refine store_ok (X := X.suite a (X.pn ++ pins)) (v := .ref a) (suited J) nd hi (.inl loc) rfl (fun s2 J2 => ?_) (.inr loc)
      exact wpAny_mono ((su a (X.pn ++ pins)).run [] s2 _ _ _ J2 (yes rfl a oe fv g.fr q1 q2 q3 q4)) (fun fl s3 z => nameGone nd hi loc (unsuitedP ok z)) fun _ _ z => z.elim
theorem untried {X : Cx} {pins : List (Addr × Obj)} {D : Ends} {xe : Value → Shared → Prop} {fl : Flow} {s : Shared} (ok : X.Ok) (z : SP (X.tr (X.pn ++ pins) xe) [] D fl s) : SP X pins D fl s := by
  cases fl with
  | ret u => let ⟨v, st, Hb, J, rv, q⟩ := z; exact ⟨v, st, Hb, J.ofTry ok, rv, q⟩
  | next => let ⟨st, Hb, J, q⟩ := z; exact ⟨st, Hb, J.ofTry ok, q⟩
  | brk => let ⟨st, Hb, J, q⟩ := z; exact ⟨st, Hb, J.ofTry ok, q⟩
  | cont => let ⟨st, Hb, J, q⟩ := z; exact ⟨st, Hb, J.ofTry ok, q⟩
theorem ps_tryX {X : Cx} {body : List Stmt} {h₀ : ExceptHandler} {hds : List ExceptHandler} {l : List Hx} {pos : Pos} {tb : WX → TS} {Wout : WX} (stk : X.stack = X.env :: X.outer) (fra : X.env.frame = some X.env.locals) (noex : X.ex = []) (tk : L2N.Takes X Wout)
    (hb : ∀ (W : WX) (pn : List (Addr × Obj)) (xe : Value → Shared → Prop), L2N.Takes (X.tr pn xe) W → PassesOwn (model X.prog X.w) X.A X.env xe → PSs (X.tr pn xe) body (tb W)) (hx : HdsX X (h₀ :: hds) l) :
    PS X (.Try body (h₀ :: hds) [] [] pos) (fun D σ H => tb (wHds X.K Wout D l) D σ H) where
  run := fun pins s σ H D J want => by
    have ok := J.ok
    refine wpAny_Try_except (wpAny_mono ((hb (wHds X.K Wout D l) (X.pn ++ pins) (fun e s1 => wpAny (model X.prog X.w) X.A (noteFrame e X.env) (fun _ s2 => wpAny (model X.prog X.w) X.A (setFlight e none) (fun _ s3 =>
      wpAny (model X.prog X.w) X.A (handleBy e X.env (h₀ :: hds)) (SP X pins D) X.xe s3) X.xe s2) X.xe s1) (fun u s1 air => ?_) PassesOwn.looking).run [] s σ H D (J.toTry _) want) (fun fl s1 z => ?_) fun _ _ z => z)
    · obtain ⟨a, B, sI, pn2, st, Hb, cls, d, rfl, Jt, inB, up, sky, fr, os, ag, w⟩ := air
      have sky2 : L2.Sky B (X.env :: X.outer) a (L2N.Zn cls d) X.env.locals s1.heap := stk ▸ sky
      exact L2N.Sky.land L2N.Zn.steady (by rw [ok.frames, stk]) fra sky2 fun h2 fly u2 => clauses (s := { s1 with heap := h2 }) ⟨stk, fra, noex, Jt.ofTry ok, inB, up.trans u2, os, ag, fly, fr⟩ tk hx w
    · have z2 := untried ok z
      cases fl with
      | next => exact wpAny_execs_nil z2
      | ret u => exact z2
      | brk => exact z2
      | cont => exact z2
/-- the name of an except clause goes -/
theorem RelS.gone {i : Nat} {s : Slot} (r : RelS G Fz σ H env) (h : env[i]? = some s) (hs : s.mine = false) : RelS G Fz (σ.set i none) H (env.set i .emp) ∧ Ext Fz σ env H Fz (σ.set i none) (env.set i .emp) H := by
  have hi : i < σ.length := by rw [r.len]; exact getElem?_lt h
  refine ⟨⟨r.sub, by rw [List.length_set, List.length_set]; exact r.len, fun j sj ej => ?_, fun j k sj sk b ej ek mj mk qj qk => ?_, r.hot⟩, ⟨fun _ _ e => e, fun p o e w => ⟨e, fun ⟨j, sj, ej, m, q⟩ => ?_, fun z => z⟩, fun j l ej => ?_, fun _ e => e⟩⟩
  · rcases set_get ej with ⟨rfl, rfl⟩ | ⟨nj, ej⟩
    · exact ⟨none, List.getElem?_set_self hi, trivial⟩
    · obtain ⟨o, h1, h2⟩ := r.at_ j sj ej
      exact ⟨o, by rw [List.getElem?_set_ne (Ne.symm nj)]; exact h1, h2⟩
  · rcases set_get ej with ⟨rfl, rfl⟩ | ⟨nj, ej⟩
    · cases mj
    · rcases set_get ek with ⟨rfl, rfl⟩ | ⟨nk, ek⟩
      · cases mk
      · rw [List.getElem?_set_ne (Ne.symm nj)] at qj
        rw [List.getElem?_set_ne (Ne.symm nk)] at qk
        exact r.sep j k sj sk b ej ek mj mk qj qk
  · rcases set_get ej with ⟨rfl, rfl⟩ | ⟨nj, ej⟩
    · cases m
    · rw [List.getElem?_set_ne (Ne.symm nj)] at q
      exact w ⟨j, sj, ej, m, q⟩
  · have nj : j ≠ i := fun z => by subst z; rw [h] at ej; cases ej; cases hs
    exact ⟨⟨l, by rw [List.getElem?_set_ne (Ne.symm nj)]; exact ej⟩, List.getElem?_set_ne (Ne.symm nj)⟩
def finH : Option Nat → R Fl → R Fl
  | none, .ok f e => .ok f e
  | some i, .ok f e => match e[i]? with
    | some s => if s.mine then .bad else .ok f (e.set i .emp)
    | none => .bad
  | _, _ => .bad
/-- where a clause's name is put -/
def begH (c' : Nat) (fs : List D) (e : En) : Option Nat → Option En
  | none => some e
  | some i => match e[i]? with
    | some .emp => some (e.set i (.fro (.exc c' fs)))
    | _ => none
structure MHd where
  c : Nat
  nm : Option Nat
  m : M Fl
def mHds (c' : Nat) (fs : List D) (e : En) : List MHd → R Fl
  | [] => .err c' fs e
  | h :: l => if subE c' h.c then (match begH c' fs e h.nm with
      | some e2 => finH h.nm (h.m e2)
      | none => .bad) else mHds c' fs e l
/-- try: mb, except ..: .. -/
def mTry (mb : M Fl) (l : List MHd) : M Fl := fun env => match mb env with
  | .err c' fs e1 => mHds c' fs e1 l
  | r => r
theorem own_gone {i : Nat} {q : Addr} (h : Own (σ.set i none) (env.set i .emp) q) : Own σ env q := by
  obtain ⟨j, s, e, m, z⟩ := h
  rcases set_get e with ⟨rfl, rfl⟩ | ⟨nj, e⟩
  · cases m
  · rw [List.getElem?_set_ne (Ne.symm nj)] at z
    exact ⟨j, s, e, m, z⟩
/-- the clauses, by their mirrors -/
inductive QHds (G : Kx) (X : Cx) : List ExceptHandler → List MHd → Prop
  | nil : QHds G X [] []
  | one {x : Str} {cc : Nat} {C : Addr} {ns : List Str} {mh : M Fl} {b₀ : Stmt} {sts : List Stmt} {np hp : Pos} {hds : List ExceptHandler} {l : List MHd} (hes : G.es[cc]? = some (C, ns)) (nm : Names X x (.ref C))
      (su : ∀ (a : Addr) (pn : List (Addr × Obj)), QSs (hotK G (some a)) (X.suite a pn) W0 (b₀ :: sts) mh) (r : QHds G X hds l) : QHds G X (.ExceptHandler (some (.Name x np)) none (b₀ :: sts) hp :: hds) (⟨cc, none, mh⟩ :: l)
  | as {x n : Str} (i : Nat) {cc : Nat} {C : Addr} {ns : List Str} {mh : M Fl} {b₀ : Stmt} {sts : List Stmt} {np hp : Pos} {hds : List ExceptHandler} {l : List MHd} (hes : G.es[cc]? = some (C, ns)) (nm : Names X x (.ref C)) (nd : X.N.Nodup) (hi : X.N[i]? = some n) (loc : X.env.kindOf n = some .local)
      (su : ∀ (a : Addr) (pn : List (Addr × Obj)), QSs (hotK G (some a)) (X.suite a pn) W0 (b₀ :: sts) mh) (r : QHds G X hds l) : QHds G X (.ExceptHandler (some (.Name x np)) (some n) (b₀ :: sts) hp :: hds) (⟨cc, some i, mh⟩ :: l)
def goneS (σ : St) : Option Nat → St
  | none => σ
  | some i => σ.set i none
/-- the state behind a suite, seen from the def again -/
theorem suiteBack {i : Option Nat} {Fz0 H0 : Hp} {σ0 : St} {env0 e2 e3 : En} {a : Addr} {f : Fl} (xx : Ext Fz0 σ0 env0 H0 Fz σ env H) (hG : G.hot = none) (r : RelS (hotK G (some a)) Fz σ H env) (eb : finH i (.ok f e2) = .ok f e3) {Fz3 : Hp} {σ3 : St} {H3 : Hp} (x4 : Ext Fz σ env H Fz3 σ3 e2 H3) (r5 : RelS (hotK G (some a)) Fz3 σ3 H3 e2) :
    RelS G Fz3 (goneS σ3 i) H3 e3 ∧ Ext Fz0 σ0 env0 H0 Fz3 (goneS σ3 i) e3 H3 ∧ ∀ q, Own (goneS σ3 i) e3 q → Own σ3 e2 q := by
  have eG : G = hotK G none := by rw [← hG]
  have r6 : RelS (hotK G none) Fz3 σ3 H3 e2 := r5.toHot fun b z => nomatch z
  rw [← eG] at r6
  cases i with
  | none =>
    simp only [finH, R.ok.injEq, true_and] at eb
    subst eb
    exact ⟨r6, xx.trans x4, fun q z => z⟩
  | some i =>
    simp only [finH] at eb
    cases e2i : e2[i]? with
    | none => rw [e2i] at eb; cases eb
    | some s2 =>
      rw [e2i] at eb
      cases ms : s2.mine with
      | true => simp [ms] at eb
      | false =>
        simp only [ms, Bool.false_eq_true, if_false, R.ok.injEq, true_and] at eb
        subst eb
        obtain ⟨r7, x7⟩ := r6.gone e2i ms
        exact ⟨r7, (xx.trans x4).trans x7, fun q => own_gone⟩
theorem finH_same {i : Option Nat} {f f' : Fl} {e2 e3 : En} (h : finH i (.ok f e2) = .ok f' e3) : f' = f := by
  cases i with
  | none => cases h; rfl
  | some i =>
    simp only [finH] at h
    cases q : e2[i]? with
    | none => rw [q] at h; cases h
    | some s =>
      rw [q] at h
      cases ms : s.mine with
      | true => simp [ms] at h
      | false => simp only [ms, Bool.false_eq_true, if_false] at h; cases h; rfl
theorem suite_in {nm : Option Nat} {mh : M Fl} {Fz0 H0 : Hp} {σ0 : St} {env0 e1 : En} {c' : Nat} {fs : List D} {cls : Value} {dd : Option Addr} {a : Addr} {oe : Obj} {fv : Array Value} (hG : G.hot = none) (ex : Ext Fz0 σ0 env0 H0 Fz σ e1 H) (rl : RelS G Fz σ H e1) (er : ErrIs G Fz H cls dd c' fs)
    (fr : H a = none) (q1 : oe.cls = cls) (q2 : oe.dict = dd) (q3 : oe.data = .fields fv) (q4 : fv[2]? = some .none)
    (p : PostS G W Fz0 σ0 env0 H0 E (match begH c' fs e1 nm with | some e2 => finH nm (mh e2) | none => .bad)) : tS (hotK G (some a)) W0 mh (endsOf E nm) (slotOf σ a nm) (upd H a (.frz oe exq)) := by
  obtain ⟨C, names, vs, dx, rfl, hc, rfl, hdx, ln, rs⟩ := er
  cases eb : begH c' fs e1 nm with
  | none => rw [eb] at p; exact p.elim
  | some e2 =>
    rw [eb] at p
    dsimp only at p
    obtain ⟨r2, x2⟩ := rl.alloc (o := .frz oe exq) fr
    have rep : Rep G (upd Fz a (.frz oe exq)) (.ref a) (.exc c' fs) := .exc upd_same q1 q2 ⟨fv, q3⟩ (x2.sub _ _ hdx) hc ln (rs.mono x2.sub)
    have step : RelS G (upd Fz a (.frz oe exq)) (slotOf σ a nm) (upd H a (.frz oe exq)) e2 ∧ Ext (upd Fz a (.frz oe exq)) σ e1 (upd H a (.frz oe exq)) (upd Fz a (.frz oe exq)) (slotOf σ a nm) e2 (upd H a (.frz oe exq)) := by
      cases nm with
      | none => cases eb; exact ⟨r2, Ext.refl _ _ _ _⟩
      | some i =>
        simp only [begH] at eb
        cases ei : e1[i]? with
        | none => rw [ei] at eb; cases eb
        | some s =>
          rw [ei] at eb
          cases s with
          | emp => cases eb; exact r2.setFro ei rfl rep
          | _ => cases eb
    obtain ⟨r3, x3⟩ := step
    have eG : G = hotK G none := by rw [← hG]
    have r3' := r3
    rw [eG] at r3'
    have r4 : RelS (hotK G (some a)) (upd Fz a (.frz oe exq)) (slotOf σ a nm) (upd H a (.frz oe exq)) e2 := r3'.toHot fun b z => by cases z; exact ⟨oe, fv, upd_same, q3, q4⟩
    have xx := (ex.trans x2).trans x3
    refine ⟨_, _, r4, ?_⟩
    cases em : mh e2 with
    | bad => rw [em] at p; cases nm <;> exact p.elim
    | err c2 fs2 e3 => rw [em] at p; cases nm <;> exact p.elim
    | ok f e3 =>
      rw [em] at p
      cases ef : finH nm (.ok f e3) with
      | bad => rw [ef] at p; exact p.elim
      | err c2 fs2 e4 => rw [ef] at p; cases nm with
        | none => cases ef
        | some i =>
          simp only [finH] at ef
          cases q : e3[i]? with
          | none => rw [q] at ef; cases ef
          | some s => rw [q] at ef; cases ms : s.mine <;> simp [ms] at ef
      | ok f' e4 =>
        obtain rfl := finH_same ef
        rw [ef] at p
        cases f' with
        | nx =>
          intro Fz3 σ3 H3 x4 r5
          obtain ⟨b1, b2, _⟩ := suiteBack xx hG r4 ef x4 r5
          cases nm <;> exact p Fz3 _ H3 b2 b1
        | bk =>
          intro Fz3 σ3 H3 x4 r5
          obtain ⟨b1, b2, _⟩ := suiteBack xx hG r4 ef x4 r5
          cases nm <;> exact p Fz3 _ H3 b2 b1
        | ct =>
          intro Fz3 σ3 H3 x4 r5
          obtain ⟨b1, b2, _⟩ := suiteBack xx hG r4 ef x4 r5
          cases nm <;> exact p Fz3 _ H3 b2 b1
        | rt s =>
          intro Fz3 v σ3 H3 x4 r5 rs3
          obtain ⟨b1, b2, b3⟩ := suiteBack xx hG r4 ef x4 r5
          have w1 : retR (hotK G none) Fz3 (upd H a (.frz oe exq)) (slotOf σ a nm) e2 H3 σ3 e3 v s := rs3.hot
          rw [← eG] at w1
          have w2 := w1.back xx r3
          have w3 : retR G Fz3 H0 σ0 env0 H3 (goneS σ3 nm) e4 v s := by
            cases s with
            | fro d => exact w2
            | own l => obtain ⟨b, y1, y2, y3, y4⟩ := w2; exact ⟨b, y1, y2, fun z => y3 (b3 b z), y4⟩
            | emp => exact w2
            | io l => exact w2
          cases nm <;> exact p Fz3 v _ H3 b2 b1 w3
theorem hds_of (hK : X.K = G.K) (ok : KOk G) (hG : G.hot = none) {hds : List ExceptHandler} {l : List MHd} (qh : QHds G X hds l) : ∃ lx : List Hx, HdsX X hds lx ∧ ∀ (E : Ends) (Fz0 H0 : Hp) (σ0 : St) (env0 e1 : En) (Fz : Hp) (σ : St) (H : Hp) (c' : Nat) (fs : List D) (cls : Value) (dd : Option Addr),
    Ext Fz0 σ0 env0 H0 Fz σ e1 H → RelS G Fz σ H e1 → ErrIs G Fz H cls dd c' fs → PostS G W Fz0 σ0 env0 H0 E (mHds c' fs e1 l) → wHds X.K W E lx cls dd σ H := by
  induction qh with
  | nil => exact ⟨[], .nil, fun E Fz0 H0 σ0 env0 e1 Fz σ H c' fs cls dd ex rl er p => p Fz σ H cls dd ex rl er⟩
  | @one x cc C ns mh b₀ sts np hp hds l hes nm su r ih =>
    obtain ⟨lx, h1, h2⟩ := ih
    refine ⟨⟨.ref C, none, fun a => tS (hotK G (some a)) W0 mh⟩ :: lx, .one nm su h1, fun E Fz0 H0 σ0 env0 e1 Fz σ H c' fs cls dd ex rl er p => ⟨subE c' cc, ?_, fun hn => ?_, fun hy a oe fv fr q1 q2 q3 q4 => ?_⟩⟩
    · obtain ⟨C', names, vs, dx, rfl, hc, _⟩ := er
      rw [hK]
      exact ok.xx _ _ _ _ _ _ hc hes
    · simp only [mHds, hn, Bool.false_eq_true, if_false] at p
      exact h2 E Fz0 H0 σ0 env0 e1 Fz σ H c' fs cls dd ex rl er p
    · simp only [mHds, hy, if_true] at p
      exact suite_in hG ex rl er fr q1 q2 q3 q4 p
  | @as x n i cc C ns mh b₀ sts np hp hds l hes nm nd hi loc su r ih =>
    obtain ⟨lx, h1, h2⟩ := ih
    refine ⟨⟨.ref C, some i, fun a => tS (hotK G (some a)) W0 mh⟩ :: lx, .as nm nd hi loc su h1, fun E Fz0 H0 σ0 env0 e1 Fz σ H c' fs cls dd ex rl er p => ⟨subE c' cc, ?_, fun hn => ?_, fun hy a oe fv fr q1 q2 q3 q4 => ?_⟩⟩
    · obtain ⟨C', names, vs, dx, rfl, hc, _⟩ := er
      rw [hK]
      exact ok.xx _ _ _ _ _ _ hc hes
    · simp only [mHds, hn, Bool.false_eq_true, if_false] at p
      exact h2 E Fz0 H0 σ0 env0 e1 Fz σ H c' fs cls dd ex rl er p
    · simp only [mHds, hy, if_true] at p
      exact suite_in hG ex rl er fr q1 q2 q3 q4 p
theorem qs_try {body : List Stmt} {h₀ : ExceptHandler} {hds : List ExceptHandler} {mb : M Fl} {l : List MHd} (hK : X.K = G.K) (ok : KOk G) (hG : G.hot = none) (stk : X.stack = X.env :: X.outer) (fra : X.env.frame = some X.env.locals) (noex : X.ex = []) (tk : L2N.Takes X W)
    (hb : ∀ (W : WX) (pn : List (Addr × Obj)) (xe : Value → Shared → Prop), L2N.Takes (X.tr pn xe) W → PassesOwn (model X.prog X.w) X.A X.env xe → QSs G (X.tr pn xe) W body mb) (qh : QHds G X (h₀ :: hds) l) :
    QS G X W (.Try body (h₀ :: hds) [] [] pos) (mTry mb l) := by
  obtain ⟨lx, h1, h2⟩ := hds_of (W := W) hK ok hG qh
  refine PS_imp (ps_tryX (tb := fun W => tS G W mb) stk fra noex tk hb h1) fun E σ H ⟨Fz, env, r, p⟩ => ⟨Fz, env, r, ?_⟩
  unfold mTry at p
  cases e0 : mb env with
  | bad => rw [e0] at p; exact p
  | ok f e1 => rw [e0] at p; cases f <;> exact p
  | err c' fs e1 =>
    rw [e0] at p
    exact fun Fz' σ' H' cls y ex rl er => h2 E Fz H σ env e1 Fz' σ' H' c' fs cls y ex rl er p

/-! ### e.f of an error -/
theorem mem_lkN {β : Type} : ∀ {l : List (Nat × β)} {a : Nat} {b : β}, l.lookup a = some b → (a, b) ∈ l
  | [], _, _, e => by cases e
  | (c, d) :: r, a, b, e => by
    rw [List.lookup_cons] at e
    cases q : (a == c) with
    | true => rw [q] at e; cases e; rw [eq_of_beq q]; exact List.mem_cons_self
    | false => rw [q] at e; exact List.mem_cons_of_mem _ (mem_lkN e)
/-- the field's place by the error's class -/
def getX (tb : List (Nat × Nat)) : D → M D
  | .exc c l => match tb.lookup c with
    | some k => match l[k]? with
      | some d => M.pure d
      | none => bad
    | none => bad
  | _ => bad
structure XFld (G : Kx) (f : Str) (c k : Nat) : Prop where
  ok : ∃ C names, G.es[c]? = some (C, names) ∧ (∃ fI fs, EIni G.K C fI fs ∧ f ∈ fs) ∧ names[k]? = some f ∧ f ∉ names.take k
theorem lookup_at {f : Str} : ∀ {names : List Str} {vs : List V} {k : Nat} {v : V}, names[k]? = some f → f ∉ names.take k → vs[k]? = some v → (names.zip vs).lookup f = some v
  | [], _, _, _, h, _, _ => by simp at h
  | _ :: _, [], _, _, _, _, h => by simp at h
  | n :: names, w :: vs, 0, v, h1, _, h3 => by
    simp at h1 h3; subst h1 h3
    simp [List.lookup]
  | n :: names, w :: vs, k + 1, v, h1, h2, h3 => by
    have hne : f ≠ n := fun z => h2 (by rw [z]; simp)
    have e : (f == n) = false := by simpa using hne
    simp only [List.zip_cons_cons, List.lookup, e]
    exact lookup_at (by simpa using h1) (fun z => h2 (by rw [List.take_succ_cons]; exact List.mem_cons_of_mem _ z)) (by simpa using h3)
theorem qe_xf (hK : X.K = G.K) (ok : KOk G) {tb : List (Nat × Nat)} (hx : ∀ p ∈ tb, XFld G f p.1 p.2) (ha : QE G X W a ma) (hb : attributeBase a f X.env (eval a X.env) = eval a X.env := by rfl) : QE G X W (.Attribute a f pos) (ma.bind (getX tb)) := by
  refine ⟨fun pins s σ H Q I h => ?_⟩
  refine attr_of hb (thn (ha.run pins s σ H _ I (tOf.bind_ backD h)) fun u s1 ⟨v, H1, I1, rv, d, Fz, env, r, hh, p⟩ => ?_)
  have rx : Rep G Fz v d := hh _ List.mem_cons_self
  cases rx with
  | @exc a' dx C oe c names vs ds h0 h1 h2 h3 h4 hc hl rs =>
    simp only [getX] at p
    cases e1 : tb.lookup c with
    | none => rw [e1] at p; exact p.elim
    | some k =>
      rw [e1] at p
      dsimp only at p
      cases e2 : ds[k]? with
      | none => rw [e2] at p; exact p.elim
      | some d1 =>
        rw [e2] at p
        obtain ⟨v1, ev, rv1⟩ := rs.get' e2
        obtain ⟨C', nm', hc', ⟨fI, fs, EI, hfs⟩, hk, hnot⟩ := (hx (c, k) (mem_lkN e1)).ok
        rw [hc] at hc'; cases hc'
        obtain rfl : u = Value.ref a' := rv
        have lk := lookup_at hk hnot ev
        have hx0 : ObjOk X.prog X.w H1 s1.heap dx (.xd (names.zip vs)) := I1.hok dx _ (r.sub _ _ h4)
        obtain ⟨mA, hns, hr⟩ := hx0
        obtain ⟨od, ho, hl2⟩ := lookIn_ns hns
        obtain ⟨u1, hu, ru⟩ := RelO.some_of (v := v1) (o := mA f) (by rw [← lk]; exact hr f)
        obtain ⟨hget, _⟩ := (show ObjOk X.prog X.w H1 s1.heap a' (.frz oe exq) from I1.hok a' _ (r.sub _ _ h0))
        obtain ⟨fv, hd⟩ := h3
        have J : PySem.W.InstAt s1.heap a' oe C (some od) := ⟨hget, h1, by unfold PySem.W.notCls; rw [hd] <;> rfl, by rw [h2]; exact ho⟩
        have ec := (ok.err c C names hc).ec
        exact HandSPX.exc_get I1.kIn J (by rw [hK]; exact ec.hg) (by rw [hK]; exact ec.hk) (by rw [hK]; exact ec.hs) (PySem.W.findObj_own (by rw [hK]; exact ec.hd) (by rw [hK]; exact EI.no f hfs) rfl (by rw [hl2, hu])) (handed_of ru) ⟨v1, H1, I1.tok _, ru, p Fz v1 H1 (Ext.refl _ _ _ _) r rv1⟩
  | _ => exact p.elim
theorem xf_nil : ∀ p ∈ ([] : List (Nat × Nat)), XFld G f p.1 p.2 := fun _ h => nomatch h
theorem xf_cons {c k : Nat} {tb : List (Nat × Nat)} {C fI : Addr} {names fs : List Str} (hc : G.es[c]? = some (C, names)) (EI : EIni G.K C fI fs) (hf : f ∈ fs) (hk : names[k]? = some f) (hn : f ∉ names.take k) (h : ∀ p ∈ tb, XFld G f p.1 p.2) : ∀ p ∈ (c, k) :: tb, XFld G f p.1 p.2 := fun p hp => by
  rcases List.mem_cons.mp hp with rfl | hp
  · exact ⟨C, names, hc, ⟨fI, fs, EI, hf⟩, hk, hn⟩
  · exact h p hp
end
end Eng

end
section
set_option Elab.async false
set_option linter.all false
set_option autoImplicit false
set_option maxRecDepth 100000
set_option maxHeartbeats 2000000
namespace Eng
open PySem PySem.Spec L2
open PyProof.Rows hiding St

/-! ### an iterator's end while an error is handled -/
/-- StopIteration made, raised beside the handled error, and taken -/
theorem stopped {α : Type} {prog : Program} {w : World} {A : Around} {s : Shared} {x1 : Addr} {R : Value → Shared → Prop} (hot : HotX.HotAt A x1 s.heap)
    (go : ∀ (e : Addr) (h' : Heap), (∀ b o, s.heap.get? b = some o → h'.get? b = some o) → ({ s with heap := h' } : Shared).TypeIs (.ref e) "StopIteration" → R (.ref e) { s with heap := h' }) :
    wpAny (model prog w) A (Builtin.SmallTypes.stopIteration (α := α)) (fun _ _ => False) R s := by
  obtain ⟨hh, ob, fv, at_, dat, ctx⟩ := hot
  show wpAny _ _ (newExc (.type "StopIteration") [] >>= _) _ _ _
  simp only [newExc, newTuple]
  refine wpAny_bind (wpAny_bind (wpAny_newObj_type (wpAny_bind (m := firstArgMember _ _) (wpAny_of_eq (a := Value.none) (by first | rfl | (simp only [firstArgMember]; rfl)) (wpAny_newObj_type ?_ (by size_fits)))) (by size_fits)))
  have a1 := fun o1 o2 => Heap.get?_push_of_some o2 (Heap.get?_push_of_some o1 at_)
  refine HotX.raiseNew_hot ⟨hh, ob, fv, a1 _ _, dat, ctx⟩ (Nat.ne_of_lt (Heap.lt_size (Heap.get?_push_of_some _ at_))) (Heap.get?_push_size _ rfl) rfl (by first | (simp; done) | (simp; omega) | (simp only [Array.size_append]; simp; omega)) (go _ _ (fun b o e => ?_) ⟨_, Heap.get?_update_self _ (Heap.get?_push_size _ rfl) rfl, rfl⟩)
  exact (Heap.get?_update_other _ _ (Nat.ne_of_gt (Heap.lt_size (Heap.get?_push_of_some _ e)))).trans (Heap.get?_push_of_some _ (Heap.get?_push_of_some _ e))
theorem list_end_hot {prog : Program} {w : World} {A : Around} {E : Value → Shared → Prop} {s : Shared} {it l x1 : Addr} {i : Nat} {vals : Array Value} {Q : Option Value → Shared → Prop} (hot : HotX.HotAt A x1 s.heap) (far : x1 ≠ it) (iter : s.heap.IsListIter it l i) (seq : s.heap.IsList l vals) (out : vals[i]? = none)
    (done : ∀ h', (∀ b o, b ≠ it → s.heap.get? b = some o → h'.get? b = some o) → Q none { s with heap := h' }) : wpAny (model prog w) A (pyNext (.ref it)) Q E s := by
  obtain ⟨io, iat, icls, idat⟩ := id iter
  obtain ⟨so, sat, _, cap, sdat⟩ := seq
  have put : ∀ b o, b ≠ it → s.heap.get? b = some o → (s.heap.update it (Obj.mapFields (·.setIfInBounds 0 .none))).get? b = some o := fun b o ne e => (Heap.get?_update_other _ _ (Ne.symm ne)).trans e
  obtain ⟨hh, ob, fv, at_, dat, ctx⟩ := hot
  unfold pyNext
  refine wpAny_bind (wpAny_attempt (wpAny_callSpecial?_slot (name := Str.ofString "__next__") iter.typeIs slot_listiter_next (wpAny_call_entry slot_listiter_next iter.typeIs entry_listiter_next ?_ (args_listiter_next _))))
  show wpAny _ _ (field (.ref it) 0 >>= _) _ _ s
  refine wpAny_bind (wpAny_field iat idat (x := .ref l) rfl ?_)
  show wpAny _ _ (if (Value.ref l == Value.none) = true then _ else _) _ _ s
  rw [if_neg (by simp)]
  show wpAny _ _ (field (.ref it) 1 >>= _) _ _ s
  refine wpAny_bind (wpAny_field iat idat (x := .int i 0) rfl ?_)
  show wpAny _ _ (seqItems? (.ref l) >>= _) _ _ s
  refine wpAny_bind (wpAny_seqItems sat sdat ?_)
  simp only [Int.toNat_natCast, out]
  refine wpAny_bind (wpAny_rule (wpAny_bind (wpAny_setField iat idat (by simp) ?_)))
  refine wpAny_mono (stopped (R := fun e s2 => wpAny (model prog w) A (do let k ← isInstance e (Value.type "StopIteration"); if k = true then pure none else throw e) Q E s2) (A := A.in1) (s := { s with heap := s.heap.update it (Obj.mapFields (·.setIfInBounds 0 .none)) }) ⟨hh, ob, fv, put _ _ far at_, dat, ctx⟩ fun e h2 keep typ => ?_) (fun _ _ z => False.elim z) fun e s2 z => z
  exact wpAny_bind (wpAny_isInstance (T := "StopIteration") (b := true) typ isSubtype_stop (wpAny_pure (done _ fun b o ne q => keep b o (put b o ne q))))
theorem tuple_end_hot {prog : Program} {w : World} {A : Around} {E : Value → Shared → Prop} {s : Shared} {it l x1 : Addr} {i : Nat} {vals : Array Value} {Q : Option Value → Shared → Prop} (hot : HotX.HotAt A x1 s.heap) (far : x1 ≠ it) (iter : s.heap.IsTupleIter it l i) (seq : s.heap.IsTuple l vals) (out : vals[i]? = none)
    (done : ∀ h', (∀ b o, b ≠ it → s.heap.get? b = some o → h'.get? b = some o) → Q none { s with heap := h' }) : wpAny (model prog w) A (pyNext (.ref it)) Q E s := by
  obtain ⟨io, iat, icls, idat⟩ := id iter
  obtain ⟨so, sat, _, cap, sdat⟩ := seq
  have put : ∀ b o, b ≠ it → s.heap.get? b = some o → (s.heap.update it (Obj.mapFields (·.setIfInBounds 0 .none))).get? b = some o := fun b o ne e => (Heap.get?_update_other _ _ (Ne.symm ne)).trans e
  obtain ⟨hh, ob, fv, at_, dat, ctx⟩ := hot
  unfold pyNext
  refine wpAny_bind (wpAny_attempt (wpAny_callSpecial?_slot (name := Str.ofString "__next__") iter.typeIs F.slot_tuple_iterator_next (wpAny_call_entry F.slot_tuple_iterator_next iter.typeIs F.entry_tuple_iterator_next ?_ (F.args_tuple_iterator_next_1 _))))
  show wpAny _ _ (field (.ref it) 0 >>= _) _ _ s
  refine wpAny_bind (wpAny_field iat idat (x := .ref l) rfl ?_)
  show wpAny _ _ (if (Value.ref l == Value.none) = true then _ else _) _ _ s
  rw [if_neg (by simp)]
  show wpAny _ _ (field (.ref it) 1 >>= _) _ _ s
  refine wpAny_bind (wpAny_field iat idat (x := .int i 0) rfl ?_)
  show wpAny _ _ (seqItems? (.ref l) >>= _) _ _ s
  refine wpAny_bind (wpAny_seqItems sat sdat ?_)
  simp only [Int.toNat_natCast, out]
  refine wpAny_bind (wpAny_rule (wpAny_bind (wpAny_setField iat idat (by simp) ?_)))
  refine wpAny_mono (stopped (R := fun e s2 => wpAny (model prog w) A (do let k ← isInstance e (Value.type "StopIteration"); if k = true then pure none else throw e) Q E s2) (A := A.in1) (s := { s with heap := s.heap.update it (Obj.mapFields (·.setIfInBounds 0 .none)) }) ⟨hh, ob, fv, put _ _ far at_, dat, ctx⟩ fun e h2 keep typ => ?_) (fun _ _ z => False.elim z) fun e s2 z => z
  exact wpAny_bind (wpAny_isInstance (T := "StopIteration") (b := true) typ isSubtype_stop (wpAny_pure (done _ fun b o ne q => keep b o (put b o ne q))))

/-! ### walks, whether an error is handled or not -/
def CoolH (A : Around) (H : Hp) : Prop := A.handled = none ∨ ∃ x, A.handled = some (.ref x) ∧ HotF H x
theorem CoolH.imp {A : Around} {H H' : Hp} (c : CoolH A H) (k : ∀ b o u, H b = some (.frz o u) → H' b = some (.frz o u)) : CoolH A H' := by
  rcases c with c | ⟨x, h, o, vs, e, d, c⟩
  · exact .inl c
  · exact .inr ⟨x, h, o, vs, k _ _ _ e, d, c⟩
/-- nothing is handled, or an error that is neither the iterator nor changed -/
theorem CoolH.now {X : Cx} {pins : List (Addr × Obj)} {σ : St} {H : Hp} {s : Shared} (c : CoolH X.A H) (J : Inv X pins σ H s) : X.A.handled = none ∨ ∃ x, HotX.HotAt X.A x s.heap ∧ ∀ b, H b = none → x ≠ b := by
  rcases c with c | ⟨x, h, o, vs, e, d, c⟩
  · exact .inl c
  · obtain ⟨at_, _⟩ := (show ObjOk X.prog X.w H s.heap x (.frz o exq) from J.hok x _ e)
    exact .inr ⟨x, ⟨h, o, vs, at_, d, c⟩, fun b n z => by rw [z, n] at e; cases e⟩
/-- an iterator of one object: how it gives its items, how it ends -/
structure Wk (P : Program) (w : World) (K : PySem.W.Frag) (tg : Expr) (J : It) (it : Addr) (tn : Nat → Heap → Prop) : Prop where
  there : ∀ i h, tn i h → ∃ o, h.get? it = some o ∧ ∀ v, o.data ≠ .cell v
  keep : ∀ i h h', tn i h → (∀ o, h.get? it = some o → h'.get? it = some o) → tn i h'
  item : ∀ (X : Cx), X.prog = P → X.w = w → X.K = K → ∀ (i : Nat) (pins : List (Addr × Obj)) (s : Shared) (σ : St) (H : Hp) (E : Value → Shared → Prop), Inv X pins σ H s → FpOk X pins H it → tn i s.heap → J.go i H →
    wpAny (model P w) X.A (pyNext (.ref it)) (fun r s1 => ∃ u, r = some u ∧ wpAny (model P w) X.A (letOwnedTupleGo tg (.ref it) u) (fun _ s2 => ∃ x H', Inv X pins σ H' s2 ∧ RelV x u ∧ J.yld i H x H' ∧ tn (i + 1) s2.heap ∧ H' it = none) E s1) E s
  done : ∀ (X : Cx), X.prog = P → X.w = w → X.K = K → ∀ (i : Nat) (pins : List (Addr × Obj)) (s : Shared) (σ : St) (H : Hp) (E : Value → Shared → Prop), CoolH X.A H → Inv X pins σ H s → FpOk X pins H it → tn i s.heap → J.stop i H →
    wpAny (model P w) X.A (pyNext (.ref it)) (fun r s1 => r = none ∧ Inv X pins σ H s1) E s
  same : ∀ (A : Around) (i : Nat) (s : Shared) (Q : Value → Shared → Prop) (E : Value → Shared → Prop), tn i s.heap → Q (.ref it) s → wpAny (model P w) A (pyIter (.ref it)) Q E s
theorem wk_list {P : Program} {w : World} {K : PySem.W.Frag} {tg : Expr} (a it : Addr) : Wk P w K tg (Itl K a) it (fun i h => h.IsListIter it a i) where
  there := fun i h ⟨o, e, _, d⟩ => ⟨o, e, fun v z => by rw [d] at z; cases z⟩
  keep := fun i h h' here k => here.at k
  item := fun Y eP ew eK i pins s st H E J free here ⟨xs, x, seq, got⟩ => by
    subst eP ew eK
    obtain ⟨its, vr, pl, _⟩ := J.list seq
    obtain ⟨u, gu, ru⟩ := vr.get got
    obtain ⟨n0, n1, _, n3, n4, n5⟩ := free
    exact wpAny_pyNext_list_item here pl.isList (x := u) (by simpa using gu) fun h2 next but => ⟨u, rfl, let ⟨o, e, c, d⟩ := id next
      go_of (s := { s with heap := h2 }) e c d (by decide) ⟨x, H, J.turned (t' := s.toks) (fun b o ne q => (but.2 b ne).trans q) n0 n1 n3 n4 n5, ru, ⟨rfl, fun ys sy => by rw [J.list_inj sy seq]; exact got⟩, next, n0⟩⟩
  done := fun Y eP ew eK i pins s st H E cool J free here ⟨xs, seq, le⟩ => by
    subst eP ew eK
    obtain ⟨its, vr, pl, _⟩ := J.list seq
    obtain ⟨n0, n1, _, n3, n4, n5⟩ := free
    have out : its.toArray[i]? = none := by have := vr.length; simp; omega
    rcases cool.now J with no | ⟨x1, hot, ne⟩
    · exact wpAny_pyNext_list_end no here pl.isList out fun h2 but => ⟨rfl, J.turned (t' := s.toks) (fun b o nb q => but b o nb q) n0 n1 n3 n4 n5⟩
    · exact list_end_hot hot (ne it n0) here pl.isList out fun h2 but => ⟨rfl, J.turned (t' := s.toks) (fun b o nb q => but b o nb q) n0 n1 n3 n4 n5⟩
  same := fun _ _ _ _ _ here q => wpAny_pyIter_listiter here q
theorem wk_tuple {P : Program} {w : World} {K : PySem.W.Frag} {tg : Expr} (a it : Addr) : Wk P w K tg (Itt K a) it (fun i h => h.IsTupleIter it a i) where
  there := fun i h ⟨o, e, _, d⟩ => ⟨o, e, fun v z => by rw [d] at z; cases z⟩
  keep := fun i h h' here k => here.at k
  item := fun Y eP ew eK i pins s st H E J free here ⟨xs, x, seq, got⟩ => by
    subst eP ew eK
    obtain ⟨its, vr, pl, _⟩ := J.tuple seq
    have pl2 : s.heap.IsTuple a its.toArray := pl
    obtain ⟨u, gu, ru⟩ := vr.get got
    obtain ⟨n0, n1, _, n3, n4, n5⟩ := free
    exact wpAny_pyNext_tuple_item here pl2 (x := u) (by simpa using gu) fun h2 next but => ⟨u, rfl, let ⟨o, e, c, d⟩ := id next
      go_of (s := { s with heap := h2 }) e c d (by decide) ⟨x, H, J.turned (t' := s.toks) (fun b o ne q => (but.2 b ne).trans q) n0 n1 n3 n4 n5, ru, ⟨rfl, fun ys sy => by rw [J.tuple_inj sy seq]; exact got⟩, next, n0⟩⟩
  done := fun Y eP ew eK i pins s st H E cool J free here ⟨xs, seq, le⟩ => by
    subst eP ew eK
    obtain ⟨its, vr, pl, _⟩ := J.tuple seq
    have pl2 : s.heap.IsTuple a its.toArray := pl
    obtain ⟨n0, n1, _, n3, n4, n5⟩ := free
    have out : its.toArray[i]? = none := by have := vr.length; simp; omega
    rcases cool.now J with no | ⟨x1, hot, ne⟩
    · exact wpAny_pyNext_tuple_end no here pl2 out fun h2 but => ⟨rfl, J.turned (t' := s.toks) (fun b o nb q => but b o nb q) n0 n1 n3 n4 n5⟩
    · exact tuple_end_hot hot (ne it n0) here pl2 out fun h2 but => ⟨rfl, J.turned (t' := s.toks) (fun b o nb q => but b o nb q) n0 n1 n3 n4 n5⟩
  same := fun _ _ _ _ _ here q => wpAny_pyIter_tupleiter here q
theorem wk_range {P : Program} {w : World} {K : PySem.W.Frag} {tg : Expr} (it : Addr) (lo : Int) (n : Nat) : Wk P w K tg (Itr lo n) it (fun i h => IsRangeIter h it (lo + (i : Nat) * 1) ((n : Int) - (i : Nat)) 1) where
  there := fun i h here => ⟨_, here, fun v z => nomatch (show Data.fields _ = Data.cell v from z)⟩
  keep := fun i h h' here k => k _ here
  item := fun Y eP ew eK i pins s st H E J free here more => by
    subst eP ew eK
    obtain ⟨n0, n1, _, n3, n4, n5⟩ := free
    have lt : i < n := more
    refine wpAny_pyNext_range_item here (by omega) fun h2 next but => ⟨_, rfl, ?_⟩
    have stands : IsRangeIter h2 it (lo + ((i + 1 : Nat) : Int) * 1) ((n : Int) - ((i + 1 : Nat) : Int)) 1 := by
      have q := next
      rw [show lo + ((i : Nat) : Int) * 1 + 1 = lo + ((i + 1 : Nat) : Int) * 1 by omega, show (n : Int) - ((i : Nat) : Int) - 1 = (n : Int) - ((i + 1 : Nat) : Int) by omega] at q
      exact q
    exact go_of (s := { s with heap := h2, toks := s.toks + 1 }) (n := "range_iterator") stands rfl rfl (by decide) ⟨.int (lo + i), H, J.turned (fun b o ne q => (but.2 b ne).trans q) n0 n1 n3 n4 n5, ⟨s.toks, by rw [Int.mul_one]⟩, ⟨rfl, rfl⟩, stands, n0⟩
  done := fun Y eP ew eK i pins s st H E cool J free here le => by
    subst eP ew eK
    obtain ⟨n0, n1, _, n3, n4, n5⟩ := free
    have no_more : ((n : Int) - (i : Nat)) ≤ 0 := by have q : n ≤ i := le; omega
    rcases cool.now J with no | ⟨x1, hot, ne⟩
    · exact wpAny_pyNext_range_end no here no_more fun h2 but => ⟨rfl, J.turned (t' := s.toks) (fun b o nb q => by first | exact but b o nb q | exact but b o q) n0 n1 n3 n4 n5⟩
    · exact HotX.pyNext_range_end_hot hot here no_more fun h2 but => ⟨rfl, J.turned (t' := s.toks) (fun b o nb q => by first | exact but b o nb q | exact but b o q) n0 n1 n3 n4 n5⟩
  same := fun _ _ _ _ _ here q => wpAny_pyIter_rangeiter here q
/-- what is walked, evaluated: its iterator -/
structure PIG (X : Cx) (tg iter : Expr) (wi : TI) : Prop where
  run : ∀ (pins : List (Addr × Obj)) (s : Shared) (σ : St) (H : Hp) (R : It → Hp → Prop), Inv X pins σ H s → wi σ H R →
    wpAny (model X.prog X.w) X.A (eval iter X.env) (fun v s1 => wpAny (model X.prog X.w) X.A (pyIter v) (fun itv s2 => ∃ (it : Addr) (tn : Nat → Heap → Prop) (J : It) (H' : Hp), itv = .ref it ∧ Inv X pins σ H' s2 ∧ Wk X.prog X.w X.K tg J it tn ∧ tn 0 s2.heap ∧ FpOk X pins H' it ∧ R J H') X.xe s1) X.xe s
theorem PIG_imp {X : Cx} {tg e : Expr} {t t' : TI} (h : PIG X tg e t) (k : ∀ σ H Q, t' σ H Q → t σ H Q) : PIG X tg e t' := ⟨fun p s σ H Q I q => h.run p s σ H Q I (k σ H Q q)⟩
section
variable {X : Cx} {tg : Expr}
theorem piG_list {l : Expr} {tl : TE} (hl : PE X l tl) : PIG X tg l (iList X.K tl) where
  run := fun pins s st H R J want => thn (hl.run pins s st H _ J want) fun v s1 ⟨x, H1, J1, rv, a, e, ⟨xs, seq⟩, q⟩ => by
    subst e
    obtain rfl : v = .ref a := rv
    obtain ⟨its, vr, pl, _⟩ := J1.list seq
    exact wpAny_pyIter_list pl.isList ⟨s1.heap.objs.size, _, _, H1, rfl, J1.kept (t' := s1.toks) fun b o q => Heap.get?_push_of_some _ q, wk_list a _, ⟨_, Heap.get?_push_size _ rfl, rfl, rfl⟩, J1.fpOk (Nat.le_refl _) (J1.hok.fresh (Nat.le_refl _)), q⟩
theorem piG_tup {l : Expr} {tl : TE} (hl : PE X l tl) : PIG X tg l (iTup X.K tl) where
  run := fun pins s st H R J want => thn (hl.run pins s st H _ J want) fun v s1 ⟨x, H1, J1, rv, a, e, ⟨xs, seq⟩, q⟩ => by
    subst e
    obtain rfl : v = .ref a := rv
    obtain ⟨its, vr, pl, _⟩ := J1.tuple seq
    have pl2 : s1.heap.IsTuple a its.toArray := pl
    exact wpAny_pyIter_tuple pl2 ⟨s1.heap.objs.size, _, _, H1, rfl, J1.kept (t' := s1.toks) fun b o q => Heap.get?_push_of_some _ q, wk_tuple a _, ⟨_, Heap.get?_push_size _ rfl, rfl, rfl⟩, J1.fpOk (Nat.le_refl _) (J1.hok.fresh (Nat.le_refl _)), q⟩
theorem piG_range1 {a : Expr} {ta : TA} {p pos : Pos} (hg : Gl X "range") (hm : X.mg "range" = none) (ha : PA X [a] ta) (hs : starEach [a] X.env = [(false, eval a X.env)] := by rfl) : PIG X tg (.Call (.Name "range" p) [a] [] pos) (iRng1 ta) where
  run := fun pins s st H R J want => Call_ (ld_blt J hg hm boot_range (PyProof.Rows.callWith_type1 (thn (ha.run pos pins s st H _ J want) fun us s1 ⟨vs, H1, J1, vr, j, e, lo, hi, q⟩ => by
    subst e
    obtain ⟨u, rfl, t, rfl⟩ : ∃ u, us = [u] ∧ ∃ t, u = Value.int j t := by
      cases vr with
      | cons r rr => cases rr; exact ⟨_, rfl, r⟩
    refine call_range_1 (wpAny_pyIter_range (IsRange.new ..) (small_one (by omega) (by omega) lo hi) ?_)
    refine ⟨_, _, Itr 0 (j - 0).toNat, H1, rfl, J1.kept fun b o q => Heap.get?_push_of_some _ (Heap.get?_push_of_some _ q), wk_range _ 0 (j - 0).toNat, ?_, ?_, by simpa using q⟩
    · have e1 : (0 : Int) + ((0 : Nat) : Int) * 1 = 0 := by simp
      have e2 : (((j - 0).toNat : Nat) : Int) - ((0 : Nat) : Int) = Builtin.Range.rangeSize 0 j 1 := by rw [rangeSize_one]; split <;> omega
      show IsRangeIter _ _ ((0 : Int) + ((0 : Nat) : Int) * 1) ((((j - 0).toNat : Nat) : Int) - ((0 : Nat) : Int)) 1
      rw [e1, e2]
      exact Heap.get?_push_size _ rfl
    · exact J1.fpOk (by simp [Heap.size_push]) (J1.hok.fresh (by simp [Heap.size_push]))) hs rfl))
end
section
variable {X : Cx}
/-- a comprehension's reading; the error that is handled stands -/
def tLcG (A : Around) (wi : TI) (g : TG) (tt : TT) (te : TE) (vs : List Nat) : TE := fun σ H Q => wi σ H fun J H1 => CoolH A H1 ∧ ∀ L, H1 L = none → ∃ W : Nat → Nat → Hp → Prop, (∃ m, W 0 m (upd H1 L (.lst []))) ∧ ∀ i m Hi, W i m Hi →
  (J.stop i Hi ∧ Q (.ref L) Hi) ∨ (J.go i Hi ∧ ∃ N : Hp → Prop, (∀ Hn, N Hn → ∃ m', m' < m ∧ W (i + 1) m' Hn) ∧ ∀ x Hx, J.yld i Hi x Hx → g x (wipe σ vs) Hx fun σ2 H2 => wipe σ2 vs = wipe σ vs ∧ tt σ2 H2 fun b Hb =>
    if b = true then te σ2 Hb fun y Hy => ∃ acc, Hy L = some (.lst acc) ∧ acc.length < sizeLine ∧ N (upd Hy L (.lst (acc ++ [y]))) else N Hb)
/-- the walk of a block's context Y -/
theorem lcWalk {Y : Cx} {st : St} {H : Hp} {s : Shared} {tg iter elt : Expr} {ifs : List Expr} {scope : Scope} {pos : Pos} {g : TG} {tt : TT} {te : TE} {vs : List Nat} {J : It} {it L : Addr} {tn : Nat → Heap → Prop} {W : Nat → Nat → Hp → Prop} {QL : Hp → Prop} {R : Result → Shared → Prop} {m : Nat}
    (ex : Y.ex = [it]) (pn : Y.pn = []) (xe : Y.xe = fun _ _ => False) (T : Wk Y.prog Y.w Y.K tg J it tn) (cool : CoolH Y.A Y.H_0) (pg : PG Y tg g) (pt : PTs Y ifs tt) (pe : PE Y elt te)
    (each : ∀ i m Hi, W i m Hi → (J.stop i Hi ∧ QL Hi) ∨ (J.go i Hi ∧ ∃ N : Hp → Prop, (∀ Hn, N Hn → ∃ m', m' < m ∧ W (i + 1) m' Hn) ∧ ∀ x Hx, J.yld i Hi x Hx → g x st Hx fun σ2 H2 => wipe σ2 vs = st ∧ tt σ2 H2 fun b Hb =>
      if b = true then te σ2 Hb fun y Hy => ∃ acc, Hy L = some (.lst acc) ∧ acc.length < sizeLine ∧ N (upd Hy L (.lst (acc ++ [y]))) else N Hb))
    (fin : ∀ s' Hf, Inv Y [] st Hf s' → QL Hf → R (.ok .next) s') (J0 : Inv Y [] st H s) (t0 : tn 0 s.heap) (f0 : H it = none) (w0 : W 0 m H) :
    codeAny (model Y.prog Y.w) Y.A (.compLoop (.ListComp elt [⟨tg, iter, ifs, 0⟩] scope pos) 0 (.ref it) (.ref L) Y.env) R s := by
  have mem : it ∈ Y.ex := by rw [ex]; exact List.mem_cons_self
  have nopin : ∀ p ∈ Y.pn ++ ([] : List (Addr × Obj)), p.1 ≠ it := fun p z => by rw [pn] at z; cases z
  have quiet : ∀ {E : Value → Shared → Prop} {e : Value} {s' : Shared}, Y.xe e s' → E e s' := fun z => by rw [xe] at z; exact z.elim
  refine compLoop_any (fun k s' => ∃ i Hi, Inv Y [] st Hi s' ∧ tn i s'.heap ∧ Hi it = none ∧ W i k Hi) (fun k s1 ⟨i, Hi, J1, t1, f1, w1⟩ => ?_) m ⟨0, H, J0, t0, f0, w0⟩
  have free : FpOk Y [] Hi it := ⟨f1, (J1.ok.exf it mem).1, J1.ok.exfs it mem, .inl mem, fun y c e => (J1.ok.exf it mem).2 y c e, nopin⟩
  rcases each i k Hi w1 with ⟨stop, ql⟩ | ⟨go, N, less, step⟩
  · refine wpAny_mono (T.done Y rfl rfl rfl i [] s1 st Hi (fun _ _ => False) (cool.imp fun b o u e => J1.base.frzs b o u e) J1 free t1 stop) (fun r s2 z => ?_) fun _ _ z => z.elim
    obtain ⟨rfl, J2⟩ := z
    exact fin s2 Hi J2 ql
  · refine wpAny_mono (T.item Y rfl rfl rfl i [] s1 st Hi (fun _ _ => False) J1 free t1 go) (fun r s2 z => ?_) fun _ _ z => z.elim
    obtain ⟨u, rfl, z⟩ := z
    refine wpAny_mono z (fun _ s3 z => ?_) fun _ _ z => z.elim
    obtain ⟨x, Hx, J3, rv, yd, t3, f3⟩ := z
    obtain ⟨io, iat, nocell⟩ := T.there _ _ t3
    have J3p : Inv Y [(it, io)] st Hx s3 := J3.pins_of fun p q => by rw [List.mem_singleton.mp q]; exact ⟨iat, f3, (J3.ok.exf it mem).1, J3.ok.exfs it mem, nocell⟩
    -- a turn's end
    have next : ∀ {s' : Shared} {H' : Hp} {σ' : St}, wipe σ' vs = st → Inv Y [(it, io)] σ' H' s' → N H' → ∃ k', k' < k ∧ ∃ i Hi, Inv Y [] st Hi s' ∧ tn i s'.heap ∧ Hi it = none ∧ W i k' Hi := fun {s' H' σ'} ew Jn nx => by
      obtain ⟨k', lt, wn⟩ := less H' nx
      obtain ⟨q1, q2, _⟩ := Jn.pin (it, io) (List.mem_append_right _ List.mem_cons_self)
      refine ⟨k', lt, i + 1, H', (Jn.pins_of (pins' := []) fun p q => nomatch q).weak (by rw [← ew, wipe_length]) (fun j v e => (wipe_some (by rw [ew]; exact e)).1), T.keep _ _ _ t3 fun o e => ?_, q2, wn⟩
      rw [iat] at e
      cases e
      exact q1
    refine wpAny_mono (pg.run _ s3 st Hx x u _ J3p rv (step x Hx yd)) (fun _ s4 z => ?_) fun _ _ z => quiet z
    obtain ⟨σ4, H4, J4, ew, z⟩ := z
    refine wpAny_mono (pt.run _ s4 σ4 H4 _ J4 z) (fun b s5 z => ?_) fun _ _ z => quiet z
    obtain ⟨H5, J5, z⟩ := z
    cases b with
    | false => simp only [Bool.false_eq_true, if_false] at z ⊢; exact next ew J5 z
    | true =>
      simp only [if_true] at z ⊢
      refine wpAny_mono (pe.run _ s5 σ4 H5 _ J5 z) (fun y s6 z => ?_) fun _ _ z => quiet z
      obtain ⟨yv, H6, J6, ry, acc, hacc, small, nx⟩ := z
      exact app_ok (X := Y) J6 hacc small ry fun s7 J7 => next ew J7 nx
theorem lcG {pins : List (Addr × Obj)} {s : Shared} {σ : St} {H : Hp} {Q : VK} {elt tg iter : Expr} {ifs : List Expr} {scope : Scope} {own : List (Str × Nat)} {pos ipos : Pos} {wi : TI} {g : TG} {tt : TT} {te : TE} {use : Option (Value → Sem Unit)} {Qf : Value → Shared → Prop}
    (nd : X.N.Nodup) (J : Inv X pins σ H s) (hi : PIG X tg iter wi) (ok : BlkOk X.N X.env.scope scope own)
    (hg : ∀ s H C cl fp, PG (BX X scope s H C cl fp) tg g) (ht : ∀ s H C cl fp, PTs (BX X scope s H C cl fp) ifs tt) (he : ∀ s H C cl fp, PE (BX X scope s H C cl fp) elt te) (hs : ∀ x, foldedSetIterable iter X.env x = pure x)
    (want : tLcG X.A wi g tt te (own.map (·.2)) σ H Q) (after : ∀ L C s' m Hf, Inv X pins σ Hf s' → Q (.ref L) Hf → s'.heap.Ns C m → FpOk X pins Hf C → compPost (model X.prog X.w) X.A X.xe use Qf (.ref L) C (.ok .next) s') :
    wpAny (model X.prog X.w) X.A (comprehension (.ListComp elt [⟨tg, iter, ifs, 0⟩] scope pos) scope X.env ipos (newList []) false (eval iter X.env) use) Qf X.xe s := by
  refine wpAny_comprehension_free (use := use) rfl hs (closure_ok fun y mem fr => (ok.free y mem fr).elim (fun k => J.ok.has _ (.inl k)) fun k => J.ok.has _ (.inr k)) ok.kind (fun y mem lo => (ok.uniq y mem).trans (by rw [lo])) (thn (hi.run pins s σ H _ J want) fun xv s1 z => thn z fun itv s2 z => ?_)
  obtain ⟨it, tn, It, H2, rfl, J2, T, t2, f2, cool, z⟩ := z
  have new : H2 s2.heap.objs.size = none := J2.hok.fresh (Nat.le_refl _)
  obtain ⟨W, ⟨m, w0⟩, each⟩ := z s2.heap.objs.size new
  obtain ⟨io, iat, _⟩ := T.there _ _ t2
  have old : it < s2.heap.objs.size := Heap.lt_size iat
  refine wpAny_newObj_type (newEnv_comp ?_) (show 0 ≤ sizeLine by decide)
  -- behind the new list
  have J3 : Inv X pins σ (upd H2 s2.heap.objs.size (.lst [])) { s2 with heap := s2.heap.push { cls := .type "list", data := .seq ([] : List Value).toArray } } :=
    J2.laid (t' := s2.toks) (fun b o e => Heap.get?_push_of_some _ e) (Nat.le_refl _) ⟨Nat.zero_le _, [], 0, .nil, Heap.get?_push_size _ rfl⟩
  have f3 : (upd H2 s2.heap.objs.size (.lst [])) it = none := by rw [upd_ne (Nat.ne_of_lt old)]; exact f2.1
  have cool3 : CoolH X.A (upd H2 s2.heap.objs.size (.lst [])) := cool.imp fun b o u e => by rw [upd_ne (ne_of_none e new)]; exact e
  generalize hs3 : ({ s2 with heap := s2.heap.push { cls := .type "list", data := .seq ([] : List Value).toArray } } : Shared) = s3 at J3
  have t3 : tn 0 s3.heap := T.keep _ _ _ t2 fun o e => by rw [← hs3]; exact Heap.get?_push_of_some _ e
  have ok3 : FpOk X pins (upd H2 s2.heap.objs.size (.lst [])) it ∧ it < s3.heap.objs.size := ⟨⟨f3, f2.2⟩, by rw [← hs3]; simpa [Heap.size_push] using Nat.lt_succ_of_lt old⟩
  have J4 := block_start (fp := [it]) J3 ok nd fun b mem => by rw [List.mem_singleton.mp mem]; exact ok3
  generalize hL : s2.heap.objs.size = L at *
  have hC : s3.heap.objs.size = s3.heap.objs.size := rfl
  have t4 : tn 0 (pushCells (s3.heap.push { cls := .type "dict", data := .dict #[] }) scope.names) := T.keep _ _ _ t3 fun o e => pushCells_keeps _ _ _ _ (Heap.get?_push_of_some _ e)
  subst hs3
  refine codeAny_compStart_list ?_ (T.same X.A 0 _ _ _ t4 ?_) <;>
  · refine lcWalk (Y := X.blk _ (upd H2 L (.lst [])) scope (compEnvC scope (cellsFrom (_ + 1) scope.names (cloFrom X.env.cells scope.names [])) _ X.env) [it]) (vs := own.map (·.2)) rfl rfl rfl T cool3 (hg _ _ _ _ _) (ht _ _ _ _ _) (he _ _ _ _ _) each (fun s' Hf Jf ql => ?_) J4 t4 f3 w0
    obtain ⟨mm, ns, _⟩ := Jf.loc
    exact after L _ s' mm Hf (J3.call' (ch := [it]) Jf.os Jf.base Jf.hok Jf.bare fun b mem => by rw [List.mem_singleton.mp mem]; exact ⟨f2.2.2.2.1, f2.2.1, f2.2.2.2.2.1, f2.2.2.2.2.2⟩) ql ns (J3.fpOk (Nat.le_refl _) Jf.free)
end

section
variable {G : Kx} {X : Cx} {W : WX} {e a b c tg iter elt o : Expr} {es ifs : List Expr} {pos p spos cpos apos pos' : Pos} {ma mb mc : M D} {x f : Str} {σ σ1 : St} {H H1 Fz Fz1 : Hp} {env env1 : En} {E E' : Ends} {hv : List (V × D)}
theorem pe_lcG {scope : Scope} {own : List (Str × Nat)} {wi : TI} {g : TG} {tt : TT} {te : TE} (nd : X.N.Nodup) (hi : PIG X tg iter wi) (ok : BlkOk X.N X.env.scope scope own) (hg : ∀ s H C cl fp, PG (BX X scope s H C cl fp) tg g) (ht : ∀ s H C cl fp, PTs (BX X scope s H C cl fp) ifs tt)
    (he : ∀ s H C cl fp, PE (BX X scope s H C cl fp) elt te) (hs : ∀ x, foldedSetIterable iter X.env x = pure x := by intro _; rfl) : PE X (.ListComp elt [⟨tg, iter, ifs, 0⟩] scope pos) (tLcG X.A wi g tt te (own.map (·.2))) where
  run := fun pins s st H Q J want => by
    rw [eval_ListComp]
    exact lcG nd J hi ok hg ht he hs want fun L C s' m Hf Jf q ns ⟨n0, n1, _, n3, n4, n5⟩ => ⟨m, ns, fun h2 but => ⟨.ref L, Hf, Jf.turned (t' := s'.toks) (fun b o ne e => (but.2 b ne).trans e) n0 n1 n3 n4 n5, rfl, q⟩⟩
theorem RelS.cool {A : Around} (hh : A.handled = G.hot.map Value.ref) (r : RelS G Fz σ H env) : CoolH A H := by
  cases e : G.hot with
  | none => rw [e] at hh; exact .inl hh
  | some x => rw [e] at hh; exact .inr ⟨x, hh, (r.hot x e).mono r.sub⟩
theorem tOf.cool {ω α : Type} {rp : RP ω α} {m : M α} {A : Around} {Q : ω → Hp → Prop} (hh : A.handled = G.hot.map Value.ref) (h : tOf rp G W hv m σ H Q) : tOf rp G W hv m σ H (fun v H' => CoolH A H' ∧ Q v H') := by
  obtain ⟨Fz, env, r, hv', p⟩ := h
  refine ⟨Fz, env, r, hv', ?_⟩
  cases e : m env with
  | ok d e1 => rw [e] at p; exact fun Fz' v H' x' r' q => ⟨r'.cool hh, p Fz' v H' x' r' q⟩
  | err c fs e1 => rw [e] at p; exact p
  | bad => rw [e] at p; exact p
abbrev QIG (G : Kx) (X : Cx) (W : WX) (tg iter : Expr) (m : M (List D)) : Prop := PIG X tg iter (tOf rpI G W [] m)
theorem qiG_list (h : QE G X W e ma) : QIG G X W tg e (ma.bind fun d => match d with | .lst l => M.pure l | _ => bad) :=
  PIG_imp (piG_list h) fun σ H Q q => (tOf.bind_ backI q).mono fun x H1 ⟨d, Fz, env, rl, hh, q⟩ => by
    have rx : Rep G Fz x d := hh _ List.mem_cons_self
    cases rx with
    | lst h z r => exact ⟨_, rfl, ⟨_, SqL.of (rl.sub _ _ h)⟩, q Fz _ H1 (Ext.refl _ _ _ _) rl (gives_list h r)⟩
    | _ => exact q.elim
theorem qiG_tup (hK : X.K = G.K) (h : QE G X W e ma) : QIG G X W tg e (ma.bind fun d => match d with | .tup l => M.pure l | .stp l => M.pure l | _ => bad) :=
  PIG_imp (piG_tup h) fun σ H Q q => (tOf.bind_ backI q).mono fun x H1 ⟨d, Fz, env, rl, hh, q⟩ => by
    have rx : Rep G Fz x d := hh _ List.mem_cons_self
    rw [hK]
    cases rx with
    | tup h z r => exact ⟨_, rfl, ⟨_, sqt_mono rl.sub h⟩, q Fz _ H1 (Ext.refl _ _ _ _) rl (gives_tup h r)⟩
    | stp h _ _ z r => exact ⟨_, rfl, ⟨_, .inl (.inr ⟨_, rl.sub _ _ h⟩)⟩, q Fz _ H1 (Ext.refl _ _ _ _) rl (gives_tup (.inl (.inr ⟨_, h⟩)) r)⟩
    | _ => exact q.elim
theorem PIG_or {t t' u : TI} (h : PIG X tg e t) (h' : PIG X tg e t') (k : ∀ σ H Q, u σ H Q → t σ H Q ∨ t' σ H Q) : PIG X tg e u := ⟨fun p s σ H Q I q => by
  rcases k σ H Q q with q | q
  · exact h.run p s σ H Q I q
  · exact h'.run p s σ H Q I q⟩
theorem qiG_seq (hK : X.K = G.K) (h : QE G X W e ma) : QIG G X W tg e (mIt ma) :=
  PIG_or (qiG_list (G := G) (W := W) h) (qiG_tup (G := G) (W := W) hK h) fun σ H Q ⟨Fz, env, rl, hh, q⟩ => by
    unfold mIt M.bind at q
    cases e1 : ma env with
    | ok d e2 =>
      rw [e1] at q
      cases d with
      | lst l => exact .inl ⟨Fz, env, rl, hh, by unfold M.bind; rw [e1]; exact q⟩
      | tup l => exact .inr ⟨Fz, env, rl, hh, by unfold M.bind; rw [e1]; exact q⟩
      | stp l => exact .inr ⟨Fz, env, rl, hh, by unfold M.bind; rw [e1]; exact q⟩
      | _ => exact q.elim
    | err c fs e2 => rw [e1] at q; exact .inl ⟨Fz, env, rl, hh, by unfold M.bind; rw [e1]; exact q⟩
    | bad => rw [e1] at q; exact q.elim
theorem qiG_range1 {n : M (List D)} (hg : Gl X "range") (hm : X.mg "range" = none) (ha : QA G X W [a] n) (hs : starEach [a] X.env = [(false, eval a X.env)] := by rfl) : QIG G X W tg (.Call (.Name "range" p) [a] [] pos) (n.bind dRng1) :=
  PIG_imp (piG_range1 hg hm ha hs) fun σ H Q q => (tOf.bindL backI q).mono fun xs H1 ⟨ds, el, Fz, env, rl, hh, q⟩ => by
    match xs, ds, el with
    | [], [], _ => exact q.elim
    | [v], [d], _ =>
      have rv : Rep G Fz v d := hh (v, d) List.mem_cons_self
      cases rv with
      | int j =>
        simp only [dRng1] at q
        cases e : c62 j with
        | false => rw [e] at q; exact q.elim
        | true =>
          rw [e] at q
          exact ⟨j, rfl, (c62_ok e).1, (c62_ok e).2, q Fz _ H1 (Ext.refl _ _ _ _) rl gives_range⟩
      | _ => exact q.elim
    | _ :: _ :: _, d :: _ :: _, _ => cases d <;> exact q.elim
theorem lc_postG (hK : X.K = G.K) {A : Around} (hh : A.handled = G.hot.map Value.ref) {vs : List Nat} {t : Tg} {mi : M (List D)} {k : M Bool} {me : M D} (ht : t.ins vs) {Q : VK} (h : tOf rpS G W [] (mLc vs t mi k me) σ H Q) : tLcG A (tOf rpI G W [] mi) (t.g X.K) (tOf rpB G W0 [] k) (tOf rpD G W0 [] me) vs σ H Q :=
  tOf.cool hh (lc_post hK ht h)
theorem qo_lcG (hK : X.K = G.K) (hh : X.A.handled = G.hot.map Value.ref) {scope : Scope} {own : List (Str × Nat)} {t : Tg} {mi : M (List D)} {k : M Bool} {me : M D} (ht : t.ins (own.map (·.2))) (hN : X.N.Nodup) (hi : QIG G X W tg iter mi) (ok : BlkOk X.N X.env.scope scope own)
    (hg : ∀ s H C cl fp, QG (BX X scope s H C cl fp) tg t) (hts : ∀ s H C cl fp, QTs G (BX X scope s H C cl fp) W0 ifs k) (he : ∀ s H C cl fp, QE G (BX X scope s H C cl fp) W0 elt me) (hs : ∀ x, foldedSetIterable iter X.env x = pure x := by intro _; rfl) :
    QO G X W (.ListComp elt [⟨tg, iter, ifs, 0⟩] scope pos) (mLc (own.map (·.2)) t mi k me) :=
  PE_imp (pe_lcG hN hi ok hg hts he hs) fun σ H Q h => lc_postG hK hh ht h
/-- name = [..] in a line, the name of this def -/
theorem qs_setLcG (hK : X.K = G.K) (hh : X.A.handled = G.hot.map Value.ref) (i : Nat) {y : Str} {py : Pos} {scope : Scope} {own : List (Str × Nat)} {t : Tg} {mi : M (List D)} {k : M Bool} {me : M D} (ht : t.ins (own.map (·.2))) (hN : X.N.Nodup) (hy : X.N[i]? = some y) (hyl : X.env.scope.names.lookup y = some .local)
    (hsw : swapsWith (.ListComp elt [⟨tg, iter, ifs, 0⟩] scope pos) (some (.Name y py)) spos.line X.env = pure true) (hi : QIG G X W tg iter mi) (ok : BlkOk X.N X.env.scope scope own)
    (hg : ∀ s H C cl fp, QG (BX X scope s H C cl fp) tg t) (hts : ∀ s H C cl fp, QTs G (BX X scope s H C cl fp) W0 ifs k) (he : ∀ s H C cl fp, QE G (BX X scope s H C cl fp) W0 elt me) (hs : ∀ x, foldedSetIterable iter X.env x = pure x := by intro _; rfl) :
    QS G X W (.Assign [.Name y py] (.ListComp elt [⟨tg, iter, ifs, 0⟩] scope pos) spos) (mSet i (mLc (own.map (·.2)) t mi k me)) := by
  refine ⟨fun pins s st H E J ⟨Fz, env, r, p⟩ => ?_⟩
  have want := lc_postG (A := X.A) (W := W) (G := G) hK hh ht ⟨Fz, env, r, (fun _ z => nomatch z), post_set (i := i) p⟩
  rw [exec_Assign_Name_used _ _ _ _ hsw]
  refine wpAny_bind (wpAny_standAt (wpAny_bind (wpAny_bind (thn (lcG (use := some (assign (.Name y py) X.env)) (ipos := firstIterPos [⟨tg, iter, ifs, 0⟩] pos) (Qf := fun _ s2 => SP X pins E .next s2) hN J hi ok hg hts he hs want fun L C s' m Hf Jf q ns free => ?_) fun _ s2 z => wpAny_pure (wpAny_pure z)))))
  show wpAny _ _ (assign (.Name y py) X.env (.ref L)) _ _ _
  refine wpAny_assign_Name (store_ok2 (v := V.ref L) Jf hN hy (.inl hyl) rfl (fun s3 J3 ⟨t0, but, cel⟩ => ?_) (.inr hyl))
  obtain ⟨n0, n1, _, n3, n4, n5⟩ := free
  have far : C ≠ t0 := cel.elim (fun z => by rw [z]; exact n1) fun z => Ne.symm (n4 y t0 z)
  have ns3 : s3.heap.Ns C m := ns.at fun o e => (but.2 C far).trans e
  exact ⟨m, ns3, fun h4 but4 => ⟨_, Hf, J3.turned (t' := s3.toks) (fun b o ne e => (but4.2 b ne).trans e) n0 n1 n3 n4 n5, q⟩⟩

/-! ### all, any -/
/-- a list of bools is walked while an error is handled -/
theorem walks_hot {prog : Program} {w : World} {A : Around} {x1 it l : Addr} {ob : Obj} {fv : Array Value} (hh : A.handled = some (.ref x1)) (dat : ob.data = .fields fv) (ctx : fv[2]? = some .none) (far : l ≠ it) (far1 : x1 ≠ it) (vals : Array Value) :
    Walks prog w A it [it, l, x1] [it] vals.size (fun i v => vals[i]? = some v) (fun i h => h.IsListIter it l i ∧ h.IsList l vals ∧ h.get? x1 = some ob) where
  sub := fun b z => List.mem_cons.mpr (.inl (List.mem_singleton.mp z))
  frame := fun i h h' ⟨q1, q2, q3⟩ k => ⟨q1.at (k it (by simp)), q2.at (k l (by simp)), k x1 (by simp) _ q3⟩
  item := fun i s Q E lt ⟨q1, q2, q3⟩ go => wpAny_pyNext_list_item q1 q2 (x := vals[i]) (Array.getElem?_eq_getElem lt) fun h2 next but =>
    go _ h2 s.toks (Array.getElem?_eq_getElem lt) ⟨next, q2.extBut but.extBut far, but.extBut x1 _ far1 q3⟩ fun b o out e => but.extBut b o (fun z => out (by simp [z])) e
  done := fun s Q E ⟨q1, q2, q3⟩ go => list_end_hot ⟨hh, ob, fv, q3, dat, ctx⟩ far1 q1 q2 (by simp) fun h2 but => go h2 s.toks fun b o out e => but b o (fun z => out (by simp [z])) e
  self := fun _ _ _ _ ⟨q1, _⟩ q => wpAny_pyIter_listiter q1 q
theorem cr_allG {X : Cx} : CallR X (.builtin "all") (fun xs H Q => CoolH X.A H ∧ rAll X.K xs H Q) := fun pins s st H vs us Q J vr ⟨cool, l, bs, ev, seq, q⟩ => by
  subst ev
  obtain ⟨its, ri, pl, _⟩ := J.list seq
  have eb := ri.bls
  rw [Vals.ref1 vr]
  -- behind the walk: the state as it was, the answer
  have back : ∀ {o : Obj} (h2 : Heap) (tk : Nat), (∀ b ob, b ∉ [s.heap.objs.size] → (s.heap.push o).get? b = some ob → h2.get? b = some ob) → EP X pins st Q (.bool ((List.range its.toArray.size).all fun i => bs.getD i false)) { s with heap := h2, toks := tk } := fun {o} h2 tk k => by
    refine ⟨.bl _, H, J.kept fun b ob e => k b ob (fun z => ?_) (Heap.get?_push_of_some _ e), ?_, q⟩
    · exact absurd ((List.mem_singleton.mp z) ▸ Heap.lt_size e) (Nat.lt_irrefl _)
    · show Value.bool _ = Value.bool _
      rw [← L2.all_range, eb, List.size_toArray, List.length_map]
  refine call_all_walk (iter_any pl.isList fun s1 es here far => ?_)
  subst es
  rcases cool.now J with no | ⟨x1, ⟨hh, ob, fv, at_, dat, ctx⟩, _⟩
  · exact ⟨_, _, _, _, _, _, _, rfl, Walks.list (A := X.A.in1) no _ l far its.toArray, here, truth_bools eb, back⟩
  · exact ⟨_, _, _, _, _, _, _, rfl, walks_hot (A := X.A.in1) hh dat ctx far (Nat.ne_of_lt (Heap.lt_size at_)) its.toArray, ⟨here.1, here.2, Heap.get?_push_of_some _ at_⟩, truth_bools eb, back⟩
theorem qe_allG (hK : X.K = G.K) (hh : X.A.handled = G.hot.map Value.ref) {n : M (List D)} (hg : Gl X "all") (hm : X.mg "all" = none) (ha : QA G X W [e] n) (he : starEach [e] X.env = (false, eval e X.env) :: starEach [] X.env := by rfl) : QE G X W (.Call (.Name "all" p) [e] [] pos) (n.bind dAll) :=
  q_callB backD cr_allG (fun xs ds σ H Q l q => ⟨by obtain ⟨Fz, env, r, _⟩ := q; exact r.cool hh, s_all hK xs ds σ H Q l q⟩) hg hm (by decide +kernel) ha (he := he)
theorem cr_anyG {X : Cx} : CallR X (.builtin "any") (fun xs H Q => CoolH X.A H ∧ rAny X.K xs H Q) := fun pins s st H vs us Q J vr ⟨cool, l, bs, ev, seq, q⟩ => by
  subst ev
  obtain ⟨its, ri, pl, _⟩ := J.list seq
  have eb := ri.bls
  rw [Vals.ref1 vr]
  -- behind the walk: the state as it was, the answer
  have back : ∀ {o : Obj} (h2 : Heap) (tk : Nat), (∀ b ob, b ∉ [s.heap.objs.size] → (s.heap.push o).get? b = some ob → h2.get? b = some ob) → EP X pins st Q (.bool ((List.range its.toArray.size).any fun i => bs.getD i false)) { s with heap := h2, toks := tk } := fun {o} h2 tk k => by
    refine ⟨.bl _, H, J.kept fun b ob e => k b ob (fun z => ?_) (Heap.get?_push_of_some _ e), ?_, q⟩
    · exact absurd ((List.mem_singleton.mp z) ▸ Heap.lt_size e) (Nat.lt_irrefl _)
    · show Value.bool _ = Value.bool _
      rw [← L2.any_range, eb, List.size_toArray, List.length_map]
  refine call_any_walk (iter_any pl.isList fun s1 es here far => ?_)
  subst es
  rcases cool.now J with no | ⟨x1, ⟨hh, ob, fv, at_, dat, ctx⟩, _⟩
  · exact ⟨_, _, _, _, _, _, _, rfl, Walks.list (A := X.A.in1) no _ l far its.toArray, here, truth_bools eb, back⟩
  · exact ⟨_, _, _, _, _, _, _, rfl, walks_hot (A := X.A.in1) hh dat ctx far (Nat.ne_of_lt (Heap.lt_size at_)) its.toArray, ⟨here.1, here.2, Heap.get?_push_of_some _ at_⟩, truth_bools eb, back⟩
theorem qe_anyG (hK : X.K = G.K) (hh : X.A.handled = G.hot.map Value.ref) {n : M (List D)} (hg : Gl X "any") (hm : X.mg "any" = none) (ha : QA G X W [e] n) (he : starEach [e] X.env = (false, eval e X.env) :: starEach [] X.env := by rfl) : QE G X W (.Call (.Name "any" p) [e] [] pos) (n.bind dAny) :=
  q_callB backD cr_anyG (fun xs ds σ H Q l q => ⟨by obtain ⟨Fz, env, r, _⟩ := q; exact r.cool hh, s_any hK xs ds σ H Q l q⟩) hg hm (by decide +kernel) ha (he := he)
end
theorem roomMark {k : Nat} {A : Around} (r : Room k A) {h : Option Value} : L2H.RoomH k (A.mark h) := ⟨r.dp, r.un⟩
theorem hu65G {k : Nat} {A : Around} (r : L2H.RoomH k A) : A.units + 65 < cLine := by have := r.un; omega
theorem hu64G {k : Nat} {A : Around} (r : L2H.RoomH k A) : A.units + 64 < cLine := by have := r.un; omega
end Eng

end
section
set_option Elab.async false
set_option linter.all false
set_option autoImplicit false
set_option maxRecDepth 100000
set_option maxHeartbeats 2000000
namespace Eng
open PySem PySem.Spec L2
open PyProof.Rows hiding St
section
variable {G : Kx} {X : Cx} {W : WX} {e a b c tg iter elt o : Expr} {es ifs : List Expr} {kws : List Keyword} {pos p spos cpos apos pos' : Pos} {ma mb mc : M D} {x f : Str} {σ σ1 : St} {H H1 Fz Fz1 : Hp} {env env1 : En} {E E' : Ends} {hv : List (V × D)}
variable {k j n1 : Nat} {fa C : Addr} {fd : FuncData} {ps ks names : List Str} {g : List Value → List Value → List Value} {gV : List V → List V → List V} {F : M Slot} {n m : M (List D)}
/-! ### f(k = v, ..), the wish of errors may look at the slots -/
theorem run_kwS {CX : CXT} {sp : Sp} {EW : St → XK} {pins : List (Addr × Obj)} {s : Shared} {Q : VK} {ws : List Value} {zs : List V} (Fo : FnOk X.prog X.w X.K X.mg X.base CX k fa fd ps sp) (room : Room k X.A) (bi : KBn X.K fd ps 0 ks g gV) (px : PassesAt CX X σ (EW σ))
    (J : Inv X pins σ H s) (vr : Vals zs ws) (ln : zs.length = ks.length) (want : sp (gV [] zs) H Q (EW σ)) : wpAny (model X.prog X.w) X.A (call (.ref fa) [] (ks.zip ws)) (EP X pins σ Q) X.xe s := by
  refine wpAny_call (codeAny_mono (Fo.run X.A X.stack s H ⟨[], ks.zip ws⟩ (g [] ws) (gV [] zs) Q (EW σ) room J.env0 (bi.to s [] ws J.kIn rfl (vr.length.symm.trans ln)) (bi.rel .nil vr) want) fun res s2 z => ?_)
  match res, z with
  | .error err, z => exact px pins H s err s2 J z
  | .ok (.ret u), z => exact J.after z
  | .ok .next, z => exact z.elim
  | .ok .brk, z => exact z.elim
  | .ok .cont, z => exact z.elim
theorem qo_callK0S {np kn : Nat} {bd : List D → List D} (hx : ∀ σ, PassesAt (L2N.CX X.prog X.w) X σ (WE W σ)) (Fo : FnOk X.prog X.w X.K X.mg X.base (L2N.CX X.prog X.w) k fa fd ps (spF G np F)) (hr : Room k X.A) (hg : Gl X x) (hm : X.mg x = some (.ref fa)) (hk : PySem.W.keepIn X.K (.ref fa) = true) (hb : KBn X.K fd ps 0 ks g gV)
    (hbd : ∀ Fz zs es, Reps G Fz zs es → Reps G Fz (gV [] zs) (bd es)) (hnp : ∀ es : List D, es.length = kn → (bd es).length = np) (hkw : QK G X W kws m) (hkn : ks.length = kn)
    (hall : (backToKw pos (keywordEach kws X.env)).all (·.1.isSome) = true := by rfl) (hks : (backToKw pos (keywordEach kws X.env)).filterMap (·.1) = ks := by rfl) (hdb : (x == ("__debug__" : Str)) = false := by decide)
    (hpl : ((backTo pos (starEach [] X.env)).any (·.1) || (backToKw pos (keywordEach kws X.env)).any (·.1.isNone)) = false := by rfl) :
    QO G X W (.Call (.Name x p) [] kws pos) (mCallK0 kn F bd m) where
  run := fun pins s st H Q J want => by
    refine wpAny_Call_Name_kw (ld_glob J hg hm (PySem.W.callWith_KW0 (h₀ := X.base) J.ok.mod.kin hk hall ?_ hpl) hdb)
    refine thn (hkw.run pos pins s st H _ J (tOf.bindL backS want)) fun ws s2 ⟨zs, H2, J2, vr, es, el, Fz, env, rl, hh, p⟩ => ⟨J2.kIn, ?_⟩
    have r2 : Reps G Fz zs es := zip_hv el fun q hq => hh q (List.mem_append_left _ hq)
    by_cases hl : es.length = kn
    · rw [if_pos hl] at p
      rw [hks]
      exact run_kwS (EW := WE W) Fo hr hb (hx st) J2 vr (el.trans (hl.trans hkn.symm)) (call_spV (hnp es hl) rl (hbd Fz zs es r2) p)
    · rw [if_neg hl] at p; exact p.elim
theorem bd_id : ∀ (Fz : Hp) (zs : List V) (es : List D), Reps G Fz zs es → Reps G Fz ((fun (a b : List V) => a ++ b) [] zs) ((fun a => [] ++ a) es) := fun _ _ _ h => h
/-- arguments by name in another sequence -/
def permL {α : Type} (pm : List Nat) (l : List α) : List α := pm.filterMap fun i => l[i]?
theorem permL_reps {zs : List V} {es : List D} (h : Reps G Fz zs es) : ∀ pm : List Nat, Reps G Fz (permL pm zs) (permL pm es)
  | [] => .nil
  | i :: pm => by
    have ih := permL_reps h pm
    unfold permL at *
    cases e : zs[i]? with
    | none =>
      have e2 : es[i]? = none := by rw [List.getElem?_eq_none_iff] at e ⊢; rw [← h.length]; exact e
      rw [List.filterMap_cons_none e, List.filterMap_cons_none e2]
      exact ih
    | some v =>
      obtain ⟨d, e2, r⟩ := h.get e
      rw [List.filterMap_cons_some e, List.filterMap_cons_some e2]
      exact .cons r ih
theorem permL_vals {zs : List V} {us : List Value} (h : Vals zs us) : ∀ pm : List Nat, Vals (permL pm zs) (permL pm us)
  | [] => .nil
  | i :: pm => by
    have ih := permL_vals h pm
    unfold permL at *
    cases e : zs[i]? with
    | none =>
      have e2 : us[i]? = none := by rw [List.getElem?_eq_none_iff] at e ⊢; rw [← h.length]; exact e
      rw [List.filterMap_cons_none e, List.filterMap_cons_none e2]
      exact ih
    | some v =>
      obtain ⟨u, e2, r⟩ := h.get e
      rw [List.filterMap_cons_some e, List.filterMap_cons_some e2]
      exact .cons r ih
theorem bd_perm {pm : List Nat} : ∀ (Fz : Hp) (zs : List V) (es : List D), Reps G Fz zs es → Reps G Fz ((fun (_ b : List V) => permL pm b) [] zs) (permL pm es) := fun _ _ _ h => permL_reps h pm
end
end Eng

end
section
set_option Elab.async false
set_option linter.all false
set_option autoImplicit false
set_option maxRecDepth 100000
set_option maxHeartbeats 2000000
namespace Eng
open PySem PySem.Spec L2
open PyProof.Rows hiding St
section
variable {G : Kx} {X : Cx} {W : WX} {e : Expr} {es : List Expr} {pos p : Pos} {x : Str} {C : Addr} {k : Nat} {fa : Addr} {fd : FuncData} {ps names : List Str} {F : M Slot} {n : M (List D)}
/-! ### C(e, ..) where parameters by name are left out: their defaults stand in -/
def mMakeD (n1 c : Nat) (names : List Str) (F : M Slot) (dds : List D) (m : M (List D)) : M D := m.bind fun ds => if ds.length = n1 then mNew c names F (ds ++ dds) else bad
theorem qe_makeD {dvs : List V} {dds : List D} {cc np n1 : Nat} (hw : WFlat W) (hx : ∀ σ, PassesAt (L2N.CX X.prog X.w) X σ (WE W σ)) (hc : G.cs[cc]? = some (C, names)) (Mk' : Mk X.K C fa) (Fo : FnOk X.prog X.w X.K X.mg X.base (L2N.CX X.prog X.w) k fa fd ps (spF G np F)) (hr : Room (k + 1) X.A) (hg : Gl X x) (hm : X.mg x = some (.ref C))
    (hb : ∃ ds, Vals dvs ds ∧ Binds X.K fd ps ds) (hdv : ∀ Fz, Reps G Fz dvs dds) (hnp : n1 + dds.length + 1 = np) (ha : QA G X W (e :: es) n) (hdb : (x == ("__debug__" : Str)) = false := by decide)
    (he : starEach (e :: es) X.env = (false, eval e X.env) :: starEach es X.env := by rfl) (hpl : (backTo pos (starEach es X.env)).any (·.1) = false := by rfl) :
    QE G X W (.Call (.Name x p) (e :: es) [] pos) (mMakeD n1 cc names F dds n) :=
  let ⟨_, hv, hb⟩ := hb
  PE_imp (pe_make Mk' Fo hr hg hm hb hv (passes_flat hw hx) ha hdb he hpl) fun σ H Q q => (tOf.bindL backD q).mono fun xs H1 ⟨ds, el, Fz, env, rl, hh, p⟩ => by
    have r1 : Reps G Fz xs ds := zip_hv el fun q hq => hh q (List.mem_append_left _ hq)
    by_cases hl : ds.length = n1
    · rw [if_pos hl] at p
      intro x dx hx hdx ne
      exact spF_mono (new_sp hc (by rw [List.length_append, hl]; exact hnp) rl (r1.append (hdv Fz)) hx hdx ne p) fun c y H h => hw _ _ _ _ _ h
    · rw [if_neg hl] at p; exact p.elim
end
end Eng

end
section
set_option Elab.async false
set_option linter.all false
set_option autoImplicit false
set_option maxRecDepth 100000
set_option maxHeartbeats 2000000
namespace Eng
open PySem PySem.Spec L2
open PyProof.Rows hiding St
/-! ### enumerate of a tuple -/
set_option maxHeartbeats 4000000 in
theorem enum_made {v : Value} {src : Obj} {St : Heap → Prop} (B : Begins v src St) :
    Meets (Builtin.«enumerate.__new__» ⟨[.type "enumerate", v], []⟩) fun _ R z => St z.heap ∧
      R (.ok (.ret (.ref (z.heap.push src).objs.size))) { z with heap := (z.heap.push src).push { cls := .type "enumerate", data := .fields #[.none, .bool false, .ref z.heap.objs.size, rawInt 0, .none, .none] } } :=
  .of_wp fun P w A R z ⟨st, fin⟩ => by
    obtain ⟨h0, gs, dr, tk, os⟩ := z
    have hsub := sub_enumerate
    have it : ∀ {A' : Around} {E : Value → Shared → Prop} {Q : Value → Shared → Prop}, Q (.ref h0.objs.size) ⟨h0.push src, gs, dr, tk, os⟩ → wpAny (model P w) A' (pyIter v) Q E ⟨h0, gs, dr, tk, os⟩ := fun q => B.iter P w _ _ ⟨h0, gs, dr, tk, os⟩ _ st q
    wp_walk using it
    refine wpAny_stack_any fun _ => wpAny_pure ?_
    split
    case h_2 => wp_walk using it; exact ⟨_, rfl, fin⟩
    rename_i c _ _ _ _ _
    cases (c == Value.type "enumerate") <;> (wp_walk using it; exact ⟨_, rfl, fin⟩)
theorem call_enum {P : Program} {w : World} {A : Around} {E : Value → Shared → Prop} {z : Shared} {v : Value} {src : Obj} {St : Heap → Prop} {Q : Value → Shared → Prop} (B : Begins v src St) (st : St z.heap)
    (fin : ∀ h1, IsEnum h1 (z.heap.objs.size + 1) z.heap.objs.size 0 .none → h1.get? z.heap.objs.size = some src → (∀ b o, z.heap.get? b = some o → h1.get? b = some o) → Q (.ref (z.heap.objs.size + 1)) { z with heap := h1 }) :
    wpAny (model P w) A (call (.type "enumerate") [v]) Q E z := by
  have sz : (z.heap.push src).objs.size = z.heap.objs.size + 1 := Heap.size_push ..
  have e1 : IsEnum ((z.heap.push src).push { cls := .type "enumerate", data := .fields #[.none, .bool false, .ref z.heap.objs.size, rawInt 0, .none, .none] }) (z.heap.objs.size + 1) z.heap.objs.size 0 .none := by
    have q := Heap.get?_push_size (z.heap.push src) (o := { cls := .type "enumerate", data := .fields #[.none, .bool false, .ref z.heap.objs.size, rawInt 0, .none, .none] }) rfl
    rwa [sz] at q
  refine callType_new F.called_enumerate (by decide) (F.typeCall_enumerate_1 _) (F.newCall_enumerate_1 _) (fun obj => F.args_object_init_2 obj _) F.entry_enumerate_new (enum_made B) ⟨st, ?_⟩
  simp only [sz]
  exact ⟨⟨_, e1, rfl⟩, fin _ e1 (Heap.get?_push_of_some _ (Heap.get?_push_size _ B.free)) fun b o q => Heap.get?_push_of_some _ (Heap.get?_push_of_some _ q)⟩
/-- the tuple at a at each turn, each item in a new pair -/
def IteT (K : PySem.W.Frag) (a : Addr) : It where
  go := fun i H => ∃ (ys : List V) (y : V), SqT K H a ys ∧ ys[i]? = some y
  yld := fun i H v H' => ∃ T y, v = .ref T ∧ H T = none ∧ H' = upd H T (.tup [.int (i : Nat), y]) ∧ ∀ ys, SqT K H a ys → ys[i]? = some y
  stop := fun i H => ∃ ys : List V, SqT K H a ys ∧ ys.length = i
def tnT (a e it : Addr) (i : Nat) (h : Heap) : Prop := (∃ old, IsEnum h e it ((i : Nat) : Int) old) ∧ h.IsTupleIter it a i ∧ e ≠ it
theorem tnT_ne {h : Heap} {a e it : Addr} {i : Nat} {items : Array Value} (st : tnT a e it i h) (ht : h.IsTuple a items) : a ≠ it ∧ a ≠ e := by
  obtain ⟨⟨old, he⟩, ⟨o2, h2, c2, _⟩, _⟩ := st
  obtain ⟨o1, h1, c1, _⟩ := ht
  refine ⟨fun z => ?_, fun z => ?_⟩
  · subst z
    rw [h1] at h2; cases h2
    rw [c1] at c2
    exact absurd c2 (by decide)
  · subst z
    have q := h1.symm.trans he
    cases q
    exact absurd (show Value.type "enumerate" = Value.type "tuple" from c1) (by decide)
theorem turn_enumT {P : Program} {w : World} {K : PySem.W.Frag} {elts : List Expr} {kk : Nat} {tpos : Pos} (a e it : Addr) : Turn P w K (.Tuple elts kk tpos) (IteT K a) [e, it] e (tnT a e it) where
  mem := List.mem_cons_self
  obj := fun i h ⟨⟨old, he⟩, ⟨o, ho, hc, hd⟩, _⟩ b hb => by
    rcases List.mem_cons.mp hb with rfl | hb
    · exact ⟨_, he, fun v q => nomatch q⟩
    · rw [List.mem_singleton.mp hb]
      exact ⟨o, ho, fun v q => by rw [hd] at q; cases q⟩
  keep := fun i h h1 ⟨⟨old, he⟩, hit, ne⟩ k => ⟨⟨old, k e List.mem_cons_self _ he⟩, hit.at fun o q => k it (List.mem_cons_of_mem _ List.mem_cons_self) o q, ne⟩
  item := fun X hP hw hK hc i pins s σ H E J fp st ⟨ys, y, sq, hy⟩ => by
    subst hP hw hK
    obtain ⟨its, rv, pl, _⟩ := J.tuple sq
    have tp : s.heap.IsTuple a its.toArray := pl
    obtain ⟨na, ne2⟩ := tnT_ne st tp
    obtain ⟨⟨old, he⟩, hit, hne⟩ := st
    obtain ⟨u, hu, ru⟩ := rv.get hy
    have li : i < its.length := (List.getElem?_eq_some_iff.mp hu).1
    have le : e < s.heap.objs.size := Heap.lt_size he
    have lit : it < s.heap.objs.size := let ⟨_, q, _⟩ := hit; Heap.lt_size q
    have hh : X.A.in1.handled = none := J.ok.hd hc
    have out : ∀ b, b ∈ [e, it] → b < s.heap.objs.size := fun b hb => by
      rcases List.mem_cons.mp hb with rfl | hb
      · exact le
      · rw [List.mem_singleton.mp hb]; exact lit
    refine wpAny_pyNext_enum_itemD (Draws.tuple hh it a na its.toArray) he ⟨hit, tp⟩ (by simpa using li) hne (fun z => by
      rcases List.mem_cons.mp z with z | z
      · exact hne z
      · exact ne2 (List.mem_singleton.mp z).symm) fun x h1 tk hx ho st1 hT _ hk => ?_
    have ex : x = u := by
      have q : its[i]? = some x := by simpa using hx
      rw [hu] at q; exact (Option.some.inj q).symm
    subst ex
    refine ⟨_, rfl, wpAny_letOwnedTupleGo_enum (s := { s with heap := h1, toks := tk + 1 }) ho fun h2 he2 sb => ?_⟩
    have hT2 : h2.get? s.heap.objs.size = some { cls := .type "tuple", data := .seq #[.int i tk, x] } := (sb.2 _ (Nat.ne_of_gt le)).trans hT
    have nw : ObjOk X.prog X.w (upd H s.heap.objs.size (.tup [.int (i : Nat), y])) h2 s.heap.objs.size (.tup [.int (i : Nat), y]) :=
      ⟨by show 2 ≤ sizeLine; decide, [.int i tk, x], .cons ⟨_, rfl⟩ (.cons ru .nil), ⟨_, hT2, rfl, _, rfl⟩⟩
    have J1 : Inv X pins σ (upd H s.heap.objs.size (.tup [.int (i : Nat), y])) { s with heap := h2, toks := tk + 1 } :=
      J.turnedNew (ch := [e, it]) (fun b ob hb q => (sb.2 b fun z => hb (by rw [z]; exact List.mem_cons_self)).trans (hk b ob (fun z => hb (by rw [z]; exact List.mem_cons_self)) (fun z => hb (by rw [z]; exact List.mem_cons_of_mem _ List.mem_cons_self)) q)) fp (Nat.le_refl _) nw
    have nx : ((i + 1 : Nat) : Int) = (i : Int) + 1 := by omega
    exact ⟨.ref s.heap.objs.size, _, J1, rfl, ⟨_, y, rfl, J.hok.fresh (Nat.le_refl _), rfl, fun zs hz => by rw [J.tuple_inj hz sq]; exact hy⟩, ⟨⟨x, by rw [nx]; exact he2⟩, st1.1.at fun o q => (sb.2 it (Ne.symm hne)).trans q, hne⟩,
      fun b hb => by rw [upd_ne (Nat.ne_of_lt (out b hb))]; exact (fp b hb).1⟩
  done := fun X hP hw hK hc i pins s σ H E J fp st ⟨ys, sq, hy⟩ => by
    subst hP hw hK
    obtain ⟨its, rv, pl, _⟩ := J.tuple sq
    have tp : s.heap.IsTuple a its.toArray := pl
    obtain ⟨na, ne2⟩ := tnT_ne st tp
    obtain ⟨⟨old, he⟩, hit, hne⟩ := st
    have hh : X.A.in1.handled = none := J.ok.hd hc
    obtain ⟨f0, f1, f2, f3, f4, f5⟩ := fp it (List.mem_cons_of_mem _ List.mem_cons_self)
    have n1 : its.toArray.size = i := by
      rw [List.size_toArray, ← rv.length]; exact hy
    refine wpAny_pyNext_enum_endD (Draws.tuple hh it a na its.toArray) he (by rw [n1]; exact ⟨hit, tp⟩) fun h1 eb => ⟨rfl, J.turned (t' := s.toks) (fun b o hb q => eb b o hb q) f0 f1 f3 f4 f5⟩
  self := fun A i s Q E ⟨⟨_, he⟩, _⟩ h => wpAny_pyIter_enum he h
/-- enumerate of a list or a tuple -/
def iEnum2 (K : PySem.W.Frag) (ta : TA) : TI := fun σ H R => ta σ H fun vs H1 => ∃ a, vs = [.ref a] ∧ ((∃ xs, SqL K H1 a xs ∧ R (Ite K a) H1) ∨ ∃ xs, SqT K H1 a xs ∧ R (IteT K a) H1)
theorem pi_enum2 {X : Cx} {e : Expr} {ta : TA} {p pos tpos : Pos} {elts : List Expr} {kk : Nat} (hg : Gl X "enumerate") (hm : X.mg "enumerate" = none) (ha : PA X [e] ta) (hs : starEach [e] X.env = [(false, eval e X.env)] := by rfl) :
    PI X (.Tuple elts kk tpos) (.Call (.Name "enumerate" p) [e] [] pos) (iEnum2 X.K ta) where
  run := fun pins s st H R J want => by
    refine Call_ (ld_blt J hg hm boot_enumerate (PyProof.Rows.callWith_type1 (thn (ha.run pos pins s st H _ J want) fun us s1 ⟨vs, Hb, J1, vr, a, ev, q⟩ => ?_) hs rfl))
    subst ev
    cases vr with
    | cons r0 rr =>
      cases rr
      cases r0
      have fresh : ∀ b, b ∈ [s1.heap.objs.size + 1, s1.heap.objs.size] → FpOk X pins Hb b := fun b hb => by
        have le : s1.heap.objs.size ≤ b := by
          rcases List.mem_cons.mp hb with rfl | hb
          · exact Nat.le_add_right _ _
          · rw [List.mem_singleton.mp hb]; exact Nat.le_refl _
        exact J1.fpOk le (J1.hok.fresh le)
      rcases q with ⟨xs, sq, q⟩ | ⟨xs, sq, q⟩
      · obtain ⟨its, rv, pl, _⟩ := J1.list sq
        refine call_enumerate_list pl.isList fun h1 he hit _ hk => wpAny_pyIter_enum he ?_
        exact ⟨_, _, _, _, Hb, rfl, J1.kept (t' := s1.toks) hk, turn_enum a (s1.heap.objs.size + 1) s1.heap.objs.size, ⟨⟨.none, he⟩, hit, Nat.succ_ne_self _⟩, fresh, q⟩
      · obtain ⟨its, rv, pl, _⟩ := J1.tuple sq
        refine call_enum (begins_tuple a its.toArray) (show s1.heap.IsTuple a its.toArray from pl) fun h1 he hit hk => wpAny_pyIter_enum he ?_
        exact ⟨_, _, _, _, Hb, rfl, J1.kept (t' := s1.toks) hk, turn_enumT a (s1.heap.objs.size + 1) s1.heap.objs.size, ⟨⟨.none, he⟩, ⟨_, hit, rfl, rfl⟩, Nat.succ_ne_self _⟩, fresh, q⟩
section
variable {G : Kx} {X : Cx} {W : WX} {a : Expr} {p pos tpos : Pos} {Fz : Hp}
theorem gives_enumT {l : Addr} {vs : List V} {ds : List D} (h : SqT G.K Fz l vs) (r : Reps G Fz vs ds) : Gives G Fz (IteT G.K l) (enumD ds) where
  go := fun i H s hi => by
    have hv : i < vs.length := by rw [r.length]; unfold enumD at hi; rwa [List.length_mapIdx] at hi
    exact ⟨vs, vs[i], sqt_mono s h, List.getElem?_eq_getElem hv⟩
  stop := fun i H s hi => ⟨vs, sqt_mono s h, by unfold enumD at hi; rw [List.length_mapIdx] at hi; rw [r.length, hi]⟩
  yld := fun i H x H' d s y e => by
    unfold enumD at e
    rw [List.getElem?_mapIdx] at e
    cases ed : ds[i]? with
    | none => rw [ed] at e; cases e
    | some d0 =>
      rw [ed] at e
      obtain rfl := Option.some.inj e
      obtain ⟨v, e1, rv⟩ := r.get' ed
      obtain ⟨T, w, rfl, hT, rfl, hw⟩ := y
      have q := hw vs (sqt_mono s h)
      rw [e1] at q; cases q
      exact .inr ⟨T, _, hT, rfl, fun Fz1 s1 n => .tup (SqT.of upd_same) (by rw [sizeLine_eq]; show (2 : Nat) ≤ _; decide) (.cons (.int _) (.cons ((rv.mono s1).mono (same_upd n)) .nil))⟩
def dEnum2 : List D → M (List D)
  | [.lst l] => M.pure (enumD l)
  | [.tup l] => M.pure (enumD l)
  | [.stp l] => M.pure (enumD l)
  | _ => bad
theorem qi_enum2 {n : M (List D)} {elts : List Expr} {kk : Nat} (hK : X.K = G.K) (hg : Gl X "enumerate") (hm : X.mg "enumerate" = none) (ha : QA G X W [a] n) (hs : starEach [a] X.env = [(false, eval a X.env)] := by rfl) : QI G X W (.Tuple elts kk tpos) (.Call (.Name "enumerate" p) [a] [] pos) (n.bind dEnum2) :=
  PI_imp (pi_enum2 hg hm ha hs) fun σ H Q q => (tOf.bindL backI q).mono fun xs H1 ⟨ds, el, Fz, env, rl, hh, q⟩ => by
    match xs, ds, el with
    | [], [], _ => exact q.elim
    | [v], [d], _ =>
      have rv : Rep G Fz v d := hh (v, d) List.mem_cons_self
      cases rv with
      | lst h z r => exact ⟨_, rfl, .inl ⟨_, SqL.of (rl.sub _ _ h), q Fz _ H1 (Ext.refl _ _ _ _) rl (gives_enum h r)⟩⟩
      | tup h z r => rw [hK]; exact ⟨_, rfl, .inr ⟨_, sqt_mono rl.sub h, q Fz _ H1 (Ext.refl _ _ _ _) rl (gives_enumT h r)⟩⟩
      | stp h _ _ z r => rw [hK]; exact ⟨_, rfl, .inr ⟨_, .inl (.inr ⟨_, rl.sub _ _ h⟩), q Fz _ H1 (Ext.refl _ _ _ _) rl (gives_enumT (.inl (.inr ⟨_, h⟩)) r)⟩⟩
      | _ => exact q.elim
    | _ :: _ :: _, d :: _ :: _, _ => cases d <;> exact q.elim
variable {b : Expr} {ma mb : M D} {e : Expr}
theorem qe_alt {m m1 m2 : M D} (h1 : QE G X W e m1) (h2 : QE G X W e m2) (k : ∀ env, m env = m1 env ∨ m env = m2 env) : QE G X W e m where
  run := fun pins s σ H Q I q => by
    obtain ⟨Fz, env, rl, hh, p⟩ := q
    rcases k env with z | z
    · rw [z] at p; exact h1.run pins s σ H Q I ⟨Fz, env, rl, hh, p⟩
    · rw [z] at p; exact h2.run pins s σ H Q I ⟨Fz, env, rl, hh, p⟩
def isFro (i : Nat) (env : En) : Bool := match env[i]? with
  | some (.fro _) => true
  | _ => false
/-- x[k], the list x still our own or not any more -/
def mIxB (i : Nat) (m : M D) : M D := fun env => if isFro i env = true then mBin dIx (mVar i) m env else mIxO i m env
theorem qe_ixB (i : Nat) (hK : X.K = G.K) (ho : PE X a (tVar i)) (hv : QE G X W a (mVar i)) (hb : QE G X W b mb) (hm : PlainIx b := by exact fun _ _ => rfl) : QE G X W (.Subscript a b pos) (mIxB i mb) :=
  qe_alt (qe_ix hK hv hb hm) (qe_ixO i ho hb hm) fun env => by
    unfold mIxB
    cases isFro i env
    · exact .inr (by rw [if_neg (by simp)])
    · exact .inl (by rw [if_pos rfl])
end
end Eng

end
section
set_option Elab.async false
set_option linter.all false
set_option autoImplicit false
set_option maxRecDepth 100000
set_option maxHeartbeats 2000000
namespace Eng
open PySem PySem.Spec L2
open PyProof.Rows hiding St
/-! ### C.m(e, ..), m a static method of the class C -/
structure StatOf (K : PySem.W.Frag) (C : Addr) (m : Str) (p f : Addr) : Prop where
  rd : PySem.W.readsIn K C (.type "type") = true
  ga : PySem.W.specialIn K (.ref C) "__getattribute__" = some (some (.builtin "type.__getattribute__"))
  at_ : PySem.W.findCls K (.ref C) (.type "type") m = some (.get (.builtin "staticmethod.__get__") (.ref p) .none (.ref C))
  rc : ∃ rest, PySem.W.recIn K p "staticmethod" = some (.ref f :: rest)
def statAd (K : PySem.W.Frag) (x m : Str) : Addr := He5.wf K (He.ga K x) "staticmethod" m
def statB (K : PySem.W.Frag) (x m : Str) : Bool := He5.wrapB K (He.ga K x) "staticmethod" "staticmethod.__get__" m && (PySem.W.readsIn K (He.ga K x) (.type "type") && He.eqO (PySem.W.specialIn K (.ref (He.ga K x)) "__getattribute__") (some (some (.builtin "type.__getattribute__"))))
theorem statB_ok {K : PySem.W.Frag} {x m : Str} (h : statB K x m = true) : StatOf K (He.ga K x) m (He.ma K (He.ga K x) m) (statAd K x m) := by
  obtain ⟨h1, h2⟩ := Bool.and_eq_true_iff.mp h
  obtain ⟨h3, h4⟩ := Bool.and_eq_true_iff.mp h2
  obtain ⟨h5, h6⟩ := He5.wrapB_ok h1
  exact ⟨h3, He.eqO_ok h4, h5, h6⟩
section
variable {G : Kx} {X : Cx} {W : WX} {o e : Expr} {es : List Expr} {pos apos np : Pos} {x mm : Str} {k : Nat} {fa C p : Addr} {fd : FuncData} {ps : List Str} {F : M Slot} {σ : St} {H : Hp}
theorem run_fnS {CX : CXT} {sp : Sp} {EW : St → XK} {pins : List (Addr × Obj)} {s : Shared} {Q : VK} {us : List Value} {vs : List V} (Fo : FnOk X.prog X.w X.K X.mg X.base CX k fa fd ps sp) (room : Room k X.A) (bi : Binds X.K fd ps []) (px : PassesAt CX X σ (EW σ))
    (J : Inv X pins σ H s) (vr : Vals vs us) (want : sp vs H Q (EW σ)) : wpAny (model X.prog X.w) X.A (call (.ref fa) us) (EP X pins σ Q) X.xe s := by
  have bd := bi s us J.kIn ((List.append_nil us).symm ▸ (vr.length.symm.trans (Fo.len _ _ _ _ want)))
  refine wpAny_call (codeAny_mono (Fo.run X.A X.stack s H ⟨us, []⟩ us vs Q (EW σ) room J.env0 (by simpa using bd) vr want) fun res s2 z => ?_)
  match res, z with
  | .error err, z => exact px pins H s err s2 J z
  | .ok (.ret u), z => exact J.after z
  | .ok .next, z => exact z.elim
  | .ok .brk, z => exact z.elim
  | .ok .cont, z => exact z.elim
theorem stat_got {pins : List (Addr × Obj)} {s : Shared} {A : Around} {E : Value → Shared → Prop} {pl : Sem Bool} {Q : Value × List Value → Shared → Prop} (J : Inv X pins σ H s) (t : StatOf X.K C mm p fa)
    (h : ∀ s1, Inv X pins σ H s1 → Q (.ref fa, []) s1) : wpAny (model X.prog X.w) A (getMethod (.ref C) mm pl) Q E s := by
  obtain ⟨rest, rc⟩ := t.rc
  refine PySem.W.method_cls J.kIn t.ga (PySem.W.cls_bind J.kIn t.rd t.at_ ?_)
  exact wpAny_call (PySem.W.sm_get (s := { s with toks := s.toks + 1 }) J.kIn rc (PySem.W.handed_on rfl (h _ (J.tok _))))
theorem pe_stat {CX : CXT} {sp : Sp} {EW : St → XK} {t : TA} {pl : Sem Bool} (hg : Gl X x) (hm : X.mg x = some (.ref C)) (S : StatOf X.K C mm p fa) (kp : PySem.W.keepIn X.K (.ref fa) = true) (Fo : FnOk X.prog X.w X.K X.mg X.base CX k fa fd ps sp) (room : Room k X.A) (bi : Binds X.K fd ps []) (px : ∀ σ, PassesAt CX X σ (EW σ))
    (ha : PA X (e :: es) t) (hdb : (x == ("__debug__" : Str)) = false := by decide) (he : starEach (e :: es) X.env = (false, eval e X.env) :: starEach es X.env := by rfl) (hpl : (backTo pos (starEach es X.env)).any (·.1) = false := by rfl)
    (ht : eval (.Call (.Attribute (.Name x np) mm apos) (e :: es) [] pos) X.env = (do
      let ov ← eval (.Name x np) X.env
      standAt apos.atName
      let (f, first) ← holding [ov] (getMethod ov mm pl)
      callWith pos f first (backTo pos (starEach (e :: es) X.env)) (backToKw pos (keywordEach [] X.env))) := by rfl) :
    PE X (.Call (.Attribute (.Name x np) mm apos) (e :: es) [] pos) (tCallS sp EW t) where
  run := fun pins s st H Q J want => by
    refine PySem.W.methodCall_KW (pl := pl) (ld_glob J hg hm ?_ hdb) ht
    refine stat_got J S fun s1 J1 => ?_
    exact PySem.W.callWith_K (h₀ := X.base) J1.ok.mod.kin kp (thn (ha.run pos pins s1 st H _ J1 want) fun us s2 ⟨vs, Hb, Jb, vr, q⟩ => ⟨Jb.kIn, run_fnS Fo room bi (px st) Jb vr q⟩) he hpl
theorem qo_stat {n : Nat} {m : M (List Ag)} {pl : Sem Bool} (hg : Gl X x) (hm : X.mg x = some (.ref C)) (S : StatOf X.K C mm p fa) (kp : PySem.W.keepIn X.K (.ref fa) = true) (Fo : FnOk X.prog X.w X.K X.mg X.base (L2N.CX X.prog X.w) k fa fd ps (spF G n F)) (hr : Room k X.A) (hb : Binds X.K fd ps [])
    (hx : ∀ σ, PassesAt (L2N.CX X.prog X.w) X σ (WE W σ)) (ha : QAg G X W (e :: es) m) (hl : ∀ env as e', m env = .ok as e' → as.length = n)
    (hdb : (x == ("__debug__" : Str)) = false := by decide) (he : starEach (e :: es) X.env = (false, eval e X.env) :: starEach es X.env := by rfl) (hpl : (backTo pos (starEach es X.env)).any (·.1) = false := by rfl)
    (ht : eval (.Call (.Attribute (.Name x np) mm apos) (e :: es) [] pos) X.env = (do
      let ov ← eval (.Name x np) X.env
      standAt apos.atName
      let (f, first) ← holding [ov] (getMethod ov mm pl)
      callWith pos f first (backTo pos (starEach (e :: es) X.env)) (backToKw pos (keywordEach [] X.env))) := by rfl) :
    QO G X W (.Call (.Attribute (.Name x np) mm apos) (e :: es) [] pos) (mCall F m) :=
  PE_imp (pe_stat hg hm S kp Fo hr hb hx ha hdb he hpl ht) fun σ H Q q => by
    obtain ⟨Fz, env, r, hh, p⟩ := q
    refine ⟨Fz, env, r, hh, ?_⟩
    unfold mCall M.bind at p
    cases e0 : m env with
    | bad => rw [e0] at p; exact p
    | err c fs e1 => rw [e0] at p; exact p
    | ok as e1 =>
      rw [e0] at p
      intro Fz1 xs H1 x1 r1 ra
      exact call_sp (hl env as e1 e0) r1 ra (Post.then_ (α := Slot) backS x1 p)
end
end Eng

end
section
set_option Elab.async false
set_option linter.all false
set_option autoImplicit false
set_option maxRecDepth 100000
set_option maxHeartbeats 2000000
namespace Eng
open PySem PySem.Spec L2
open PyProof.Rows hiding St
/-! ### f(e, .., k = v, ..), errors may be looked at -/
section
variable {G : Kx} {X : Cx} {W : WX} {e a b c tg iter elt o : Expr} {es ifs : List Expr} {kws : List Keyword} {pos p spos cpos apos pos' : Pos} {ma mb mc : M D} {x f : Str} {σ σ1 : St} {H H1 Fz Fz1 : Hp} {env env1 : En} {E E' : Ends} {hv : List (V × D)}
variable {k j n1 : Nat} {fa C : Addr} {fd : FuncData} {ps ks names : List Str} {g : List Value → List Value → List Value} {gV : List V → List V → List V} {F : M Slot} {n m : M (List D)}
theorem run_kwN {CX : CXT} {sp : Sp} {EW : St → XK} {pins : List (Addr × Obj)} {s : Shared} {Q : VK} {us ws : List Value} {vs zs : List V} (Fo : FnOk X.prog X.w X.K X.mg X.base CX k fa fd ps sp) (room : Room k X.A) (bi : KBn X.K fd ps n1 ks g gV) (px : PassesAt CX X σ (EW σ))
    (J : Inv X pins σ H s) (vr : Vals vs us) (vr2 : Vals zs ws) (l1 : vs.length = n1) (l2 : zs.length = ks.length) (want : sp (gV vs zs) H Q (EW σ)) : wpAny (model X.prog X.w) X.A (call (.ref fa) us (ks.zip ws)) (EP X pins σ Q) X.xe s := by
  refine wpAny_call (codeAny_mono (Fo.run X.A X.stack s H ⟨us, ks.zip ws⟩ (g us ws) (gV vs zs) Q (EW σ) room J.env0 (bi.to s us ws J.kIn (vr.length.symm.trans l1) (vr2.length.symm.trans l2)) (bi.rel vr vr2) want) fun res s2 z => ?_)
  match res, z with
  | .error err, z => exact px pins H s err s2 J z
  | .ok (.ret u), z => exact J.after z
  | .ok .next, z => exact z.elim
  | .ok .brk, z => exact z.elim
  | .ok .cont, z => exact z.elim
theorem qo_callKwS {np kn : Nat} {bd : List D → List D → List D} (hx : ∀ σ, PassesAt (L2N.CX X.prog X.w) X σ (WE W σ)) (Fo : FnOk X.prog X.w X.K X.mg X.base (L2N.CX X.prog X.w) k fa fd ps (spF G np F)) (hr : Room k X.A) (hg : Gl X x) (hm : X.mg x = some (.ref fa)) (hk : PySem.W.keepIn X.K (.ref fa) = true) (hb : KBn X.K fd ps n1 ks g gV)
    (hbd : ∀ Fz vs zs ds es, Reps G Fz vs ds → Reps G Fz zs es → Reps G Fz (gV vs zs) (bd ds es)) (hnp : ∀ ds es : List D, ds.length = n1 → es.length = kn → (bd ds es).length = np) (ha : QA G X W (e :: es) n) (hkw : QK G X W kws m) (hkn : ks.length = kn)
    (hall : (backToKw pos (keywordEach kws X.env)).all (·.1.isSome) = true := by rfl) (hks : (backToKw pos (keywordEach kws X.env)).filterMap (·.1) = ks := by rfl) (hdb : (x == ("__debug__" : Str)) = false := by decide)
    (he : starEach (e :: es) X.env = (false, eval e X.env) :: starEach es X.env := by rfl) (hpl : ((backTo pos (starEach (e :: es) X.env)).any (·.1) || (backToKw pos (keywordEach kws X.env)).any (·.1.isNone)) = false := by rfl) :
    QO G X W (.Call (.Name x p) (e :: es) kws pos) (mCallKw n1 kn F bd n m) where
  run := fun pins s st H Q J want => by
    refine wpAny_Call_Name_kw (ld_glob J hg hm ?_ hdb)
    refine PySem.W.callWith_KW (h₀ := X.base) J.ok.mod.kin hk hall (thn (ha.run pos pins s st H _ J (tOf.bindL backS want)) fun us s1 ⟨vs, H1, J1, vr, ds, el, q1⟩ => ?_) hpl he
    refine thn (hkw.run pos pins s1 st H1 _ J1 (tOf.bindL backS q1)) fun ws s2 ⟨zs, H2, J2, vr2, es2, el2, Fz, env, rl, hh, p⟩ => ⟨J2.kIn, ?_⟩
    obtain ⟨r1, r2⟩ := zip_split el el2 hh
    by_cases hl : ds.length = n1 ∧ es2.length = kn
    · rw [if_pos hl] at p
      rw [hks]
      exact run_kwN (EW := WE W) Fo hr hb (hx st) J2 vr vr2 (el.trans hl.1) (el2.trans (hl.2.trans hkn.symm)) (call_spV (hnp ds es2 hl.1 hl.2) rl (hbd Fz vs zs ds es2 r1 r2) p)
    · rw [if_neg hl] at p; exact p.elim
end
/-! ### str of an int -/
def cStr (i : Int) : Bool := c62 i && decide (i.natAbs.log2 < 1920)
def strN (i : Int) : Str := toString i
def dStr : List D → M D
  | [.int i] => if cStr i = true then M.pure (.str (strN i)) else bad
  | _ => bad
section
variable {G : Kx} {X : Cx} {W : WX} {e : Expr} {p pos : Pos}
theorem s_str : CallS rpD G W (fun xs H Q => ∃ i, xs = [.int i] ∧ i.natAbs.log2 < 1920 ∧ Q (.str (toString i)) H) dStr := callS1 rfl (fun a b l => by cases a <;> rfl) fun v d Fz H σ env Q rl rv q => by
  cases rv with
  | int i =>
    by_cases c : cStr i = true
    · have q2 : Post rpD G W Fz σ env H Q (M.pure (.str (strN i)) env) := by
        have e : dStr [.int i] = M.pure (.str (strN i)) := (if_pos c : (if cStr i = true then M.pure (D.str (strN i)) else bad) = _)
        rw [e] at q; exact q
      exact ⟨i, rfl, of_decide_eq_true (Bool.and_eq_true_iff.mp c).2, q2 Fz _ H (Ext.refl _ _ _ _) rl (.str _)⟩
    · have e : dStr [.int i] = bad := (if_neg c : (if cStr i = true then M.pure (D.str (strN i)) else bad) = _)
      rw [e] at q; exact q.elim
  | _ => exact q.elim
theorem qe_strc {n : M (List D)} (hg : Gl X "str") (hm : X.mg "str" = none) (ha : QA G X W [e] n) (he : starEach [e] X.env = (false, eval e X.env) :: starEach [] X.env := by rfl) : QE G X W (.Call (.Name "str" p) [e] [] pos) (n.bind dStr) :=
  q_callTy backD call_str_int s_str hg hm (by decide +kernel) ha (he := he)
end
end Eng

end
section
set_option Elab.async false
set_option linter.all false
set_option maxRecDepth 100000
set_option maxHeartbeats 4000000
namespace L36
open PySem PySem.Spec L2 Eng
open PyProof.Rows hiding St
def top (i : Nat) : Stmt := PySem.Challenge.pw_greatestback_k36_barring_cell.main.body.getD i (.Pass ⟨0, 0, 0, 0⟩)
abbrev s_law_store : Stmt := (top 32)
abbrev s_law_mix : Stmt := (top 33)
abbrev s_law_take : Stmt := (top 34)
abbrev s_law_side : Stmt := (top 55)
abbrev s_law_sizes : Stmt := (top 56)
abbrev s_law_of : Stmt := (top 45)
abbrev s_law_lot : Stmt := (top 41)
abbrev s_law_pick : Stmt := (top 36)
abbrev s_law_join : Stmt := (top 42)
abbrev s_law_twin : Stmt := (top 58)
abbrev s_law_turn : Stmt := (top 47)
abbrev s_law_shuffle : Stmt := (top 38)
abbrev s_law_units : Stmt := (top 62)
abbrev s_law_lots : Stmt := (top 46)
abbrev s_law_through : Stmt := (top 51)
abbrev s_law_behind : Stmt := (top 50)
abbrev s_law_spread : Stmt := (top 63)
abbrev s_law_placed : Stmt := (top 61)
abbrev s_law_placing : Stmt := (top 44)
abbrev s_law_order : Stmt := (top 60)
abbrev s_law_way : Stmt := (top 64)
abbrev s_law_between : Stmt := (top 35)
abbrev s_law_not : Stmt := (top 48)
abbrev s_law_unit : Stmt := (top 49)
abbrev s_law_lost : Stmt := (top 65)
abbrev s_law_rect : Stmt := (top 59)
abbrev s_law_free : Stmt := (top 57)
abbrev s_law_grid : Stmt := (top 66)
abbrev s_law_any : Stmt := (top 67)
abbrev s_law_less : Stmt := (top 43)
abbrev s_law_flip : Stmt := (top 52)
abbrev s_law_bent_grid : Stmt := (top 68)
abbrev s_BadTable_init : Stmt := (L2.inClass (top 6) 0)
abbrev s_in_range : Stmt := (top 21)
abbrev s_width_of : Stmt := (top 23)
abbrev s_is_row : Stmt := (top 24)
abbrev s_first_unfit : Stmt := (top 25)
abbrev s_Table_init : Stmt := (L2.inClass (top 27) 0)
abbrev s_law_table : Stmt := (top 53)
abbrev s_law_great : Stmt := (top 37)
abbrev s_law_not_place : Stmt := (top 40)
abbrev s_BadPlace_init : Stmt := (L2.inClass (top 8) 0)
abbrev s_check_place : Stmt := (top 29)
abbrev s_Table_rows : Stmt := (L2.inClass (top 27) 5)
abbrev s_barring_cell : Stmt := (top 30)
abbrev s_law_lone : Stmt := (top 69)
abbrev s_law_refused : Stmt := (top 71)
abbrev s_law_same : Stmt := (top 39)
abbrev s_law_bar : Stmt := (top 70)
abbrev s_law_shows : Stmt := (top 54)
abbrev s_law_right : Stmt := (top 72)
abbrev s_law : Stmt := (top 73)
def d_law_store : DefX := ⟨fun K => He.ga K "_law_store", "_law_store", "_law_store", L2.defArgs s_law_store, L2.defBody s_law_store, L2.defScope s_law_store, [], []⟩
def d_law_mix : DefX := ⟨fun K => He.ga K "_law_mix", "_law_mix", "_law_mix", L2.defArgs s_law_mix, L2.defBody s_law_mix, L2.defScope s_law_mix, [], []⟩
def d_law_take : DefX := ⟨fun K => He.ga K "_law_take", "_law_take", "_law_take", L2.defArgs s_law_take, L2.defBody s_law_take, L2.defScope s_law_take, [], []⟩
def d_law_side : DefX := ⟨fun K => He.ga K "_law_side", "_law_side", "_law_side", L2.defArgs s_law_side, L2.defBody s_law_side, L2.defScope s_law_side, [], []⟩
def d_law_sizes : DefX := ⟨fun K => He.ga K "_law_sizes", "_law_sizes", "_law_sizes", L2.defArgs s_law_sizes, L2.defBody s_law_sizes, L2.defScope s_law_sizes, [], []⟩
def d_law_of : DefX := ⟨fun K => He.ga K "_law_of", "_law_of", "_law_of", L2.defArgs s_law_of, L2.defBody s_law_of, L2.defScope s_law_of, [], []⟩
def d_law_lot : DefX := ⟨fun K => He.ga K "_law_lot", "_law_lot", "_law_lot", L2.defArgs s_law_lot, L2.defBody s_law_lot, L2.defScope s_law_lot, [], []⟩
def d_law_pick : DefX := ⟨fun K => He.ga K "_law_pick", "_law_pick", "_law_pick", L2.defArgs s_law_pick, L2.defBody s_law_pick, L2.defScope s_law_pick, [], []⟩
def d_law_join : DefX := ⟨fun K => He.ga K "_law_join", "_law_join", "_law_join", L2.defArgs s_law_join, L2.defBody s_law_join, L2.defScope s_law_join, [], []⟩
def d_law_twin : DefX := ⟨fun K => He.ga K "_law_twin", "_law_twin", "_law_twin", L2.defArgs s_law_twin, L2.defBody s_law_twin, L2.defScope s_law_twin, [], []⟩
def d_law_turn : DefX := ⟨fun K => He.ga K "_law_turn", "_law_turn", "_law_turn", L2.defArgs s_law_turn, L2.defBody s_law_turn, L2.defScope s_law_turn, [], []⟩
def d_law_shuffle : DefX := ⟨fun K => He.ga K "_law_shuffle", "_law_shuffle", "_law_shuffle", L2.defArgs s_law_shuffle, L2.defBody s_law_shuffle, L2.defScope s_law_shuffle, [], []⟩
def d_law_units : DefX := ⟨fun K => He.ga K "_law_units", "_law_units", "_law_units", L2.defArgs s_law_units, L2.defBody s_law_units, L2.defScope s_law_units, [], []⟩
def d_law_lots : DefX := ⟨fun K => He.ga K "_law_lots", "_law_lots", "_law_lots", L2.defArgs s_law_lots, L2.defBody s_law_lots, L2.defScope s_law_lots, [], []⟩
def d_law_through : DefX := ⟨fun K => He.ga K "_law_through", "_law_through", "_law_through", L2.defArgs s_law_through, L2.defBody s_law_through, L2.defScope s_law_through, [], []⟩
def d_law_behind : DefX := ⟨fun K => He.ga K "_law_behind", "_law_behind", "_law_behind", L2.defArgs s_law_behind, L2.defBody s_law_behind, L2.defScope s_law_behind, [], []⟩
def d_law_spread : DefX := ⟨fun K => He.ga K "_law_spread", "_law_spread", "_law_spread", L2.defArgs s_law_spread, L2.defBody s_law_spread, L2.defScope s_law_spread, [], []⟩
def d_law_placed : DefX := ⟨fun K => He.ga K "_law_placed", "_law_placed", "_law_placed", L2.defArgs s_law_placed, L2.defBody s_law_placed, L2.defScope s_law_placed, [], []⟩
def d_law_placing : DefX := ⟨fun K => He.ga K "_law_placing", "_law_placing", "_law_placing", L2.defArgs s_law_placing, L2.defBody s_law_placing, L2.defScope s_law_placing, [], []⟩
def d_law_order : DefX := ⟨fun K => He.ga K "_law_order", "_law_order", "_law_order", L2.defArgs s_law_order, L2.defBody s_law_order, L2.defScope s_law_order, [], []⟩
def d_law_way : DefX := ⟨fun K => He.ga K "_law_way", "_law_way", "_law_way", L2.defArgs s_law_way, L2.defBody s_law_way, L2.defScope s_law_way, [], []⟩
def d_law_between : DefX := ⟨fun K => He.ga K "_law_between", "_law_between", "_law_between", L2.defArgs s_law_between, L2.defBody s_law_between, L2.defScope s_law_between, [], []⟩
def d_law_not : DefX := ⟨fun K => He.ga K "_law_not", "_law_not", "_law_not", L2.defArgs s_law_not, L2.defBody s_law_not, L2.defScope s_law_not, [], []⟩
def d_law_unit : DefX := ⟨fun K => He.ga K "_law_unit", "_law_unit", "_law_unit", L2.defArgs s_law_unit, L2.defBody s_law_unit, L2.defScope s_law_unit, [], []⟩
def d_law_lost : DefX := ⟨fun K => He.ga K "_law_lost", "_law_lost", "_law_lost", L2.defArgs s_law_lost, L2.defBody s_law_lost, L2.defScope s_law_lost, [], []⟩
def d_law_rect : DefX := ⟨fun K => He.ga K "_law_rect", "_law_rect", "_law_rect", L2.defArgs s_law_rect, L2.defBody s_law_rect, L2.defScope s_law_rect, [], []⟩
def d_law_free : DefX := ⟨fun K => He.ga K "_law_free", "_law_free", "_law_free", L2.defArgs s_law_free, L2.defBody s_law_free, L2.defScope s_law_free, [], []⟩
def d_law_grid : DefX := ⟨fun K => He.ga K "_law_grid", "_law_grid", "_law_grid", L2.defArgs s_law_grid, L2.defBody s_law_grid, L2.defScope s_law_grid, [], []⟩
def d_law_any : DefX := ⟨fun K => He.ga K "_law_any", "_law_any", "_law_any", L2.defArgs s_law_any, L2.defBody s_law_any, L2.defScope s_law_any, [], []⟩
def d_law_less : DefX := ⟨fun K => He.ga K "_law_less", "_law_less", "_law_less", L2.defArgs s_law_less, L2.defBody s_law_less, L2.defScope s_law_less, [], []⟩
def d_law_flip : DefX := ⟨fun K => He.ga K "_law_flip", "_law_flip", "_law_flip", L2.defArgs s_law_flip, L2.defBody s_law_flip, L2.defScope s_law_flip, [], []⟩
def d_law_bent_grid : DefX := ⟨fun K => He.ga K "_law_bent_grid", "_law_bent_grid", "_law_bent_grid", L2.defArgs s_law_bent_grid, L2.defBody s_law_bent_grid, L2.defScope s_law_bent_grid, [], []⟩
def d_BadTable_init : DefX := ⟨fun K => He.ma K (He.ga K "BadTable") "__init__", "__init__", "BadTable.__init__", L2.defArgs s_BadTable_init, L2.defBody s_BadTable_init, L2.defScope s_BadTable_init, [], []⟩
def d_in_range : DefX := ⟨fun K => He.ga K "in_range", "in_range", "in_range", L2.defArgs s_in_range, L2.defBody s_in_range, L2.defScope s_in_range, [], []⟩
def d_width_of : DefX := ⟨fun K => He.ga K "width_of", "width_of", "width_of", L2.defArgs s_width_of, L2.defBody s_width_of, L2.defScope s_width_of, [], []⟩
def d_is_row : DefX := ⟨fun K => He.ga K "is_row", "is_row", "is_row", L2.defArgs s_is_row, L2.defBody s_is_row, L2.defScope s_is_row, [], []⟩
def d_first_unfit : DefX := ⟨fun K => He.ga K "first_unfit", "first_unfit", "first_unfit", L2.defArgs s_first_unfit, L2.defBody s_first_unfit, L2.defScope s_first_unfit, [], []⟩
def d_Table_init : DefX := ⟨fun K => He.ma K (He.ga K "Table") "__init__", "__init__", "Table.__init__", L2.defArgs s_Table_init, L2.defBody s_Table_init, L2.defScope s_Table_init, [], [("width", .non)]⟩
def d_law_table : DefX := ⟨fun K => He.ga K "_law_table", "_law_table", "_law_table", L2.defArgs s_law_table, L2.defBody s_law_table, L2.defScope s_law_table, [], []⟩
def d_law_great : DefX := ⟨fun K => He.ga K "_law_great", "_law_great", "_law_great", L2.defArgs s_law_great, L2.defBody s_law_great, L2.defScope s_law_great, [], []⟩
def d_law_not_place : DefX := ⟨fun K => He.ga K "_law_not_place", "_law_not_place", "_law_not_place", L2.defArgs s_law_not_place, L2.defBody s_law_not_place, L2.defScope s_law_not_place, [], []⟩
def d_BadPlace_init : DefX := ⟨fun K => He.ma K (He.ga K "BadPlace") "__init__", "__init__", "BadPlace.__init__", L2.defArgs s_BadPlace_init, L2.defBody s_BadPlace_init, L2.defScope s_BadPlace_init, [], []⟩
def d_check_place : DefX := ⟨fun K => He.ga K "check_place", "check_place", "check_place", L2.defArgs s_check_place, L2.defBody s_check_place, L2.defScope s_check_place, [], []⟩
def d_Table_rows : DefX := ⟨fun K => getterOf K "Table" "rows", "rows", "Table.rows", L2.defArgs s_Table_rows, L2.defBody s_Table_rows, L2.defScope s_Table_rows, [], []⟩
def d_barring_cell : DefX := ⟨fun K => He.ga K "barring_cell", "barring_cell", "barring_cell", L2.defArgs s_barring_cell, L2.defBody s_barring_cell, L2.defScope s_barring_cell, [], []⟩
def d_law_lone : DefX := ⟨fun K => He.ga K "_law_lone", "_law_lone", "_law_lone", L2.defArgs s_law_lone, L2.defBody s_law_lone, L2.defScope s_law_lone, [], []⟩
def d_law_refused : DefX := ⟨fun K => He.ga K "_law_refused", "_law_refused", "_law_refused", L2.defArgs s_law_refused, L2.defBody s_law_refused, L2.defScope s_law_refused, [], []⟩
def d_law_same : DefX := ⟨fun K => He.ga K "_law_same", "_law_same", "_law_same", L2.defArgs s_law_same, L2.defBody s_law_same, L2.defScope s_law_same, [], []⟩
def d_law_bar : DefX := ⟨fun K => He.ga K "_law_bar", "_law_bar", "_law_bar", L2.defArgs s_law_bar, L2.defBody s_law_bar, L2.defScope s_law_bar, [], []⟩
def d_law_shows : DefX := ⟨fun K => He.ga K "_law_shows", "_law_shows", "_law_shows", L2.defArgs s_law_shows, L2.defBody s_law_shows, L2.defScope s_law_shows, [], []⟩
def d_law_right : DefX := ⟨fun K => He.ga K "_law_right", "_law_right", "_law_right", L2.defArgs s_law_right, L2.defBody s_law_right, L2.defScope s_law_right, [], []⟩
def d_law : DefX := ⟨fun K => He.ga K "law", "law", "law", L2.defArgs s_law, L2.defBody s_law, L2.defScope s_law, [], []⟩
def fn : List DefX := [d_law_store, d_law_mix, d_law_take, d_law_side, d_law_sizes, d_law_of, d_law_lot, d_law_pick, d_law_join, d_law_twin, d_law_turn, d_law_shuffle, d_law_units, d_law_lots, d_law_through, d_law_behind, d_law_spread, d_law_placed, d_law_placing, d_law_order, d_law_way, d_law_between, d_law_not, d_law_unit, d_law_lost, d_law_rect, d_law_free, d_law_grid, d_law_any, d_law_less, d_law_flip, d_law_bent_grid, d_BadTable_init, d_in_range, d_width_of, d_is_row, d_first_unfit, d_Table_init, d_law_table, d_law_great, d_law_not_place, d_BadPlace_init, d_check_place, d_Table_rows, d_barring_cell, d_law_lone, d_law_refused, d_law_same, d_law_bar, d_law_shows, d_law_right, d_law]
def fa : List He.Fa := [.free "int", .free "len", .glo "_law_mix", .glo "_law_take", .free "min", .glo "_law_side", .free "range", .free "tuple", .free "any", .glo "_law_lot", .glo "_law_pick", .glo "_law_join", .glo "_law_of", .glo "_law_shuffle", .glo "_law_lots", .glo "_law_through", .glo "_law_units", .glo "_law_turn", .glo "_law_behind", .glo "_law_placing", .glo "_law_placed", .glo "_law_order", .glo "_law_spread", .glo "_law_unit", .glo "_law_not", .glo "_law_twin", .glo "_law_between", .glo "_law_way", .glo "_law_lost", .glo "_law_rect", .glo "_law_free", .glo "_law_sizes", .glo "_law_grid", .glo "_law_less", .glo "_law_flip", .free "isinstance", .free "bool", .free "list", .int "SIDE" 6, .free "all", .free "enumerate", .glo "is_row", .glo "BadTable", .glo "in_range", .glo "width_of", .glo "first_unfit", .noat "Table" "cells", .noat "Table" "height", .noat "Table" "width", .noat "Table" "size", .mkr "Table", .glo "Table", .glo "_law_great", .free "str", .glo "BadPlace", .glo "check_place", .glo "BadPaper", .glo "BadEdit", .glo "BadName", .glo "BadText", .glo "NotSquare", .glo "UnlikeSizes", .glo "NoFit", .glo "NoName", .glo "BadLot", .glo "NoWayBack", .glo "TooMany", .glo "NotRectangular", .glo "NotJoined", .glo "NotOrder", .glo "GreatestbackError", .free "ValueError", .glo "barring_cell", .glo "_law_lone", .glo "_law_same", .glo "_law_bar", .glo "_law_shows", .glo "_law_store", .glo "_law_any", .glo "_law_bent_grid", .glo "_law_table", .glo "_law_not_place", .glo "_law_refused", .glo "_law_right", .glo "law"]
def cs : List (Str × List Str) := [("Table", ["cells", "height", "width", "size"])]
def es : List (Str × List Str) := [("GreatestbackError", []), ("BadText", ["line"]), ("BadName", ["name"]), ("BadEdit", ["edit"]), ("BadTable", ["row"]), ("BadPaper", ["paper"]), ("BadPlace", ["place"]), ("BadLot", ["lot"]), ("NoName", ["name"]), ("NoFit", ["edit"]), ("UnlikeSizes", ["second", "first"]), ("NotSquare", ["sides"]), ("NotOrder", ["fault"]), ("NotJoined", ["lot"]), ("NotRectangular", ["fault"]), ("TooMany", ["limit", "many"]), ("NoWayBack", ["paper"])]
def ex (K : PySem.W.Frag) : Bool := clsB K cs es && (ordB K "Table" && (propB K "Table" "rows" && (einiB K "BadPlace" ["place"] && (einiB K "BadTable" ["row"]))))
abbrev HD (K : PySem.W.Frag) (mg : Str → Option Value) : Prop := Hd fa fn ex K mg
abbrev kx (K : PySem.W.Frag) : Kx := kxOf K cs es
@[simp] abbrev e_GreatestbackError : Nat := 0
@[simp] abbrev e_BadText : Nat := 1
@[simp] abbrev e_BadName : Nat := 2
@[simp] abbrev e_BadEdit : Nat := 3
@[simp] abbrev e_BadTable : Nat := 4
@[simp] abbrev e_BadPaper : Nat := 5
@[simp] abbrev e_BadPlace : Nat := 6
@[simp] abbrev e_BadLot : Nat := 7
@[simp] abbrev e_NoName : Nat := 8
@[simp] abbrev e_NoFit : Nat := 9
@[simp] abbrev e_UnlikeSizes : Nat := 10
@[simp] abbrev e_NotSquare : Nat := 11
@[simp] abbrev e_NotOrder : Nat := 12
@[simp] abbrev e_NotJoined : Nat := 13
@[simp] abbrev e_NotRectangular : Nat := 14
@[simp] abbrev e_TooMany : Nat := 15
@[simp] abbrev e_NoWayBack : Nat := 16
def b_law_store : M Fl := (mRet ((mCons (mFrz (mLc [1] (.nm 1) (mIt (mFrz (mSl (mVar 0) mNoPart (mPart (M.pure (.int 63)))))) mYes ((mCons (mVar 1) mNil).bind dInt))) (mCons (M.pure (.int 0)) (mCons (M.pure (.int 0)) (mCons (M.pure (.int 0)) (mCons (M.pure (.int 0)) (mCons (M.pure (.int 314159265358)) (mCons (M.pure (.int 0)) mNil))))))).bind mkLst))
def m_law_store : M Slot := mFn 1 b_law_store
def b_law_mix : M Fl := (mSeq (mSet 2 (mFro (mBin dMod ((mCons (mFrz (mBin dAdd (mFrz (mBin dMul (mBin dMod ((mCons (mVar 0) mNil).bind dInt) (mBin dSub (mBin dPow (M.pure (.int 2)) (M.pure (.int 61))) (M.pure (.int 1)))) (M.pure (.int 6364136223846793005)))) (mFrz (mBin dMul ((mCons (mVar 1) mNil).bind dInt) (M.pure (.int 1442695040888963407)))))) mNil).bind dInt) (mBin dSub (mBin dPow (M.pure (.int 2)) (M.pure (.int 61))) (M.pure (.int 1)))))) (mRet (mFro (mBin dMod ((mCons (mFrz (mBin dAdd (mFrz (mBin dAdd (mFrz (mBin dMul (mVar 2) (mVar 2))) (mFrz (mBin dMul (M.pure (.int 48271)) (mVar 2))))) (mBin dFdiv (mVar 2) (M.pure (.int 1073741824))))) mNil).bind dInt) (M.pure (.int 999999999989))))))
def m_law_mix : M Slot := mFn 1 b_law_mix
def b_law_take : M Fl := (mSeq (mIf (mTst (mBin dLt (mVar 1) (M.pure (.int 2)))) (mRet (mFro (M.pure (.int 0)))) mNext) (mSeq (mIf (mAndB (mTst (mBin dLt (mIxO 0 (M.pure (.int 2))) (M.pure (.int 1)))) (mAndB (mTst (mBin dLt (mIxO 0 (M.pure (.int 4))) (M.pure (.int 1)))) (mTst (mBin dLt (mIxO 0 (M.pure (.int 1))) ((mCons (mIxO 0 (M.pure (.int 0))) mNil).bind dLen))))) (mSeq (mSet 2 (mFro (mBin dIx (mIxO 0 (M.pure (.int 0))) (mIxO 0 (M.pure (.int 1)))))) (mSeq (mPutO 0 (mFrz (mBin dAdd (mIxO 0 (M.pure (.int 1))) (M.pure (.int 1)))) (M.pure (.int 1))) (mSeq (mPutO 0 (mFrz (mCall m_law_mix (agV (mVar 2) (agV (mFrz (mBin dAdd (mIxO 0 (M.pure (.int 5))) (M.pure (.int 1)))) agNil)))) (M.pure (.int 5))) (mIf (mTst (mBin dGe (mVar 2) (mBin dPow (M.pure (.int 10)) (M.pure (.int 18))))) (mPutO 0 (mVar 2) (M.pure (.int 2))) (mSeq (mPutO 0 (mVar 2) (M.pure (.int 3))) (mPutO 0 (M.pure (.int 3)) (M.pure (.int 4)))))))) mNext) (mSeq (mIf (mTst (mBin dGt (mIxO 0 (M.pure (.int 2))) (M.pure (.int 0)))) (mSeq (mSet 3 (mFro (mBin dMod ((mCons (mIxO 0 (M.pure (.int 2))) mNil).bind dInt) (mVar 1)))) (mSeq (mPutO 0 (mBin dFdiv (mIxO 0 (M.pure (.int 2))) (mVar 1)) (M.pure (.int 2))) (mRet (mFro (mVar 3))))) mNext) (mSeq (mPutO 0 (mFrz (mBin dAdd (mIxO 0 (M.pure (.int 6))) (M.pure (.int 1)))) (M.pure (.int 6))) (mSeq (mIf (mTst (mBin dGt (mIxO 0 (M.pure (.int 4))) (M.pure (.int 0)))) (mSeq (mPutO 0 (mBin dSub (mIxO 0 (M.pure (.int 4))) (M.pure (.int 1))) (M.pure (.int 4))) (mRet (mFro (mBin dMod ((mCons (mBin dFdiv (mFrz (mCall m_law_mix (agV (mIxO 0 (M.pure (.int 3))) (agV (mIxO 0 (M.pure (.int 6))) agNil)))) (M.pure (.int 8))) mNil).bind dInt) (mVar 1))))) mNext) (mRet (mFro (mBin dMod ((mCons (mBin dFdiv (mFrz (mCall m_law_mix (agV (mIxO 0 (M.pure (.int 5))) (agV (mIxO 0 (M.pure (.int 6))) agNil)))) (M.pure (.int 8))) mNil).bind dInt) (mVar 1)))))))))
def m_law_take : M Slot := mFn 2 b_law_take
def b_law_side : M Fl := (mSeq (mSet 2 (mCall m_law_take (agIo 0 (agV (M.pure (.int 5)) agNil)))) (mSeq (mIf (mTst (mBin dEq (mVar 2) (M.pure (.int 0)))) (mRet (mFro (mVar 1))) mNext) (mSeq (mIf (mTst (mBin dEq (mVar 2) (M.pure (.int 1)))) (mRet (mCall m_law_take (agIo 0 (agV (mFrz (mBin dAdd (mVar 1) (M.pure (.int 1)))) agNil)))) mNext) (mRet (mCall m_law_take (agIo 0 (agV (mFrz (mBin dAdd ((mCons (mVar 1) (mCons (M.pure (.int 4)) mNil)).bind dMin2) (M.pure (.int 1)))) agNil)))))))
def m_law_side : M Slot := mFn 1 b_law_side
def b_law_sizes : M Fl := (mSeq (mSet 3 (mCall m_law_side (agIo 0 (agV (mVar 1) agNil)))) (mSeq (mIf (mTst (mBin dEq (mFrz (mCall m_law_take (agIo 0 (agV (M.pure (.int 4)) agNil)))) (M.pure (.int 0)))) (mRet ((mCons ((mCons (mVar 3) (mCons (mVar 2) mNil)).bind dMin2) (mCons ((mCons (mVar 3) (mCons (mVar 2) mNil)).bind dMin2) mNil)).bind mkLst)) mNext) (mRet ((mCons (mVar 3) (mCons (mFrz (mCall m_law_side (agIo 0 (agV (mVar 2) agNil)))) mNil)).bind mkLst))))
def m_law_sizes : M Slot := mFn 1 b_law_sizes
def b_law_of : M Fl := (mSeq (mSet 2 (mNil.bind mkLst)) (mSeq (mFor (.nm 3) (mIt (mVar 0)) ((mMut 2 fAppend (mCons ((mCons (mFrz (mLc [4] (.nm 4) ((mCons (mVar 1) mNil).bind dRng1) mYes (mBin dIn (mVar 4) (mVar 3)))) mNil).bind dTuple) mNil)).bind fun _ => mNext)) (mRet (mFro ((mCons (M.pure (.str "table")) (mCons ((mCons (mVar 2) mNil).bind dLen) (mCons (mVar 1) (mCons ((mCons (mVar 2) mNil).bind dTuple) mNil)))).bind mkTup)))))
def m_law_of : M Slot := mFn 3 b_law_of
def b_law_lot : M Fl := (mSeq (mSet 2 (mCall m_law_take (agIo 0 (agV (M.pure (.int 6)) agNil)))) (mSeq (mIf (mTst (mBin dEq (mVar 2) (M.pure (.int 0)))) (mRet (mFro (mNil.bind mkTup))) mNext) (mSeq (mIf (mTst (mBin dEq (mVar 2) (M.pure (.int 1)))) (mRet (mFro ((mCons (mFrz (mLc [4] (.nm 4) ((mCons (mVar 1) mNil).bind dRng1) mYes (mVar 4))) mNil).bind dTuple))) mNext) (mSeq (mSet 3 (mFro (M.pure (.int 0)))) (mSeq (mIf (mTst (mBin dLt (mVar 2) (M.pure (.int 4)))) (mSet 3 (mCall m_law_take (agIo 0 (agV (mVar 1) agNil)))) mNext) (mSeq (mIf (mTst (mBin dEq (mVar 2) (M.pure (.int 2)))) (mRet (mFro ((mCons (mFrz (mLc [4] (.nm 4) ((mCons (mVar 1) mNil).bind dRng1) (mTst (mBin dEq (mVar 4) (mVar 3))) (mVar 4))) mNil).bind dTuple))) mNext) (mSeq (mIf (mTst (mBin dEq (mVar 2) (M.pure (.int 3)))) (mRet (mFro ((mCons (mFrz (mLc [4] (.nm 4) ((mCons (mVar 1) mNil).bind dRng1) (mTst (mBin dNe (mVar 4) (mVar 3))) (mVar 4))) mNil).bind dTuple))) mNext) (mRet (mFro ((mCons (mFrz (mLc [4] (.nm 4) ((mCons (mVar 1) mNil).bind dRng1) (mTst (mBin dEq (mFrz (mCall m_law_take (agIo 0 (agV (M.pure (.int 2)) agNil)))) (M.pure (.int 1)))) (mVar 4))) mNil).bind dTuple))))))))))
def m_law_lot : M Slot := mFn 3 b_law_lot
def b_law_pick : M Fl := (mSeq (mIf (mTst (mBin dEq ((mCons (mVar 1) mNil).bind dLen) (M.pure (.int 0)))) (mRet (mFro (M.pure .non))) mNext) (mRet (mFro (mBin dIx (mVar 1) (mFrz (mCall m_law_take (agIo 0 (agV ((mCons (mVar 1) mNil).bind dLen) agNil))))))))
def m_law_pick : M Slot := mFn 0 b_law_pick
def b_law_join : M Fl := (mSeq (mSet 1 (mNil.bind mkLst)) (mSeq (mFor (.nm 2) ((mCons (M.pure (.int 6)) mNil).bind dRng1) (mIf (mTru ((mCons (mFrz (mLc [3] (.nm 3) (mIt (mVar 0)) mYes (mBin dIn (mVar 2) (mVar 3)))) mNil).bind dAny)) ((mMut 1 fAppend (mCons (mVar 2) mNil)).bind fun _ => mNext) mNext)) (mRet (mFro ((mCons (mVar 1) mNil).bind dTuple)))))
def m_law_join : M Slot := mFn 3 b_law_join
def b_law_twin : M Fl := (mSeq (mSet 3 (mLc [8] (.nm 8) ((mCons (mFrz (mBin dAdd (M.pure (.int 1)) (mFrz (mCall m_law_take (agIo 0 (agV (M.pure (.int 3)) agNil)))))) mNil).bind dRng1) mYes (mFrz (mCall m_law_lot (agIo 0 (agV (mVar 2) agNil)))))) (mSeq (mSet 4 (mNil.bind mkLst)) (mSeq (mFor (.nm 5) ((mCons (mVar 1) mNil).bind dRng1) (mSeq (mSet 6 (mCall m_law_take (agIo 0 (agV (M.pure (.int 4)) agNil)))) (mSeq (mSet 7 (mCall m_law_pick (agIo 0 (agV (mVar 3) agNil)))) (mSeq (mIf (mTst (mBin dEq (mVar 6) (M.pure (.int 0)))) (mSet 7 (mCall m_law_join (agV (mFrz ((mCons (mVar 7) (mCons (mFrz (mCall m_law_pick (agIo 0 (agV (mVar 3) agNil)))) mNil)).bind mkLst)) agNil))) mNext) (mSeq (mIf (mAndB (mTst (mBin dEq (mVar 6) (M.pure (.int 1)))) (mTst (mBin dEq (mFrz (mCall m_law_take (agIo 0 (agV (M.pure (.int 3)) agNil)))) (M.pure (.int 0))))) (mSet 7 (mFro (mNil.bind mkTup))) mNext) ((mMut 4 fAppend (mCons (mVar 7) mNil)).bind fun _ => mNext)))))) (mRet (mCall m_law_of (agV (mVar 4) (agV (mVar 2) agNil)))))))
def m_law_twin : M Slot := mFn 6 b_law_twin
def b_law_turn : M Fl := (mSeq (mSet 1 (mNil.bind mkLst)) (mSeq (mFor (.nm 2) ((mCons (mBin dIx (mVar 0) (M.pure (.int 2))) mNil).bind dRng1) ((mMut 1 fAppend (mCons ((mCons (mFrz (mLc [3] (.nm 3) (mIt (mBin dIx (mVar 0) (M.pure (.int 3)))) mYes (mBin dIx (mVar 3) (mVar 2)))) mNil).bind dTuple) mNil)).bind fun _ => mNext)) (mRet (mFro ((mCons (M.pure (.str "table")) (mCons (mBin dIx (mVar 0) (M.pure (.int 2))) (mCons (mBin dIx (mVar 0) (M.pure (.int 1))) (mCons ((mCons (mVar 1) mNil).bind dTuple) mNil)))).bind mkTup)))))
def m_law_turn : M Slot := mFn 3 b_law_turn
def b_law_shuffle : M Fl := (mSeq (mSet 2 (mLc [5] (.nm 5) (mIt (mVar 1)) mYes (mVar 5))) (mSeq (mSet 3 (mNil.bind mkLst)) (mSeq (mFor (.nm 4) ((mCons ((mCons (mVar 1) mNil).bind dLen) mNil).bind dRng1) ((mMut 3 fAppend (mCons (mMut 2 fPop1 (mCons (mFrz (mCall m_law_take (agIo 0 (agV (mLend [2] ((mCons (mVar 2) mNil).bind dLen)) agNil)))) mNil)) mNil)).bind fun _ => mNext)) (mRetVar 3))))
def m_law_shuffle : M Slot := mFn 4 b_law_shuffle
def b_law_units : M Fl := (mSeq (mSet 3 (mSl (mFrz (mCall m_law_shuffle (agIo 0 (agV (mFrz (mLc [6] (.nm 6) ((mCons (mVar 2) mNil).bind dRng1) mYes (mVar 6))) agNil)))) mNoPart (mPart (mVar 1)))) (mSeq (mSet 4 (mLc [6] (.nm 6) ((mCons (mVar 2) mNil).bind dRng1) mYes (mFrz (mCall m_law_lot (agIo 0 (agV (mVar 1) agNil)))))) (mSeq (mFor (.nm 5) ((mCons (mVar 1) mNil).bind dRng1) (mPutO 4 ((mCons (mVar 5) mNil).bind mkTup) (mBin dIx (mVar 3) (mVar 5)))) (mRet ((mCons (mVar 4) (mCons (mVar 3) mNil)).bind mkLst)))))
def m_law_units : M Slot := mFn 4 b_law_units
def b_law_lots : M Fl := (mSeq (mSet 1 (mNil.bind mkLst)) (mSeq (mFor (.nm 2) (mIt (mBin dIx (mVar 0) (M.pure (.int 3)))) ((mMut 1 fAppend (mCons ((mCons (mFrz (mLc [3] (.nm 3) ((mCons (mBin dIx (mVar 0) (M.pure (.int 2))) mNil).bind dRng1) (mTru (mBin dIx (mVar 2) (mVar 3))) (mVar 3))) mNil).bind dTuple) mNil)).bind fun _ => mNext)) (mRetVar 1)))
def m_law_lots : M Slot := mFn 3 b_law_lots
def b_law_through : M Fl := (mRet (mCall m_law_join (agV (mFrz (mLc [2] (.nm 2) (mIt (mVar 0)) mYes (mBin dIx (mVar 1) (mVar 2)))) agNil)))
def m_law_through : M Slot := mFn 1 b_law_through
def b_law_behind : M Fl := (mSeq (mSet 2 (mCall m_law_lots (agV (mVar 1) agNil))) (mRet (mCall m_law_of (agV (mFrz (mLc [3] (.nm 3) (mIt (mFrz (mCall m_law_lots (agV (mVar 0) agNil)))) mYes (mFrz (mCall m_law_through (agV (mVar 3) (agV (mVar 2) agNil)))))) (agV (mBin dIx (mVar 1) (M.pure (.int 2))) agNil)))))
def m_law_behind : M Slot := mFn 2 b_law_behind
def b_law_spread : M Fl := (mSeq (mSet 4 (mCall m_law_units (agIo 0 (agV (mBin dIx (mVar 1) (M.pure (.int 1))) (agV (mVar 2) agNil))))) (mSeq (mSet 5 (mCall m_law_units (agIo 0 (agV (mBin dIx (mVar 1) (M.pure (.int 2))) (agV (mVar 3) agNil))))) (mSeq (mSet 6 (mCall m_law_of (agV (mBin dIx (mVar 4) (M.pure (.int 0))) (agV (mBin dIx (mVar 1) (M.pure (.int 1))) agNil)))) (mSeq (mSet 7 (mCall m_law_turn (agV (mFrz (mCall m_law_of (agV (mBin dIx (mVar 5) (M.pure (.int 0))) (agV (mBin dIx (mVar 1) (M.pure (.int 2))) agNil)))) agNil))) (mSeq (mSet 8 (mCall m_law_behind (agV (mFrz (mCall m_law_behind (agV (mVar 6) (agV (mVar 1) agNil)))) (agV (mVar 7) agNil)))) (mSeq (mSet 9 (mCall m_law_of (agV (mFrz (mLc [11] (.nm 11) (mIt (mBin dIx (mVar 4) (M.pure (.int 1)))) mYes ((mCons (mVar 11) mNil).bind mkTup))) (agV (mVar 2) agNil)))) (mSeq (mSet 10 (mCall m_law_turn (agV (mFrz (mCall m_law_of (agV (mFrz (mLc [11] (.nm 11) (mIt (mBin dIx (mVar 5) (M.pure (.int 1)))) mYes ((mCons (mVar 11) mNil).bind mkTup))) (agV (mVar 3) agNil)))) agNil))) (mRet ((mCons (mVar 8) (mCons (mVar 6) (mCons (mVar 7) (mCons (mVar 9) (mCons (mVar 10) mNil))))).bind mkLst)))))))))
def m_law_spread : M Slot := mFn 8 b_law_spread
def b_law_placed : M Fl := (mSeq (mSet 2 (mLc [4] (.nm 4) ((mCons ((mCons (mVar 1) mNil).bind dLen) mNil).bind dRng1) mYes (mMethT dIdxT (mVar 1) (mCons (mVar 4) mNil)))) (mSeq (mSet 3 (mNil.bind mkLst)) (mSeq (mFor (.nm 4) ((mCons ((mCons (mVar 1) mNil).bind dLen) mNil).bind dRng1) ((mMut 3 fAppend (mCons ((mCons (mFrz (mLc [5] (.nm 5) ((mCons ((mCons (mVar 1) mNil).bind dLen) mNil).bind dRng1) (mTru (mBin dIx (mBin dIx (mBin dIx (mVar 0) (M.pure (.int 3))) (mBin dIx (mVar 2) (mVar 4))) (mBin dIx (mVar 2) (mVar 5)))) (mVar 5))) mNil).bind dTuple) mNil)).bind fun _ => mNext)) (mRet (mCall m_law_of (agV (mVar 3) (agV ((mCons (mVar 1) mNil).bind dLen) agNil)))))))
def m_law_placed : M Slot := mFn 4 b_law_placed
def b_law_placing : M Fl := (mSeq (mSet 2 (mCall m_law_take (agIo 0 (agV (M.pure (.int 6)) agNil)))) (mSeq (mIf (mTst (mBin dEq (mVar 2) (M.pure (.int 0)))) (mRet (mFro ((mCons (mFrz (mLc [3] (.nm 3) ((mCons (mVar 1) mNil).bind dRng1) mYes (mVar 3))) mNil).bind dTupleF))) mNext) (mSeq (mIf (mTst (mBin dEq (mVar 2) (M.pure (.int 1)))) (mRet (mFro ((mCons (mFrz (mLc [3] (.nm 3) ((mCons (mVar 1) mNil).bind dRng1) mYes (mBin dMod ((mCons (mFrz (mBin dAdd (mVar 3) (M.pure (.int 1)))) mNil).bind dInt) (mVar 1)))) mNil).bind dTupleF))) mNext) (mSeq (mIf (mTst (mBin dEq (mVar 2) (M.pure (.int 2)))) (mRet (mFro ((mCons (mFrz (mLc [3] (.nm 3) ((mCons (mVar 1) mNil).bind dRng1) mYes (mBin dSub (mBin dSub (mVar 1) (M.pure (.int 1))) (mVar 3)))) mNil).bind dTupleF))) mNext) (mRet (mFro ((mCons (mFrz (mCall m_law_shuffle (agIo 0 (agV (mFrz (mLc [3] (.nm 3) ((mCons (mVar 1) mNil).bind dRng1) mYes (mVar 3))) agNil)))) mNil).bind dTupleF)))))))
def m_law_placing : M Slot := mFn 2 b_law_placing
def b_law_order : M Fl := (mSeq (mSet 2 (mCall m_law_take (agIo 0 (agV (M.pure (.int 5)) agNil)))) (mSeq (mSet 3 (mNil.bind mkLst)) (mSeq (mFor (.nm 4) ((mCons (mVar 1) mNil).bind dRng1) (mSeq (mSet 5 (mCall m_law_lot (agIo 0 (agV (mVar 4) agNil)))) (mSeq (mIf (mTst (mBin dEq (mVar 2) (M.pure (.int 0)))) (mSet 5 (mFro (mNil.bind mkTup))) mNext) (mSeq (mIf (mTst (mBin dEq (mVar 2) (M.pure (.int 1)))) (mSet 5 (mFro ((mCons (mFrz (mLc [6] (.nm 6) ((mCons (mVar 4) mNil).bind dRng1) mYes (mVar 6))) mNil).bind dTuple))) mNext) ((mMut 3 fAppend (mCons (mFrz (mCall m_law_join (agV (mFrz (mBin dAdd (mFrz (mLc [6] (.nm 6) (mIt (mVar 5)) mYes (mIxO 3 (mVar 6)))) (mFrz ((mCons ((mCons (mVar 4) mNil).bind mkTup) mNil).bind mkLst)))) agNil))) mNil)).bind fun _ => mNext))))) (mRet (mCall m_law_placed (agV (mFrz (mCall m_law_of (agV (mVar 3) (agV (mVar 1) agNil)))) (agV (mFrz (mCall m_law_placing (agIo 0 (agV (mVar 1) agNil)))) agNil)))))))
def m_law_order : M Slot := mFn 5 b_law_order
def b_law_way : M Fl := (mRet (mFro (mBin dIx (mFrz (mCall m_law_spread (agIo 0 (agV (mFrz (mCall m_law_order (agIo 0 (agV (mVar 1) agNil)))) (agV (mVar 2) (agV (mVar 3) agNil)))))) (M.pure (.int 0)))))
def m_law_way : M Slot := mFn 0 b_law_way
def b_law_between : M Fl := (mSeq (mIf (mTst (mBin dLe (mVar 2) (mVar 1))) (mRet (mFro (mVar 1))) mNext) (mSeq (mSet 3 (mCall m_law_take (agIo 0 (agV (M.pure (.int 6)) agNil)))) (mSeq (mIf (mTst (mBin dEq (mVar 3) (M.pure (.int 0)))) (mRet (mFro (mVar 1))) mNext) (mSeq (mIf (mTst (mBin dEq (mVar 3) (M.pure (.int 1)))) (mRet (mFro (mVar 2))) mNext) (mRet (mBin dAdd (mVar 1) (mFrz (mCall m_law_take (agIo 0 (agV (mFrz (mBin dAdd (mBin dSub (mVar 2) (mVar 1)) (M.pure (.int 1)))) agNil))))))))))
def m_law_between : M Slot := mFn 1 b_law_between
def b_law_not : M Fl := (mSeq (mSet 1 (mNil.bind mkLst)) (mSeq (mFor (.nm 2) (mIt (mBin dIx (mVar 0) (M.pure (.int 3)))) ((mMut 1 fAppend (mCons ((mCons (mFrz (mLc [3] (.nm 3) (mIt (mVar 2)) mYes (mNotV (mVar 3)))) mNil).bind dTuple) mNil)).bind fun _ => mNext)) (mRet (mFro ((mCons (M.pure (.str "table")) (mCons (mBin dIx (mVar 0) (M.pure (.int 1))) (mCons (mBin dIx (mVar 0) (M.pure (.int 2))) (mCons ((mCons (mVar 1) mNil).bind dTuple) mNil)))).bind mkTup)))))
def m_law_not : M Slot := mFn 3 b_law_not
def b_law_unit : M Fl := (mRet (mCall m_law_of (agV (mFrz (mLc [1] (.nm 1) ((mCons (mVar 0) mNil).bind dRng1) mYes ((mCons (mVar 1) mNil).bind mkTup))) (agV (mVar 0) agNil))))
def m_law_unit : M Slot := mFn 1 b_law_unit
def b_law_lost : M Fl := (mSeq (mSet 3 ((mCons (mFrz (mCall m_law_of (agV (mFrz ((mCons ((mCons (M.pure (.int 0)) (mCons (M.pure (.int 1)) mNil)).bind mkTup) (mCons ((mCons (M.pure (.int 0)) (mCons (M.pure (.int 2)) mNil)).bind mkTup) (mCons ((mCons (M.pure (.int 1)) (mCons (M.pure (.int 2)) mNil)).bind mkTup) mNil))).bind mkLst)) (agV (M.pure (.int 3)) agNil)))) (mCons (mFrz (mCall m_law_of (agV (mFrz ((mCons ((mCons (M.pure (.int 0)) mNil).bind mkTup) (mCons ((mCons (M.pure (.int 0)) (mCons (M.pure (.int 1)) mNil)).bind mkTup) (mCons ((mCons (M.pure (.int 1)) (mCons (M.pure (.int 2)) mNil)).bind mkTup) mNil))).bind mkLst)) (agV (M.pure (.int 3)) agNil)))) mNil)).bind mkLst)) (mSeq (mIf (mTst (mBin dGt (mVar 1) (M.pure (.int 3)))) ((mMut 3 fAppend (mCons (mFrz (mCall m_law_of (agV (mFrz ((mCons ((mCons (M.pure (.int 0)) mNil).bind mkTup) (mCons ((mCons (M.pure (.int 0)) (mCons (M.pure (.int 1)) mNil)).bind mkTup) (mCons ((mCons (M.pure (.int 0)) (mCons (M.pure (.int 2)) mNil)).bind mkTup) (mCons ((mCons (M.pure (.int 1)) (mCons (M.pure (.int 2)) mNil)).bind mkTup) mNil)))).bind mkLst)) (agV (M.pure (.int 3)) agNil)))) mNil)).bind fun _ => mNext) mNext) (mSeq (mIf (mTst (mBin dGt (mVar 2) (M.pure (.int 3)))) ((mMut 3 fAppend (mCons (mFrz (mCall m_law_turn (agV (mFrz (mCall m_law_of (agV (mFrz ((mCons ((mCons (M.pure (.int 0)) mNil).bind mkTup) (mCons ((mCons (M.pure (.int 0)) (mCons (M.pure (.int 1)) mNil)).bind mkTup) (mCons ((mCons (M.pure (.int 0)) (mCons (M.pure (.int 2)) mNil)).bind mkTup) (mCons ((mCons (M.pure (.int 1)) (mCons (M.pure (.int 2)) mNil)).bind mkTup) mNil)))).bind mkLst)) (agV (M.pure (.int 3)) agNil)))) agNil))) mNil)).bind fun _ => mNext) mNext) (mSeq (mIf (mAndB (mTst (mBin dGt (mVar 1) (M.pure (.int 3)))) (mTst (mBin dGt (mVar 2) (M.pure (.int 3))))) ((mMut 3 fAppend (mCons (mFrz (mCall m_law_not (agV (mFrz (mCall m_law_unit (agV (M.pure (.int 4)) agNil))) agNil))) mNil)).bind fun _ => mNext) mNext) (mRet (mFro (mBin dIx (mFrz (mCall m_law_spread (agIo 0 (agV (mFrz (mCall m_law_pick (agIo 0 (agV (mVar 3) agNil)))) (agV (mVar 1) (agV (mVar 2) agNil)))))) (M.pure (.int 0)))))))))
def m_law_lost : M Slot := mFn 1 b_law_lost
def b_law_rect : M Fl := (mSeq (mSet 3 (mBin dAdd (M.pure (.int 1)) (mFrz (mCall m_law_take (agIo 0 (agV (M.pure (.int 6)) agNil)))))) (mSeq (mSet 4 (mLc [8] (.nm 8) ((mCons (mVar 2) mNil).bind dRng1) mYes (mFrz (mCall m_law_take (agIo 0 (agV (mFrz (mBin dAdd (mVar 3) (M.pure (.int 1)))) agNil)))))) (mSeq (mSet 5 (mNil.bind mkLst)) (mSeq (mFor (.nm 6) ((mCons (mVar 1) mNil).bind dRng1) (mSeq (mSet 7 (mCall m_law_take (agIo 0 (agV (mFrz (mBin dAdd (mVar 3) (M.pure (.int 1)))) agNil)))) ((mMut 5 fAppend (mCons ((mCons (mFrz (mLc [8] (.nm 8) ((mCons (mVar 2) mNil).bind dRng1) (mAndB (mTst (mBin dEq (mBin dIx (mVar 4) (mVar 8)) (mVar 7))) (mTst (mBin dGt (mVar 7) (M.pure (.int 0))))) (mVar 8))) mNil).bind dTuple) mNil)).bind fun _ => mNext))) (mRet (mCall m_law_of (agV (mVar 5) (agV (mVar 2) agNil))))))))
def m_law_rect : M Slot := mFn 6 b_law_rect
def b_law_free : M Fl := (mSeq (mSet 3 (mCall m_law_take (agIo 0 (agV (M.pure (.int 4)) agNil)))) (mSeq (mSet 4 (mNil.bind mkLst)) (mSeq (mFor (.nm 5) ((mCons (mVar 1) mNil).bind dRng1) (mIf (mTst (mBin dEq (mVar 3) (M.pure (.int 0)))) ((mMut 4 fAppend (mCons ((mCons (mFrz (mLc [6] (.nm 6) ((mCons (mVar 2) mNil).bind dRng1) (mTst (mBin dEq (mFrz (mCall m_law_take (agIo 0 (agV (M.pure (.int 4)) agNil)))) (M.pure (.int 1)))) (mVar 6))) mNil).bind dTuple) mNil)).bind fun _ => mNext) (mIf (mTst (mBin dEq (mVar 3) (M.pure (.int 1)))) ((mMut 4 fAppend (mCons ((mCons (mFrz (mLc [6] (.nm 6) ((mCons (mVar 2) mNil).bind dRng1) (mTst (mBin dNe (mFrz (mCall m_law_take (agIo 0 (agV (M.pure (.int 4)) agNil)))) (M.pure (.int 1)))) (mVar 6))) mNil).bind dTuple) mNil)).bind fun _ => mNext) ((mMut 4 fAppend (mCons ((mCons (mFrz (mLc [6] (.nm 6) ((mCons (mVar 2) mNil).bind dRng1) (mTst (mBin dEq (mFrz (mCall m_law_take (agIo 0 (agV (M.pure (.int 2)) agNil)))) (M.pure (.int 1)))) (mVar 6))) mNil).bind dTuple) mNil)).bind fun _ => mNext)))) (mRet (mCall m_law_of (agV (mVar 4) (agV (mVar 2) agNil)))))))
def m_law_free : M Slot := mFn 4 b_law_free
def b_law_grid : M Fl := (mSeq (mSet 3 (mCall m_law_take (agIo 0 (agV (M.pure (.int 9)) agNil)))) (mSeq (mIf (mTst (mBin dEq (mVar 3) (M.pure (.int 0)))) (mSeq (mSet 4 (mCall m_law_take (agIo 0 (agV (M.pure (.int 3)) agNil)))) (mSeq (mSet 5 (mFro ((mCons (mFrz (mLc [8] (.nm 8) ((mCons (mVar 2) mNil).bind dRng1) mYes (mVar 8))) mNil).bind dTuple))) (mSeq (mSet 6 (mLc [7] (.nm 7) ((mCons (mVar 1) mNil).bind dRng1) mYes (mBin dIx (mFrz ((mCons (mNil.bind mkTup) (mCons (mVar 5) (mCons ((mCons (mFrz (mLc [8] (.nm 8) ((mCons (mVar 2) mNil).bind dRng1) (mTst (mBin dEq (mVar 8) (mVar 7))) (mVar 8))) mNil).bind dTuple) mNil))).bind mkLst)) (mVar 4)))) (mRet (mCall m_law_of (agV (mVar 6) (agV (mVar 2) agNil))))))) mNext) (mSeq (mIf (mTst (mBin dEq (mVar 3) (M.pure (.int 1)))) (mRet (mCall m_law_twin (agIo 0 (agV (mVar 1) (agV (mVar 2) agNil))))) mNext) (mSeq (mIf (mTst (mBin dEq (mVar 3) (M.pure (.int 2)))) (mRet (mCall m_law_turn (agV (mFrz (mCall m_law_twin (agIo 0 (agV (mVar 2) (agV (mVar 1) agNil))))) agNil))) mNext) (mSeq (mIf (mTst (mBin dEq (mVar 3) (M.pure (.int 3)))) (mRet (mCall m_law_way (agIo 0 (agV (mFrz (mCall m_law_between (agIo 0 (agV (M.pure (.int 0)) (agV ((mCons (mVar 1) (mCons (mVar 2) mNil)).bind dMin2) agNil))))) (agV (mVar 1) (agV (mVar 2) agNil)))))) mNext) (mSeq (mIf (mAndB (mTst (mBin dEq (mVar 3) (M.pure (.int 4)))) (mAndB (mTst (mBin dGt (mVar 1) (M.pure (.int 2)))) (mTst (mBin dGt (mVar 2) (M.pure (.int 2)))))) (mRet (mCall m_law_lost (agIo 0 (agV (mVar 1) (agV (mVar 2) agNil))))) mNext) (mSeq (mIf (mTst (mBin dEq (mVar 3) (M.pure (.int 5)))) (mRet (mCall m_law_rect (agIo 0 (agV (mVar 1) (agV (mVar 2) agNil))))) mNext) (mRet (mCall m_law_free (agIo 0 (agV (mVar 1) (agV (mVar 2) agNil))))))))))))
def m_law_grid : M Slot := mFn 6 b_law_grid
def b_law_any : M Fl := (mSeq (mSet 3 (mCall m_law_sizes (agIo 0 (agV (mVar 1) (agV (mVar 2) agNil))))) (mRet (mCall m_law_grid (agIo 0 (agV (mBin dIx (mVar 3) (M.pure (.int 0))) (agV (mBin dIx (mVar 3) (M.pure (.int 1))) agNil))))))
def m_law_any : M Slot := mFn 1 b_law_any
def b_law_less : M Fl := (mRet (mFro ((mCons (mFrz (mLc [2] (.nm 2) (mIt (mVar 0)) (mTst (mBin dNotIn (mVar 2) (mVar 1))) (mVar 2))) mNil).bind dTuple)))
def m_law_less : M Slot := mFn 1 b_law_less
def b_law_flip : M Fl := (mSeq (mSet 3 (mCall m_law_lots (agV (mVar 0) agNil))) (mSeq (mIf (mTst (mBin dIn (mVar 2) (mIxO 3 (mVar 1)))) (mPutO 3 (mFrz (mCall m_law_less (agV (mIxO 3 (mVar 1)) (agV ((mCons (mVar 2) mNil).bind mkTup) agNil)))) (mVar 1)) (mPutO 3 (mFrz (mCall m_law_join (agV (mFrz ((mCons (mIxO 3 (mVar 1)) (mCons ((mCons (mVar 2) mNil).bind mkTup) mNil)).bind mkLst)) agNil))) (mVar 1))) (mRet (mCall m_law_of (agV (mVar 3) (agV (mBin dIx (mVar 0) (M.pure (.int 2))) agNil))))))
def m_law_flip : M Slot := mFn 1 b_law_flip
def b_law_bent_grid : M Fl := (mSeq (mSet 2 (mCall m_law_take (agIo 0 (agV (mFrz (mBin dMul (mBin dIx (mVar 1) (M.pure (.int 1))) (mBin dIx (mVar 1) (M.pure (.int 2))))) agNil)))) (mSeq (mIf (mTst (mBin dEq (mFrz (mBin dMul (mBin dIx (mVar 1) (M.pure (.int 1))) (mBin dIx (mVar 1) (M.pure (.int 2))))) (M.pure (.int 0)))) (mRet (mFro (mVar 1))) mNext) (mRet (mCall m_law_flip (agV (mVar 1) (agV (mBin dFdiv (mVar 2) (mBin dIx (mVar 1) (M.pure (.int 2)))) (agV (mBin dMod ((mCons (mVar 2) mNil).bind dInt) (mBin dIx (mVar 1) (M.pure (.int 2)))) agNil)))))))
def m_law_bent_grid : M Slot := mFn 1 b_law_bent_grid
def b_in_range : M Fl := (mRet (mFro (mAndV (mIsi (.ty "int") (mVar 0)) (mAndV (mNotV (mIsi (.ty "bool") (mVar 0))) (mChain dLe dLt (M.pure (.int 0)) (mVar 0) (mVar 1))))))
def m_in_range : M Slot := mFn 0 b_in_range
def b_width_of : M Fl := (mSeq (mIf (mTst (mBin dIsNot (mVar 1) (M.pure .non))) (mRet (mFro (mVar 1))) mNext) (mSeq (mIf (mOrB (mTst (mBin dEq ((mCons (mVar 0) mNil).bind dLen) (M.pure (.int 0)))) (mNotB (mTru (mIsis [(.ty "list"), (.ty "tuple")] (mBin dIx (mVar 0) (M.pure (.int 0))))))) (mRet (mFro (M.pure (.int 0)))) mNext) (mRet (mFro ((mCons (mBin dIx (mVar 0) (M.pure (.int 0))) mNil).bind dLen)))))
def m_width_of : M Slot := mFn 0 b_width_of
def b_is_row : M Fl := (mSeq (mIf (mOrB (mNotB (mTru (mIsis [(.ty "list"), (.ty "tuple")] (mVar 0)))) (mOrB (mTst (mBin dGt ((mCons (mVar 0) mNil).bind dLen) (M.pure (.int 6)))) (mTst (mBin dNe ((mCons (mVar 0) mNil).bind dLen) (mVar 1))))) (mRet (mFro (M.pure (.bl false)))) mNext) (mRet (mFro ((mCons (mFrz (mLc [2] (.nm 2) (mIt (mVar 0)) mYes (mIsi (.ty "bool") (mVar 2)))) mNil).bind dAll))))
def m_is_row : M Slot := mFn 1 b_is_row
def b_first_unfit : M Fl := (mSeq (mFor (.tp [2, 3]) ((mCons (mVar 0) mNil).bind dEnum2) (mIf (mNotB (mTru (mFrz (mCall m_is_row (agV (mVar 3) (agV (mVar 1) agNil)))))) (mRet (mFro (mVar 2))) mNext)) (mRet (mFro (M.pure .non))))
def m_first_unfit : M Slot := mFn 2 b_first_unfit
def b_Table_init : M Fl := (mSeq (mIf (mOrB (mNotB (mTru (mIsis [(.ty "list"), (.ty "tuple")] (mVar 1)))) (mTst (mBin dGt ((mCons (mVar 1) mNil).bind dLen) (M.pure (.int 6))))) (mRaise 4 1 (mCons (M.pure .non) mNil)) mNext) (mSeq (mIf (mAndB (mTst (mBin dIsNot (mVar 2) (M.pure .non))) (mNotB (mTru (mFrz (mCall m_in_range (agV (mVar 2) (agV (mFrz (mBin dAdd (M.pure (.int 6)) (M.pure (.int 1)))) agNil))))))) (mRaise 4 1 (mCons (M.pure .non) mNil)) mNext) (mSeq (mSet 3 (mCall m_width_of (agV (mVar 1) (agV (mVar 2) agNil)))) (mSeq (mSet 4 (mCall m_first_unfit (agV (mVar 1) (agV (mVar 3) agNil)))) (mSeq (mIf (mTst (mBin dIsNot (mVar 4) (M.pure .non))) (mRaise 4 1 (mCons (mVar 4) mNil)) mNext) (mSeq (mPutF 0 0 "cells" ((mCons (mFrz (mLc [5] (.nm 5) (mIt (mVar 1)) mYes ((mCons (mVar 5) mNil).bind dTuple))) mNil).bind dTuple)) (mSeq (mPutF 0 0 "height" ((mCons (mGetO 0 0 "cells") mNil).bind dLen)) (mSeq (mPutF 0 0 "width" (mVar 3)) (mPutF 0 0 "size" ((mCons (mGetO 0 0 "height") (mCons (mVar 3) mNil)).bind mkTup))))))))))
def m_Table_init : M Slot := mFn 3 b_Table_init
def b_law_table : M Fl := (mRet (mFro (mMakeKw 1 1 0 ["cells", "height", "width", "size"] m_Table_init (fun a b => a ++ b) (mCons (mFrz (mLc [1] (.nm 1) (mIt (mBin dIx (mVar 0) (M.pure (.int 3)))) mYes (mFrz (mLc [2] (.nm 2) (mIt (mVar 1)) mYes (mVar 2))))) mNil) (mCons (mBin dIx (mVar 0) (M.pure (.int 2))) mNil))))
def m_law_table : M Slot := mFn 2 b_law_table
def b_law_great : M Fl := (mSeq (mSet 1 (mFro (M.pure (.int 0)))) (mSeq (mFor (.nm 2) ((mCons (mFrz (mBin dAdd (M.pure (.int 1)) (mFrz (mCall m_law_take (agIo 0 (agV (M.pure (.int 20)) agNil)))))) mNil).bind dRng1) (mSet 1 (mBin dAdd (mFrz (mBin dMul (mVar 1) (M.pure (.int 1000000)))) (mFrz (mCall m_law_take (agIo 0 (agV (M.pure (.int 1000000)) agNil))))))) (mSeq (mIf (mTst (mBin dEq (mFrz (mCall m_law_take (agIo 0 (agV (M.pure (.int 2)) agNil)))) (M.pure (.int 1)))) (mRet (mFro ((mVar 1).bind dNeg))) mNext) (mRet (mFro (mVar 1))))))
def m_law_great : M Slot := mFn 2 b_law_great
def b_law_not_place : M Fl := (mSeq (mSet 3 (mCall m_law_great (agIo 0 agNil))) (mSeq (mIf (mTst (mBin dLt (mVar 3) (M.pure (.int 0)))) (mSet 5 (mBin dAdd (mBin dSub (mVar 1) (M.pure (.int 1))) (mVar 3))) (mSet 5 (mBin dAdd (mFrz (mBin dAdd (mVar 2) (M.pure (.int 1)))) (mVar 3)))) (mSeq (mSet 4 ((mCons (mBin dSub (mVar 1) (M.pure (.int 1))) (mCons (mFrz (mBin dAdd (mVar 2) (M.pure (.int 1)))) (mCons (mVar 5) (mCons (M.pure (.bl true)) (mCons (M.pure (.bl false)) (mCons (M.pure .non) (mCons ((mCons (mVar 2) mNil).bind dStr) (mCons (M.pure (.str "")) (mCons ((mCons (mVar 1) mNil).bind mkTup) (mCons (mFrz ((mCons (mVar 2) mNil).bind mkLst)) (mCons (mNil.bind mkTup) mNil))))))))))).bind mkLst)) (mRet (mFro (mBin dIx (mVar 4) (mFrz (mCall m_law_take (agIo 0 (agV (M.pure (.int 11)) agNil))))))))))
def m_law_not_place : M Slot := mFn 3 b_law_not_place
def b_check_place : M Fl := (mSeq (mIf (mOrB (mNotB (mTru (mIsi (.ty "int") (mVar 0)))) (mTru (mIsi (.ty "bool") (mVar 0)))) (mRaise 6 1 (mCons (mVar 0) mNil)) mNext) (mIf (mOrB (mTst (mBin dLt (mVar 0) (M.pure (.int 0)))) (mTst (mBin dGe (mVar 0) (mVar 1)))) (mRaise 6 1 (mCons (mVar 0) mNil)) mNext))
def m_check_place : M Slot := mFn 0 b_check_place
def b_Table_rows : M Fl := (mRet (mLc [1] (.nm 1) (mIt ((mVar 0).bind (getF 0 0))) mYes (mFrz ((mCons (mVar 1) mNil).bind dList))))
def m_Table_rows : M Slot := mFn 1 b_Table_rows
def b_barring_cell : M Fl := (mSeq ((mFrz (mCall m_check_place (agV (mVar 1) (agV ((mVar 0).bind (getF 0 2)) agNil)))).bind fun _ => mNext) (mSeq ((mFrz (mCall m_check_place (agV (mVar 2) (agV ((mVar 0).bind (getF 0 1)) agNil)))).bind fun _ => mNext) (mSeq (mSet 3 (mProp 0 m_Table_rows (mVar 0))) (mSeq (mSet 4 (mFro (mBin dIx (mVar 3) (mVar 2)))) (mSeq (mFor (.tp [5, 6]) ((mCons (mVar 3) mNil).bind dEnum2) (mIf (mTru (mBin dIx (mVar 6) (mVar 1))) (mFor (.tp [7, 8]) ((mCons (mVar 6) mNil).bind dEnum2) (mIf (mAndB (mTru (mBin dIx (mVar 4) (mVar 7))) (mNotB (mTru (mVar 8)))) (mRet (mFro ((mCons (mVar 5) (mCons (mVar 7) mNil)).bind mkTup))) mNext)) mNext)) (mRet (mFro (M.pure .non))))))))
def m_barring_cell : M Slot := mFn 6 b_barring_cell
def b_law_lone : M Fl := (mSeq (mSet 1 (mFro (mIsis [(.ex 1), (.ex 2), (.ex 3), (.ex 4), (.ex 5)] (mVar 0)))) (mSeq (mSet 1 (mFro (mOrV (mVar 1) (mIsis [(.ex 7), (.ex 8), (.ex 9), (.ex 10), (.ex 11)] (mVar 0))))) (mSeq (mSet 1 (mFro (mOrV (mVar 1) (mIsis [(.ex 12), (.ex 13), (.ex 14), (.ex 15), (.ex 16)] (mVar 0))))) (mRet (mFro (mAndV (mNotV (mVar 1)) (mAndV (mIsi (.ex 0) (mVar 0)) (mIsi (.ty "ValueError") (mVar 0)))))))))
def m_law_lone : M Slot := mFn 1 b_law_lone
def b_law_refused : M Fl := (mSeq (mTry ((mFrz (mCall m_barring_cell (agV (mVar 0) (agV (mVar 1) (agV (mVar 2) agNil))))).bind fun _ => mNext) [⟨6, some 4, (mRet (mFro (mAndV (mBin dEq ((mVar 4).bind (getX [(6, 0)])) (mVar 3)) (mFrz (mCall m_law_lone (agV (mVar 4) agNil))))))⟩]) (mRet (mFro (M.pure (.bl false)))))
def m_law_refused : M Slot := mFn 1 b_law_refused
def b_law_same (self : M Slot) : M Fl := (mSeq (mIf (mTru (mIsis [(.ty "tuple"), (.ty "list")] (mVar 1))) (mSeq (mIf (mOrB (mNotB (mTru (mIsis [(.ty "tuple"), (.ty "list")] (mVar 0)))) (mTst (mBin dNe (mIsi (.ty "tuple") (mVar 0)) (mIsi (.ty "tuple") (mVar 1))))) (mRet (mFro (M.pure (.bl false)))) mNext) (mSeq (mIf (mTst (mBin dNe ((mCons (mVar 0) mNil).bind dLen) ((mCons (mVar 1) mNil).bind dLen))) (mRet (mFro (M.pure (.bl false)))) mNext) (mRet (mFro ((mCons (mFrz (mLc [2] (.nm 2) ((mCons ((mCons (mVar 1) mNil).bind dLen) mNil).bind dRng1) mYes (mFrz (mCall self (agV (mBin dIx (mVar 0) (mVar 2)) (agV (mBin dIx (mVar 1) (mVar 2)) agNil)))))) mNil).bind dAll))))) mNext) (mSeq (mIf (mOrB (mTst (mBin dIs (mVar 1) (M.pure .non))) (mTst (mBin dIs (mVar 0) (M.pure .non)))) (mRet (mFro (mAndV (mBin dIs (mVar 1) (M.pure .non)) (mBin dIs (mVar 0) (M.pure .non))))) mNext) (mSeq (mIf (mOrB (mTru (mIsi (.ty "bool") (mVar 1))) (mTru (mIsi (.ty "bool") (mVar 0)))) (mRet (mFro (mAndV (mIsi (.ty "bool") (mVar 1)) (mAndV (mIsi (.ty "bool") (mVar 0)) (mBin dEq (mVar 0) (mVar 1)))))) mNext) (mSeq (mIf (mTru (mIsi (.ty "str") (mVar 1))) (mRet (mFro (mAndV (mIsi (.ty "str") (mVar 0)) (mBin dEq (mVar 0) (mVar 1))))) mNext) (mRet (mFro (mAndV (mIsi (.ty "int") (mVar 1)) (mAndV (mIsi (.ty "int") (mVar 0)) (mBin dEq (mVar 0) (mVar 1))))))))))
def mr_law_same : Nat → M Slot
  | 0 => bad
  | d + 1 => mFn 1 (b_law_same (mr_law_same d))
def m_law_same : M Slot := mr_law_same 8
def b_law_bar : M Fl := (mSeq (mFor (.nm 3) ((mCons (mBin dIx (mVar 0) (M.pure (.int 1))) mNil).bind dRng1) (mFor (.nm 4) ((mCons (mBin dIx (mVar 0) (M.pure (.int 2))) mNil).bind dRng1) (mIf (mAndB (mTru (mBin dIx (mBin dIx (mBin dIx (mVar 0) (M.pure (.int 3))) (mVar 3)) (mVar 1))) (mAndB (mTru (mBin dIx (mBin dIx (mBin dIx (mVar 0) (M.pure (.int 3))) (mVar 2)) (mVar 4))) (mNotB (mTru (mBin dIx (mBin dIx (mBin dIx (mVar 0) (M.pure (.int 3))) (mVar 3)) (mVar 4)))))) (mRet (mFro ((mCons (mVar 3) (mCons (mVar 4) mNil)).bind mkTup))) mNext))) (mRet (mFro (M.pure .non))))
def m_law_bar : M Slot := mFn 2 b_law_bar
def b_law_shows : M Fl := (mSeq (mIf (mNotB (mTru (mIsi (.ins 0) (mVar 0)))) (mRet (mFro (M.pure (.bl false)))) mNext) (mSeq (mIf (mNotB (mTru (mFrz (mCall m_law_same (agV (mFrz ((mCons ((mVar 0).bind (getF 0 1)) (mCons ((mVar 0).bind (getF 0 2)) mNil)).bind mkLst)) (agV (mFrz ((mCons (mBin dIx (mVar 1) (M.pure (.int 1))) (mCons (mBin dIx (mVar 1) (M.pure (.int 2))) mNil)).bind mkLst)) agNil)))))) (mRet (mFro (M.pure (.bl false)))) mNext) (mRet (mCall m_law_same (agV (mFrz (mProp 0 m_Table_rows (mVar 0))) (agV (mFrz (mLc [2] (.nm 2) (mIt (mBin dIx (mVar 1) (M.pure (.int 3)))) mYes (mFrz (mLc [3] (.nm 3) (mIt (mVar 2)) mYes (mVar 3))))) agNil))))))
def m_law_shows : M Slot := mFn 2 b_law_shows
def b_law_right : M Fl := (mSeq (mFor (.nm 4) ((mCons (mBin dIx (mVar 1) (M.pure (.int 2))) mNil).bind dRng1) (mFor (.nm 5) ((mCons (mBin dIx (mVar 1) (M.pure (.int 1))) mNil).bind dRng1) (mSeq (mIf (mNotB (mTru (mFrz (mCall m_law_same (agV (mFrz (mCallKw 2 1 m_barring_cell (fun a b => a ++ permL [0] b) (mCons (mVar 0) (mCons (mVar 4) mNil)) (mCons (mVar 5) mNil))) (agV (mFrz (mCall m_law_bar (agV (mVar 1) (agV (mVar 4) (agV (mVar 5) agNil))))) agNil)))))) (mRet (mFro (M.pure (.bl false)))) mNext) (mIf (mNotB (mTru (mFrz (mCall m_law_same (agV (mFrz (mCall m_barring_cell (agV (mVar 3) (agV (mVar 4) (agV (mVar 5) agNil))))) (agV (mFrz (mCall m_law_bar (agV (mVar 2) (agV (mVar 4) (agV (mVar 5) agNil))))) agNil)))))) (mRet (mFro (M.pure (.bl false)))) mNext)))) (mRet (mFro (mAndV (mFrz (mCall m_law_shows (agV (mVar 0) (agV (mVar 1) agNil)))) (mFrz (mCall m_law_shows (agV (mVar 3) (agV (mVar 2) agNil))))))))
def m_law_right : M Slot := mFn 2 b_law_right
def b_law : M Fl := (mSeq (mSet 1 (mCall m_law_store (agV (mVar 0) agNil))) (mSeq (mSet 2 (mCall m_law_any (agIo 1 (agV (M.pure (.int 6)) (agV (M.pure (.int 6)) agNil))))) (mSeq (mSet 3 (mCall m_law_bent_grid (agIo 1 (agV (mVar 2) agNil)))) (mSeq (mSet 4 (mCall m_law_table (agV (mVar 2) agNil))) (mSeq (mSet 5 (mCall m_law_table (agV (mVar 3) agNil))) (mSeq (mFor (.nm 6) ((mCons (M.pure (.int 2)) mNil).bind dRng1) (mSeq (mSet 7 (mCall m_law_not_place (agIo 1 (agV (M.pure (.int 0)) (agV (mBin dSub (mBin dIx (mVar 2) (M.pure (.int 2))) (M.pure (.int 1))) agNil))))) (mSeq (mSet 8 (mCall m_law_not_place (agIo 1 (agV (M.pure (.int 0)) (agV (mBin dSub (mBin dIx (mVar 2) (M.pure (.int 1))) (M.pure (.int 1))) agNil))))) (mSeq (mIf (mNotB (mTru (mFrz (mCall m_law_refused (agV (mVar 4) (agV (mVar 7) (agV (mVar 8) (agV (mVar 7) agNil)))))))) (mRet (mFro (M.pure (.bl false)))) mNext) (mSeq (mIf (mAndB (mTst (mBin dGt (mBin dIx (mVar 2) (M.pure (.int 2))) (M.pure (.int 0)))) (mNotB (mTru (mFrz (mCall m_law_refused (agV (mVar 4) (agV (mFrz (mCall m_law_take (agIo 1 (agV (mBin dIx (mVar 2) (M.pure (.int 2))) agNil)))) (agV (mVar 8) (agV (mVar 8) agNil))))))))) (mRet (mFro (M.pure (.bl false)))) mNext) (mSeq (mIf (mAndB (mTst (mBin dGt (mBin dIx (mVar 2) (M.pure (.int 1))) (M.pure (.int 0)))) (mNotB (mTru (mFrz (mCall m_law_refused (agV (mVar 4) (agV (mVar 7) (agV (mFrz (mCall m_law_take (agIo 1 (agV (mBin dIx (mVar 2) (M.pure (.int 1))) agNil)))) (agV (mVar 7) agNil))))))))) (mRet (mFro (M.pure (.bl false)))) mNext) (mIf (mNotB (mTru (mFrz (mCall m_law_right (agV (mVar 4) (agV (mVar 2) (agV (mVar 3) (agV (mVar 5) agNil)))))))) (mRet (mFro (M.pure (.bl false)))) mNext))))))) (mRet (mFro (M.pure (.bl true))))))))))
def m_law : M Slot := mFn 8 b_law
end L36

end
section
set_option Elab.async false
set_option linter.all false
set_option maxRecDepth 100000
set_option maxHeartbeats 4000000
namespace L36
open PySem PySem.Spec L2 Eng
open PyProof.Rows hiding St
section
variable {P : Program} {w : World} {K : PySem.W.Frag} {mg : Str → Option Value} {base : Heap}
theorem kok (T : HD K mg) : KOk (kx K) := clsB_ok (Bool.and_eq_true_iff.mp T.exs).1
theorem ins_Table (T : HD K mg) : InsOk K (He.ga K "Table") := (kok T).ins 0 _ _ rfl
theorem ord_Table (T : HD K mg) : PySem.W.selfFirst K (He.ga K "Table") = true ∧ PySem.W.notFirst K (He.ga K "Table") (.ref (He.ga K "Table")) = true := Bool.and_eq_true_iff.mp (Bool.and_eq_true_iff.mp (Bool.and_eq_true_iff.mp T.exs).2).1
theorem prop_Table_rows (T : HD K mg) : PropOf K (He.ga K "Table") "rows" (He.ma K (He.ga K "Table") "rows") (getterOf K "Table" "rows") := propB_ok (Bool.and_eq_true_iff.mp (Bool.and_eq_true_iff.mp (Bool.and_eq_true_iff.mp T.exs).2).2).1
theorem eini_BadPlace (T : HD K mg) : EIni K (He.ga K "BadPlace") (He.ma K (He.ga K "BadPlace") "__init__") ["place"] := einiB_ok (Bool.and_eq_true_iff.mp (Bool.and_eq_true_iff.mp (Bool.and_eq_true_iff.mp (Bool.and_eq_true_iff.mp T.exs).2).2).2).1
theorem eini_BadTable (T : HD K mg) : EIni K (He.ga K "BadTable") (He.ma K (He.ga K "BadTable") "__init__") ["row"] := einiB_ok (Bool.and_eq_true_iff.mp (Bool.and_eq_true_iff.mp (Bool.and_eq_true_iff.mp (Bool.and_eq_true_iff.mp T.exs).2).2).2).2
theorem fd_law_store (T : HD K mg) : FunD K "_law_store" "_law_store" (L2.defArgs s_law_store) (L2.defBody s_law_store) (L2.defScope s_law_store) [] [] (He.ga K "_law_store") (fdOf K (He.ga K "_law_store")) := T.def_ 0
theorem sc_law_store : FnScope ["script", "cell"] ["script"] (L2.defScope s_law_store) := ⟨rfl, rfl, rfl, by decide +kernel, rfl, by decide +kernel, by decide +kernel⟩
theorem bi_law_store (T : HD K mg) : Binds K (fdOf K (He.ga K "_law_store")) ["script"] [] := (fd_law_store T).bindsN fun _ _ _ _ _ _ us hl => match us, hl with | [_], _ => rfl
theorem ok_law_store (T : HD K mg) : FnOk P w K mg base (L2N.CX P w) 1 (He.ga K "_law_store") (fdOf K (He.ga K "_law_store")) ["script"] (spF (kx K) 1 m_law_store) := by
  have nd := sc_law_store.nd
  exact def_ok (G := kx K) (j := 0) (k := 1) (m := b_law_store) (fd_law_store T) sc_law_store rfl rfl fun cdv A outer s H E hr => (qss_one (qs_ret (qo_lst (qa_cons (qe_frz (qo_lc (own := [("cell", 1)]) rfl (tgi_nm (by decide)) rfl nd (qi_seq rfl (qe_frz (qo_sl rfl (qe_var 0 (pv 0)) qp_none (qp_some qe_int)))) (blkOk_by (own := [("cell", 1)]) (by kernel_rfl)) (fun _ _ _ _ _ => (qg_nm 1 nd rfl (by first | exact Or.inl rfl | exact Or.inr rfl))) (fun _ _ _ _ _ => qts_nil) (fun _ _ _ _ _ => (qe_intc rfl (T.free 0) (qa_cons (qe_var 1 (pv 1)) qa_nil))))) (qa_cons qe_int (qa_cons qe_int (qa_cons qe_int (qa_cons qe_int (qa_cons qe_int (qa_cons qe_int qa_nil))))))))))
theorem fd_law_mix (T : HD K mg) : FunD K "_law_mix" "_law_mix" (L2.defArgs s_law_mix) (L2.defBody s_law_mix) (L2.defScope s_law_mix) [] [] (He.ga K "_law_mix") (fdOf K (He.ga K "_law_mix")) := T.def_ 1
theorem sc_law_mix : FnScope ["number", "turn", "once"] ["number", "turn"] (L2.defScope s_law_mix) := ⟨rfl, rfl, rfl, by decide +kernel, rfl, by decide +kernel, by decide +kernel⟩
theorem bi_law_mix (T : HD K mg) : Binds K (fdOf K (He.ga K "_law_mix")) ["number", "turn"] [] := (fd_law_mix T).bindsN fun _ _ _ _ _ _ us hl => match us, hl with | [_, _], _ => rfl
theorem ok_law_mix (T : HD K mg) : FnOk P w K mg base (L2N.CX P w) 1 (He.ga K "_law_mix") (fdOf K (He.ga K "_law_mix")) ["number", "turn"] (spF (kx K) 2 m_law_mix) := by
  have nd := sc_law_mix.nd
  exact def_ok (G := kx K) (j := 0) (k := 1) (m := b_law_mix) (fd_law_mix T) sc_law_mix rfl rfl fun cdv A outer s H E hr => (qss_cons (qs_set 2 nd rfl (by first | exact Or.inl rfl | exact Or.inr rfl) (qo_fro (q_bin backD op_mod s_mod (qe_intc rfl (T.free 0) (qa_cons (qe_frz (qo_add rfl (qe_frz (qo_mul (q_bin backD op_mod s_mod (qe_intc rfl (T.free 0) (qa_cons (qe_var 0 (pv 0)) qa_nil)) (q_bin backD op_sub s_sub (q_bin backD op_pow s_pow qe_int qe_int) qe_int)) qe_int)) (qe_frz (qo_mul (qe_intc rfl (T.free 0) (qa_cons (qe_var 1 (pv 1)) qa_nil)) qe_int)))) qa_nil)) (q_bin backD op_sub s_sub (q_bin backD op_pow s_pow qe_int qe_int) qe_int)))) (qss_one (qs_ret (qo_fro (q_bin backD op_mod s_mod (qe_intc rfl (T.free 0) (qa_cons (qe_frz (qo_add rfl (qe_frz (qo_add rfl (qe_frz (qo_mul (qe_var 2 (pv 2)) (qe_var 2 (pv 2)))) (qe_frz (qo_mul qe_int (qe_var 2 (pv 2)))))) (q_bin backD op_fdivW s_fdiv (qe_var 2 (pv 2)) qe_int))) qa_nil)) qe_int)))))
theorem fd_law_take (T : HD K mg) : FunD K "_law_take" "_law_take" (L2.defArgs s_law_take) (L2.defBody s_law_take) (L2.defScope s_law_take) [] [] (He.ga K "_law_take") (fdOf K (He.ga K "_law_take")) := T.def_ 2
theorem sc_law_take : FnScope ["store", "many", "cell", "digit"] ["store", "many"] (L2.defScope s_law_take) := ⟨rfl, rfl, rfl, by decide +kernel, rfl, by decide +kernel, by decide +kernel⟩
theorem bi_law_take (T : HD K mg) : Binds K (fdOf K (He.ga K "_law_take")) ["store", "many"] [] := (fd_law_take T).bindsN fun _ _ _ _ _ _ us hl => match us, hl with | [_, _], _ => rfl
theorem ok_law_take (T : HD K mg) : FnOk P w K mg base (L2N.CX P w) 2 (He.ga K "_law_take") (fdOf K (He.ga K "_law_take")) ["store", "many"] (spF (kx K) 2 m_law_take) := by
  have nd := sc_law_take.nd
  exact def_ok (G := kx K) (j := 1) (k := 2) (m := b_law_take) (fd_law_take T) sc_law_take rfl rfl fun cdv A outer s H E hr => (qss_cons (qs_if (qt_cmp op_lt s_lt (qe_var 1 (pv 1)) qe_int (nomark _)) (qss_one (qs_ret (qo_fro qe_int))) qss_nil) (qss_cons (qs_if (qt_w (qw_and (qt_cmp op_lt s_lt (qe_ixO 0 (pv 0) qe_int) qe_int (nomark _)) (qw_and (qt_cmp op_lt s_lt (qe_ixO 0 (pv 0) qe_int) qe_int (nomark _)) (qw_and1 (qt_cmp op_lt s_lt (qe_ixO 0 (pv 0) qe_int) (qe_len rfl rfl (T.free 1) (qa_cons (qe_ixO 0 (pv 0) qe_int) qa_nil)) (nomark _)))))) (qss_cons (qs_set 2 nd rfl (by first | exact Or.inl rfl | exact Or.inr rfl) (qo_fro (qe_ix rfl (qe_ixO 0 (pv 0) qe_int) (qe_ixO 0 (pv 0) qe_int)))) (qss_cons (qs_putO 0 (qe_frz (qo_add rfl (qe_ixO 0 (pv 0) qe_int) qe_int)) (pv 0) qe_int) (qss_cons (qs_putO 0 (qe_frz (qo_call (n := 2) (ok_law_mix T) (hr.mono (by decide)) rfl (T.glo 2) (fd_law_mix T).kp (bi_law_mix T) (fun σ => L2N.passAt (L2N.takes_of rfl rfl rfl rfl) σ) (qag_v (qe_var 2 (pv 2)) (qag_v (qe_frz (qo_add rfl (qe_ixO 0 (pv 0) qe_int) qe_int)) qag_nil)) (len_agV (len_agV (fun _ _ _ h => len_agNil h))))) (pv 0) qe_int) (qss_one (qs_if (qt_cmp op_ge s_ge (qe_var 2 (pv 2)) (q_bin backD op_pow s_pow qe_int qe_int) (nomark _)) (qss_one (qs_putO 0 (qe_var 2 (pv 2)) (pv 0) qe_int)) (qss_cons (qs_putO 0 (qe_var 2 (pv 2)) (pv 0) qe_int) (qss_one (qs_putO 0 qe_int (pv 0) qe_int)))))))) qss_nil) (qss_cons (qs_if (qt_cmp op_gt s_gt (qe_ixO 0 (pv 0) qe_int) qe_int (nomark _)) (qss_cons (qs_set 3 nd rfl (by first | exact Or.inl rfl | exact Or.inr rfl) (qo_fro (q_bin backD op_mod s_mod (qe_intc rfl (T.free 0) (qa_cons (qe_ixO 0 (pv 0) qe_int) qa_nil)) (qe_var 1 (pv 1))))) (qss_cons (qs_putO 0 (q_bin backD op_fdivW s_fdiv (qe_ixO 0 (pv 0) qe_int) (qe_var 1 (pv 1))) (pv 0) qe_int) (qss_one (qs_ret (qo_fro (qe_var 3 (pv 3))))))) qss_nil) (qss_cons (qs_putO 0 (qe_frz (qo_add rfl (qe_ixO 0 (pv 0) qe_int) qe_int)) (pv 0) qe_int) (qss_cons (qs_if (qt_cmp op_gt s_gt (qe_ixO 0 (pv 0) qe_int) qe_int (nomark _)) (qss_cons (qs_putO 0 (q_bin backD op_sub s_sub (qe_ixO 0 (pv 0) qe_int) qe_int) (pv 0) qe_int) (qss_one (qs_ret (qo_fro (q_bin backD op_mod s_mod (qe_intc rfl (T.free 0) (qa_cons (q_bin backD op_fdivW s_fdiv (qe_frz (qo_call (n := 2) (ok_law_mix T) (hr.mono (by decide)) rfl (T.glo 2) (fd_law_mix T).kp (bi_law_mix T) (fun σ => L2N.passAt (L2N.takes_of rfl rfl rfl rfl) σ) (qag_v (qe_ixO 0 (pv 0) qe_int) (qag_v (qe_ixO 0 (pv 0) qe_int) qag_nil)) (len_agV (len_agV (fun _ _ _ h => len_agNil h))))) qe_int) qa_nil)) (qe_var 1 (pv 1))))))) qss_nil) (qss_one (qs_ret (qo_fro (q_bin backD op_mod s_mod (qe_intc rfl (T.free 0) (qa_cons (q_bin backD op_fdivW s_fdiv (qe_frz (qo_call (n := 2) (ok_law_mix T) (hr.mono (by decide)) rfl (T.glo 2) (fd_law_mix T).kp (bi_law_mix T) (fun σ => L2N.passAt (L2N.takes_of rfl rfl rfl rfl) σ) (qag_v (qe_ixO 0 (pv 0) qe_int) (qag_v (qe_ixO 0 (pv 0) qe_int) qag_nil)) (len_agV (len_agV (fun _ _ _ h => len_agNil h))))) qe_int) qa_nil)) (qe_var 1 (pv 1)))))))))))
theorem fd_law_side (T : HD K mg) : FunD K "_law_side" "_law_side" (L2.defArgs s_law_side) (L2.defBody s_law_side) (L2.defScope s_law_side) [] [] (He.ga K "_law_side") (fdOf K (He.ga K "_law_side")) := T.def_ 3
theorem sc_law_side : FnScope ["store", "most", "kind"] ["store", "most"] (L2.defScope s_law_side) := ⟨rfl, rfl, rfl, by decide +kernel, rfl, by decide +kernel, by decide +kernel⟩
theorem bi_law_side (T : HD K mg) : Binds K (fdOf K (He.ga K "_law_side")) ["store", "most"] [] := (fd_law_side T).bindsN fun _ _ _ _ _ _ us hl => match us, hl with | [_, _], _ => rfl
theorem ok_law_side (T : HD K mg) : FnOk P w K mg base (L2N.CX P w) 3 (He.ga K "_law_side") (fdOf K (He.ga K "_law_side")) ["store", "most"] (spF (kx K) 2 m_law_side) := by
  have nd := sc_law_side.nd
  exact def_ok (G := kx K) (j := 2) (k := 1) (m := b_law_side) (fd_law_side T) sc_law_side rfl rfl fun cdv A outer s H E hr => (qss_cons (qs_set 2 nd rfl (by first | exact Or.inl rfl | exact Or.inr rfl) (qo_call (n := 2) (ok_law_take T) (hr.mono (by decide)) rfl (T.glo 3) (fd_law_take T).kp (bi_law_take T) (fun σ => L2N.passAt (L2N.takes_of rfl rfl rfl rfl) σ) (qag_io 0 (pv 0) (qag_v qe_int qag_nil)) (len_agIo (len_agV (fun _ _ _ h => len_agNil h))))) (qss_cons (qs_if (qt_cmp (op_eqG hr.units) (s_eq rfl) (qe_var 2 (pv 2)) qe_int (nomark _)) (qss_one (qs_ret (qo_fro (qe_var 1 (pv 1))))) qss_nil) (qss_cons (qs_if (qt_cmp (op_eqG hr.units) (s_eq rfl) (qe_var 2 (pv 2)) qe_int (nomark _)) (qss_one (qs_ret (qo_call (n := 2) (ok_law_take T) (hr.mono (by decide)) rfl (T.glo 3) (fd_law_take T).kp (bi_law_take T) (fun σ => L2N.passAt (L2N.takes_of rfl rfl rfl rfl) σ) (qag_io 0 (pv 0) (qag_v (qe_frz (qo_add rfl (qe_var 1 (pv 1)) qe_int)) qag_nil)) (len_agIo (len_agV (fun _ _ _ h => len_agNil h)))))) qss_nil) (qss_one (qs_ret (qo_call (n := 2) (ok_law_take T) (hr.mono (by decide)) rfl (T.glo 3) (fd_law_take T).kp (bi_law_take T) (fun σ => L2N.passAt (L2N.takes_of rfl rfl rfl rfl) σ) (qag_io 0 (pv 0) (qag_v (qe_frz (qo_add rfl (qe_min2 rfl rfl (T.free 4) (qa_cons (qe_var 1 (pv 1)) (qa_cons qe_int qa_nil))) qe_int)) qag_nil)) (len_agIo (len_agV (fun _ _ _ h => len_agNil h)))))))))
theorem fd_law_sizes (T : HD K mg) : FunD K "_law_sizes" "_law_sizes" (L2.defArgs s_law_sizes) (L2.defBody s_law_sizes) (L2.defScope s_law_sizes) [] [] (He.ga K "_law_sizes") (fdOf K (He.ga K "_law_sizes")) := T.def_ 4
theorem sc_law_sizes : FnScope ["store", "most_high", "most_wide", "high"] ["store", "most_high", "most_wide"] (L2.defScope s_law_sizes) := ⟨rfl, rfl, rfl, by decide +kernel, rfl, by decide +kernel, by decide +kernel⟩
theorem bi_law_sizes (T : HD K mg) : Binds K (fdOf K (He.ga K "_law_sizes")) ["store", "most_high", "most_wide"] [] := (fd_law_sizes T).bindsN fun _ _ _ _ _ _ us hl => match us, hl with | [_, _, _], _ => rfl
theorem ok_law_sizes (T : HD K mg) : FnOk P w K mg base (L2N.CX P w) 4 (He.ga K "_law_sizes") (fdOf K (He.ga K "_law_sizes")) ["store", "most_high", "most_wide"] (spF (kx K) 3 m_law_sizes) := by
  have nd := sc_law_sizes.nd
  exact def_ok (G := kx K) (j := 3) (k := 1) (m := b_law_sizes) (fd_law_sizes T) sc_law_sizes rfl rfl fun cdv A outer s H E hr => (qss_cons (qs_set 3 nd rfl (by first | exact Or.inl rfl | exact Or.inr rfl) (qo_call (n := 2) (ok_law_side T) (hr.mono (by decide)) rfl (T.glo 5) (fd_law_side T).kp (bi_law_side T) (fun σ => L2N.passAt (L2N.takes_of rfl rfl rfl rfl) σ) (qag_io 0 (pv 0) (qag_v (qe_var 1 (pv 1)) qag_nil)) (len_agIo (len_agV (fun _ _ _ h => len_agNil h))))) (qss_cons (qs_if (qt_cmp (op_eqG hr.units) (s_eq rfl) (qe_frz (qo_call (n := 2) (ok_law_take T) (hr.mono (by decide)) rfl (T.glo 3) (fd_law_take T).kp (bi_law_take T) (fun σ => L2N.passAt (L2N.takes_of rfl rfl rfl rfl) σ) (qag_io 0 (pv 0) (qag_v qe_int qag_nil)) (len_agIo (len_agV (fun _ _ _ h => len_agNil h))))) qe_int (nomark _)) (qss_one (qs_ret (qo_lst (qa_cons (qe_min2 rfl rfl (T.free 4) (qa_cons (qe_var 3 (pv 3)) (qa_cons (qe_var 2 (pv 2)) qa_nil))) (qa_cons (qe_min2 rfl rfl (T.free 4) (qa_cons (qe_var 3 (pv 3)) (qa_cons (qe_var 2 (pv 2)) qa_nil))) qa_nil))))) qss_nil) (qss_one (qs_ret (qo_lst (qa_cons (qe_var 3 (pv 3)) (qa_cons (qe_frz (qo_call (n := 2) (ok_law_side T) (hr.mono (by decide)) rfl (T.glo 5) (fd_law_side T).kp (bi_law_side T) (fun σ => L2N.passAt (L2N.takes_of rfl rfl rfl rfl) σ) (qag_io 0 (pv 0) (qag_v (qe_var 2 (pv 2)) qag_nil)) (len_agIo (len_agV (fun _ _ _ h => len_agNil h))))) qa_nil)))))))
theorem fd_law_of (T : HD K mg) : FunD K "_law_of" "_law_of" (L2.defArgs s_law_of) (L2.defBody s_law_of) (L2.defScope s_law_of) [] [] (He.ga K "_law_of") (fdOf K (He.ga K "_law_of")) := T.def_ 5
theorem sc_law_of : FnScope ["lots", "wide", "rows", "lot", "k"] ["lots", "wide"] (L2.defScope s_law_of) := ⟨rfl, rfl, rfl, by decide +kernel, rfl, by decide +kernel, by decide +kernel⟩
theorem bi_law_of (T : HD K mg) : Binds K (fdOf K (He.ga K "_law_of")) ["lots", "wide"] [] := (fd_law_of T).bindsN fun _ _ _ _ _ _ us hl => match us, hl with | [_, _], _ => rfl
theorem ok_law_of (T : HD K mg) : FnOk P w K mg base (L2N.CX P w) 1 (He.ga K "_law_of") (fdOf K (He.ga K "_law_of")) ["lots", "wide"] (spF (kx K) 2 m_law_of) := by
  have nd := sc_law_of.nd
  exact def_ok (G := kx K) (j := 0) (k := 3) (m := b_law_of) (fd_law_of T) sc_law_of rfl rfl fun cdv A outer s H E hr => (qss_cons (qs_set 2 nd rfl (by first | exact Or.inl rfl | exact Or.inr rfl) (qo_lst qa_nil)) (qss_cons (qs_for rfl (passes_of rfl) rfl (qi_seq rfl (qe_var 0 (pv 0))) (qg_nm 3 nd rfl (by first | exact Or.inl rfl | exact Or.inr rfl)) (qss_one (qs_expr (qe_mut 2 PySem.F.plainAttrs_list PySem.F.slot_list_append PySem.F.type_list_append mt_append s_append (pv 2) (qa_cons (qe_tuple rfl rfl (T.free 7) (qa_cons (qe_frz (qo_lc (own := [("k", 4)]) rfl (tgi_nm (by decide)) rfl nd (qi_range1 rfl (T.free 6) (qa_cons (qe_var 1 (pv 1)) qa_nil)) (blkOk_by (own := [("k", 4)]) (by kernel_rfl)) (fun _ _ _ _ _ => (qg_nm 4 nd rfl (by first | exact Or.inl rfl | exact Or.inr rfl))) (fun _ _ _ _ _ => qts_nil) (fun _ _ _ _ _ => (q_cmp (op_inG (hu65 hr)) (s_in rfl) (qe_var 4 (pv 4)) (qe_var 3 (pv 3)) rfl)))) qa_nil)) qa_nil))))) (qss_one (qs_ret (qo_fro (qe_tup (qa_cons qe_str (qa_cons (qe_len rfl rfl (T.free 1) (qa_cons (qe_var 2 (pv 2)) qa_nil)) (qa_cons (qe_var 1 (pv 1)) (qa_cons (qe_tuple rfl rfl (T.free 7) (qa_cons (qe_var 2 (pv 2)) qa_nil)) qa_nil))))))))))
theorem fd_law_lot (T : HD K mg) : FunD K "_law_lot" "_law_lot" (L2.defArgs s_law_lot) (L2.defBody s_law_lot) (L2.defScope s_law_lot) [] [] (He.ga K "_law_lot") (fdOf K (He.ga K "_law_lot")) := T.def_ 6
theorem sc_law_lot : FnScope ["store", "limit", "kind", "spot", "k"] ["store", "limit"] (L2.defScope s_law_lot) := ⟨rfl, rfl, rfl, by decide +kernel, rfl, by decide +kernel, by decide +kernel⟩
theorem bi_law_lot (T : HD K mg) : Binds K (fdOf K (He.ga K "_law_lot")) ["store", "limit"] [] := (fd_law_lot T).bindsN fun _ _ _ _ _ _ us hl => match us, hl with | [_, _], _ => rfl
theorem ok_law_lot (T : HD K mg) : FnOk P w K mg base (L2N.CX P w) 3 (He.ga K "_law_lot") (fdOf K (He.ga K "_law_lot")) ["store", "limit"] (spF (kx K) 2 m_law_lot) := by
  have nd := sc_law_lot.nd
  exact def_ok (G := kx K) (j := 2) (k := 3) (m := b_law_lot) (fd_law_lot T) sc_law_lot rfl rfl fun cdv A outer s H E hr => (qss_cons (qs_set 2 nd rfl (by first | exact Or.inl rfl | exact Or.inr rfl) (qo_call (n := 2) (ok_law_take T) (hr.mono (by decide)) rfl (T.glo 3) (fd_law_take T).kp (bi_law_take T) (fun σ => L2N.passAt (L2N.takes_of rfl rfl rfl rfl) σ) (qag_io 0 (pv 0) (qag_v qe_int qag_nil)) (len_agIo (len_agV (fun _ _ _ h => len_agNil h))))) (qss_cons (qs_if (qt_cmp (op_eqG hr.units) (s_eq rfl) (qe_var 2 (pv 2)) qe_int (nomark _)) (qss_one (qs_ret (qo_fro (qe_tup qa_nil)))) qss_nil) (qss_cons (qs_if (qt_cmp (op_eqG hr.units) (s_eq rfl) (qe_var 2 (pv 2)) qe_int (nomark _)) (qss_one (qs_ret (qo_fro (qe_tuple rfl rfl (T.free 7) (qa_cons (qe_frz (qo_lc (own := [("k", 4)]) rfl (tgi_nm (by decide)) rfl nd (qi_range1 rfl (T.free 6) (qa_cons (qe_var 1 (pv 1)) qa_nil)) (blkOk_by (own := [("k", 4)]) (by kernel_rfl)) (fun _ _ _ _ _ => (qg_nm 4 nd rfl (by first | exact Or.inl rfl | exact Or.inr rfl))) (fun _ _ _ _ _ => qts_nil) (fun _ _ _ _ _ => (qe_var 4 (pv 4))))) qa_nil))))) qss_nil) (qss_cons (qs_set 3 nd rfl (by first | exact Or.inl rfl | exact Or.inr rfl) (qo_fro qe_int)) (qss_cons (qs_if (qt_cmp op_lt s_lt (qe_var 2 (pv 2)) qe_int (nomark _)) (qss_one (qs_set 3 nd rfl (by first | exact Or.inl rfl | exact Or.inr rfl) (qo_call (n := 2) (ok_law_take T) (hr.mono (by decide)) rfl (T.glo 3) (fd_law_take T).kp (bi_law_take T) (fun σ => L2N.passAt (L2N.takes_of rfl rfl rfl rfl) σ) (qag_io 0 (pv 0) (qag_v (qe_var 1 (pv 1)) qag_nil)) (len_agIo (len_agV (fun _ _ _ h => len_agNil h)))))) qss_nil) (qss_cons (qs_if (qt_cmp (op_eqG hr.units) (s_eq rfl) (qe_var 2 (pv 2)) qe_int (nomark _)) (qss_one (qs_ret (qo_fro (qe_tuple rfl rfl (T.free 7) (qa_cons (qe_frz (qo_lc (own := [("k", 4)]) rfl (tgi_nm (by decide)) rfl nd (qi_range1 rfl (T.free 6) (qa_cons (qe_var 1 (pv 1)) qa_nil)) (blkOk_by (own := [("k", 4)]) (by kernel_rfl)) (fun _ _ _ _ _ => (qg_nm 4 nd rfl (by first | exact Or.inl rfl | exact Or.inr rfl))) (fun _ _ _ _ _ => (qts_one (qt_cmp (op_eqG hr.units) (s_eq rfl) (qe_var 4 (pv 4)) (qe_var 3 (pv 3)) (nomark _)))) (fun _ _ _ _ _ => (qe_var 4 (pv 4))))) qa_nil))))) qss_nil) (qss_cons (qs_if (qt_cmp (op_eqG hr.units) (s_eq rfl) (qe_var 2 (pv 2)) qe_int (nomark _)) (qss_one (qs_ret (qo_fro (qe_tuple rfl rfl (T.free 7) (qa_cons (qe_frz (qo_lc (own := [("k", 4)]) rfl (tgi_nm (by decide)) rfl nd (qi_range1 rfl (T.free 6) (qa_cons (qe_var 1 (pv 1)) qa_nil)) (blkOk_by (own := [("k", 4)]) (by kernel_rfl)) (fun _ _ _ _ _ => (qg_nm 4 nd rfl (by first | exact Or.inl rfl | exact Or.inr rfl))) (fun _ _ _ _ _ => (qts_one (qt_cmp (op_neG hr.units) (s_ne rfl) (qe_var 4 (pv 4)) (qe_var 3 (pv 3)) (nomark _)))) (fun _ _ _ _ _ => (qe_var 4 (pv 4))))) qa_nil))))) qss_nil) (qss_one (qs_ret (qo_fro (qe_tuple rfl rfl (T.free 7) (qa_cons (qe_frz (qo_lc (own := [("k", 4)]) rfl (tgi_nm (by decide)) rfl nd (qi_range1 rfl (T.free 6) (qa_cons (qe_var 1 (pv 1)) qa_nil)) (blkOk_by (own := [("k", 4)]) (by kernel_rfl)) (fun _ _ _ _ _ => (qg_nm 4 nd rfl (by first | exact Or.inl rfl | exact Or.inr rfl))) (fun _ _ _ _ _ => (qts_one (qt_cmp (op_eqG hr.units) (s_eq rfl) (qe_frz (qo_call (n := 2) (ok_law_take T) (hr.mono (by decide)) rfl (T.glo 3) (fd_law_take T).kp (bi_law_take T) pass_w0 (qag_io 0 (pv 0) (qag_v qe_int qag_nil)) (len_agIo (len_agV (fun _ _ _ h => len_agNil h))))) qe_int (nomark _)))) (fun _ _ _ _ _ => (qe_var 4 (pv 4))))) qa_nil))))))))))))
theorem fd_law_pick (T : HD K mg) : FunD K "_law_pick" "_law_pick" (L2.defArgs s_law_pick) (L2.defBody s_law_pick) (L2.defScope s_law_pick) [] [] (He.ga K "_law_pick") (fdOf K (He.ga K "_law_pick")) := T.def_ 7
theorem sc_law_pick : FnScope ["store", "things"] ["store", "things"] (L2.defScope s_law_pick) := ⟨rfl, rfl, rfl, by decide +kernel, rfl, by decide +kernel, by decide +kernel⟩
theorem bi_law_pick (T : HD K mg) : Binds K (fdOf K (He.ga K "_law_pick")) ["store", "things"] [] := (fd_law_pick T).bindsN fun _ _ _ _ _ _ us hl => match us, hl with | [_, _], _ => rfl
theorem ok_law_pick (T : HD K mg) : FnOk P w K mg base (L2N.CX P w) 3 (He.ga K "_law_pick") (fdOf K (He.ga K "_law_pick")) ["store", "things"] (spF (kx K) 2 m_law_pick) := by
  have nd := sc_law_pick.nd
  exact def_ok (G := kx K) (j := 2) (k := 0) (m := b_law_pick) (fd_law_pick T) sc_law_pick rfl rfl fun cdv A outer s H E hr => (qss_cons (qs_if (qt_cmp (op_eqG hr.units) (s_eq rfl) (qe_len rfl rfl (T.free 1) (qa_cons (qe_var 1 (pv 1)) qa_nil)) qe_int (nomark _)) (qss_one (qs_ret (qo_fro qe_non))) qss_nil) (qss_one (qs_ret (qo_fro (qe_ix rfl (qe_var 1 (pv 1)) (qe_frz (qo_call (n := 2) (ok_law_take T) (hr.mono (by decide)) rfl (T.glo 3) (fd_law_take T).kp (bi_law_take T) (fun σ => L2N.passAt (L2N.takes_of rfl rfl rfl rfl) σ) (qag_io 0 (pv 0) (qag_v (qe_len rfl rfl (T.free 1) (qa_cons (qe_var 1 (pv 1)) qa_nil)) qag_nil)) (len_agIo (len_agV (fun _ _ _ h => len_agNil h))))))))))
theorem fd_law_join (T : HD K mg) : FunD K "_law_join" "_law_join" (L2.defArgs s_law_join) (L2.defBody s_law_join) (L2.defScope s_law_join) [] [] (He.ga K "_law_join") (fdOf K (He.ga K "_law_join")) := T.def_ 8
theorem sc_law_join : FnScope ["lots", "out", "k", "lot"] ["lots"] (L2.defScope s_law_join) := ⟨rfl, rfl, rfl, by decide +kernel, rfl, by decide +kernel, by decide +kernel⟩
theorem bi_law_join (T : HD K mg) : Binds K (fdOf K (He.ga K "_law_join")) ["lots"] [] := (fd_law_join T).bindsN fun _ _ _ _ _ _ us hl => match us, hl with | [_], _ => rfl
theorem ok_law_join (T : HD K mg) : FnOk P w K mg base (L2N.CX P w) 1 (He.ga K "_law_join") (fdOf K (He.ga K "_law_join")) ["lots"] (spF (kx K) 1 m_law_join) := by
  have nd := sc_law_join.nd
  exact def_ok (G := kx K) (j := 0) (k := 3) (m := b_law_join) (fd_law_join T) sc_law_join rfl rfl fun cdv A outer s H E hr => (qss_cons (qs_set 1 nd rfl (by first | exact Or.inl rfl | exact Or.inr rfl) (qo_lst qa_nil)) (qss_cons (qs_for rfl (passes_of rfl) rfl (qi_range1 rfl (T.free 6) (qa_cons qe_int qa_nil)) (qg_nm 2 nd rfl (by first | exact Or.inl rfl | exact Or.inr rfl)) (qss_one (qs_if (qt_tru rfl (qe_any rfl rfl rfl (T.free 8) (qa_cons (qe_frz (qo_lc (own := [("lot", 3)]) rfl (tgi_nm (by decide)) rfl nd (qi_seq rfl (qe_var 0 (pv 0))) (blkOk_by (own := [("lot", 3)]) (by kernel_rfl)) (fun _ _ _ _ _ => (qg_nm 3 nd rfl (by first | exact Or.inl rfl | exact Or.inr rfl))) (fun _ _ _ _ _ => qts_nil) (fun _ _ _ _ _ => (q_cmp (op_inG (hu65 hr)) (s_in rfl) (qe_var 2 (pv 2)) (qe_var 3 (pv 3)) rfl)))) qa_nil)) (by intro _; rfl)) (qss_one (qs_expr (qe_mut 1 PySem.F.plainAttrs_list PySem.F.slot_list_append PySem.F.type_list_append mt_append s_append (pv 1) (qa_cons (qe_var 2 (pv 2)) qa_nil)))) qss_nil))) (qss_one (qs_ret (qo_fro (qe_tuple rfl rfl (T.free 7) (qa_cons (qe_var 1 (pv 1)) qa_nil)))))))
theorem fd_law_twin (T : HD K mg) : FunD K "_law_twin" "_law_twin" (L2.defArgs s_law_twin) (L2.defBody s_law_twin) (L2.defScope s_law_twin) [] [] (He.ga K "_law_twin") (fdOf K (He.ga K "_law_twin")) := T.def_ 9
theorem sc_law_twin : FnScope ["store", "high", "wide", "base", "lots", "i", "kind", "lot", "k"] ["store", "high", "wide"] (L2.defScope s_law_twin) := ⟨rfl, rfl, rfl, by decide +kernel, rfl, by decide +kernel, by decide +kernel⟩
theorem bi_law_twin (T : HD K mg) : Binds K (fdOf K (He.ga K "_law_twin")) ["store", "high", "wide"] [] := (fd_law_twin T).bindsN fun _ _ _ _ _ _ us hl => match us, hl with | [_, _, _], _ => rfl
theorem ok_law_twin (T : HD K mg) : FnOk P w K mg base (L2N.CX P w) 4 (He.ga K "_law_twin") (fdOf K (He.ga K "_law_twin")) ["store", "high", "wide"] (spF (kx K) 3 m_law_twin) := by
  have nd := sc_law_twin.nd
  exact def_ok (G := kx K) (j := 3) (k := 6) (m := b_law_twin) (fd_law_twin T) sc_law_twin rfl rfl fun cdv A outer s H E hr => (qss_cons (qs_setLc (own := [("k", 8)]) rfl 3 (tgi_nm (by decide)) rfl nd rfl rfl (sw_true rfl rfl rfl (by decide +kernel)) (qi_range1 rfl (T.free 6) (qa_cons (qe_frz (qo_add rfl qe_int (qe_frz (qo_call (n := 2) (ok_law_take T) (hr.mono (by decide)) rfl (T.glo 3) (fd_law_take T).kp (bi_law_take T) (fun σ => L2N.passAt (L2N.takes_of rfl rfl rfl rfl) σ) (qag_io 0 (pv 0) (qag_v qe_int qag_nil)) (len_agIo (len_agV (fun _ _ _ h => len_agNil h))))))) qa_nil)) (blkOk_by (own := [("k", 8)]) (by kernel_rfl)) (fun _ _ _ _ _ => (qg_nm 8 nd rfl (by first | exact Or.inl rfl | exact Or.inr rfl))) (fun _ _ _ _ _ => qts_nil) (fun _ _ _ _ _ => (qe_frz (qo_call (n := 2) (ok_law_lot T) (hr.mono (by decide)) rfl (T.glo 9) (fd_law_lot T).kp (bi_law_lot T) pass_w0 (qag_io 0 (pv 0) (qag_v (qe_var 2 (pv 2)) qag_nil)) (len_agIo (len_agV (fun _ _ _ h => len_agNil h))))))) (qss_cons (qs_set 4 nd rfl (by first | exact Or.inl rfl | exact Or.inr rfl) (qo_lst qa_nil)) (qss_cons (qs_for rfl (passes_of rfl) rfl (qi_range1 rfl (T.free 6) (qa_cons (qe_var 1 (pv 1)) qa_nil)) (qg_nm 5 nd rfl (by first | exact Or.inl rfl | exact Or.inr rfl)) (qss_cons (qs_set 6 nd rfl (by first | exact Or.inl rfl | exact Or.inr rfl) (qo_call (n := 2) (ok_law_take T) (hr.mono (by decide)) rfl (T.glo 3) (fd_law_take T).kp (bi_law_take T) (fun σ => L2N.passAt (L2N.takes_of rfl rfl rfl rfl) σ) (qag_io 0 (pv 0) (qag_v qe_int qag_nil)) (len_agIo (len_agV (fun _ _ _ h => len_agNil h))))) (qss_cons (qs_set 7 nd rfl (by first | exact Or.inl rfl | exact Or.inr rfl) (qo_call (n := 2) (ok_law_pick T) (hr.mono (by decide)) rfl (T.glo 10) (fd_law_pick T).kp (bi_law_pick T) (fun σ => L2N.passAt (L2N.takes_of rfl rfl rfl rfl) σ) (qag_io 0 (pv 0) (qag_v (qe_var 3 (pv 3)) qag_nil)) (len_agIo (len_agV (fun _ _ _ h => len_agNil h))))) (qss_cons (qs_if (qt_cmp (op_eqG hr.units) (s_eq rfl) (qe_var 6 (pv 6)) qe_int (nomark _)) (qss_one (qs_set 7 nd rfl (by first | exact Or.inl rfl | exact Or.inr rfl) (qo_call (n := 1) (ok_law_join T) (hr.mono (by decide)) rfl (T.glo 11) (fd_law_join T).kp (bi_law_join T) (fun σ => L2N.passAt (L2N.takes_of rfl rfl rfl rfl) σ) (qag_v (qe_frz (qo_lst (qa_cons (qe_var 7 (pv 7)) (qa_cons (qe_frz (qo_call (n := 2) (ok_law_pick T) (hr.mono (by decide)) rfl (T.glo 10) (fd_law_pick T).kp (bi_law_pick T) (fun σ => L2N.passAt (L2N.takes_of rfl rfl rfl rfl) σ) (qag_io 0 (pv 0) (qag_v (qe_var 3 (pv 3)) qag_nil)) (len_agIo (len_agV (fun _ _ _ h => len_agNil h))))) qa_nil)))) qag_nil) (len_agV (fun _ _ _ h => len_agNil h))))) qss_nil) (qss_cons (qs_if (qt_w (qw_and (qt_cmp (op_eqG hr.units) (s_eq rfl) (qe_var 6 (pv 6)) qe_int (nomark _)) (qw_and1 (qt_cmp (op_eqG hr.units) (s_eq rfl) (qe_frz (qo_call (n := 2) (ok_law_take T) (hr.mono (by decide)) rfl (T.glo 3) (fd_law_take T).kp (bi_law_take T) (fun σ => L2N.passAt (L2N.takes_of rfl rfl rfl rfl) σ) (qag_io 0 (pv 0) (qag_v qe_int qag_nil)) (len_agIo (len_agV (fun _ _ _ h => len_agNil h))))) qe_int (nomark _))))) (qss_one (qs_set 7 nd rfl (by first | exact Or.inl rfl | exact Or.inr rfl) (qo_fro (qe_tup qa_nil)))) qss_nil) (qss_one (qs_expr (qe_mut 4 PySem.F.plainAttrs_list PySem.F.slot_list_append PySem.F.type_list_append mt_append s_append (pv 4) (qa_cons (qe_var 7 (pv 7)) qa_nil))))))))) (qss_one (qs_ret (qo_call (n := 2) (ok_law_of T) (hr.mono (by decide)) rfl (T.glo 12) (fd_law_of T).kp (bi_law_of T) (fun σ => L2N.passAt (L2N.takes_of rfl rfl rfl rfl) σ) (qag_v (qe_var 4 (pv 4)) (qag_v (qe_var 2 (pv 2)) qag_nil)) (len_agV (len_agV (fun _ _ _ h => len_agNil h)))))))))
theorem fd_law_turn (T : HD K mg) : FunD K "_law_turn" "_law_turn" (L2.defArgs s_law_turn) (L2.defBody s_law_turn) (L2.defScope s_law_turn) [] [] (He.ga K "_law_turn") (fdOf K (He.ga K "_law_turn")) := T.def_ 10
theorem sc_law_turn : FnScope ["grid", "rows", "k", "row"] ["grid"] (L2.defScope s_law_turn) := ⟨rfl, rfl, rfl, by decide +kernel, rfl, by decide +kernel, by decide +kernel⟩
theorem bi_law_turn (T : HD K mg) : Binds K (fdOf K (He.ga K "_law_turn")) ["grid"] [] := (fd_law_turn T).bindsN fun _ _ _ _ _ _ us hl => match us, hl with | [_], _ => rfl
theorem ok_law_turn (T : HD K mg) : FnOk P w K mg base (L2N.CX P w) 1 (He.ga K "_law_turn") (fdOf K (He.ga K "_law_turn")) ["grid"] (spF (kx K) 1 m_law_turn) := by
  have nd := sc_law_turn.nd
  exact def_ok (G := kx K) (j := 0) (k := 3) (m := b_law_turn) (fd_law_turn T) sc_law_turn rfl rfl fun cdv A outer s H E hr => (qss_cons (qs_set 1 nd rfl (by first | exact Or.inl rfl | exact Or.inr rfl) (qo_lst qa_nil)) (qss_cons (qs_for rfl (passes_of rfl) rfl (qi_range1 rfl (T.free 6) (qa_cons (qe_ix rfl (qe_var 0 (pv 0)) qe_int) qa_nil)) (qg_nm 2 nd rfl (by first | exact Or.inl rfl | exact Or.inr rfl)) (qss_one (qs_expr (qe_mut 1 PySem.F.plainAttrs_list PySem.F.slot_list_append PySem.F.type_list_append mt_append s_append (pv 1) (qa_cons (qe_tuple rfl rfl (T.free 7) (qa_cons (qe_frz (qo_lc (own := [("row", 3)]) rfl (tgi_nm (by decide)) rfl nd (qi_seq rfl (qe_ix rfl (qe_var 0 (pv 0)) qe_int)) (blkOk_by (own := [("row", 3)]) (by kernel_rfl)) (fun _ _ _ _ _ => (qg_nm 3 nd rfl (by first | exact Or.inl rfl | exact Or.inr rfl))) (fun _ _ _ _ _ => qts_nil) (fun _ _ _ _ _ => (qe_ix rfl (qe_var 3 (pv 3)) (qe_var 2 (pv 2)))))) qa_nil)) qa_nil))))) (qss_one (qs_ret (qo_fro (qe_tup (qa_cons qe_str (qa_cons (qe_ix rfl (qe_var 0 (pv 0)) qe_int) (qa_cons (qe_ix rfl (qe_var 0 (pv 0)) qe_int) (qa_cons (qe_tuple rfl rfl (T.free 7) (qa_cons (qe_var 1 (pv 1)) qa_nil)) qa_nil))))))))))
theorem fd_law_shuffle (T : HD K mg) : FunD K "_law_shuffle" "_law_shuffle" (L2.defArgs s_law_shuffle) (L2.defBody s_law_shuffle) (L2.defScope s_law_shuffle) [] [] (He.ga K "_law_shuffle") (fdOf K (He.ga K "_law_shuffle")) := T.def_ 11
theorem sc_law_shuffle : FnScope ["store", "things", "left", "out", "k", "one"] ["store", "things"] (L2.defScope s_law_shuffle) := ⟨rfl, rfl, rfl, by decide +kernel, rfl, by decide +kernel, by decide +kernel⟩
theorem bi_law_shuffle (T : HD K mg) : Binds K (fdOf K (He.ga K "_law_shuffle")) ["store", "things"] [] := (fd_law_shuffle T).bindsN fun _ _ _ _ _ _ us hl => match us, hl with | [_, _], _ => rfl
theorem ok_law_shuffle (T : HD K mg) : FnOk P w K mg base (L2N.CX P w) 3 (He.ga K "_law_shuffle") (fdOf K (He.ga K "_law_shuffle")) ["store", "things"] (spF (kx K) 2 m_law_shuffle) := by
  have nd := sc_law_shuffle.nd
  exact def_ok (G := kx K) (j := 2) (k := 4) (m := b_law_shuffle) (fd_law_shuffle T) sc_law_shuffle rfl rfl fun cdv A outer s H E hr => (qss_cons (qs_setLc (own := [("one", 5)]) rfl 2 (tgi_nm (by decide)) rfl nd rfl rfl (sw_true rfl rfl rfl (by decide +kernel)) (qi_seq rfl (qe_var 1 (pv 1))) (blkOk_by (own := [("one", 5)]) (by kernel_rfl)) (fun _ _ _ _ _ => (qg_nm 5 nd rfl (by first | exact Or.inl rfl | exact Or.inr rfl))) (fun _ _ _ _ _ => qts_nil) (fun _ _ _ _ _ => (qe_var 5 (pv 5)))) (qss_cons (qs_set 3 nd rfl (by first | exact Or.inl rfl | exact Or.inr rfl) (qo_lst qa_nil)) (qss_cons (qs_for rfl (passes_of rfl) rfl (qi_range1 rfl (T.free 6) (qa_cons (qe_len rfl rfl (T.free 1) (qa_cons (qe_var 1 (pv 1)) qa_nil)) qa_nil)) (qg_nm 4 nd rfl (by first | exact Or.inl rfl | exact Or.inr rfl)) (qss_one (qs_expr (qe_mut 3 PySem.F.plainAttrs_list PySem.F.slot_list_append PySem.F.type_list_append mt_append s_append (pv 3) (qa_cons (qe_mut 2 PySem.F.plainAttrs_list PySem.F.slot_list_pop PySem.F.type_list_pop mt_popAt s_pop1 (pv 2) (qa_cons (qe_frz (qo_call (n := 2) (ok_law_take T) (hr.mono (by decide)) rfl (T.glo 3) (fd_law_take T).kp (bi_law_take T) (fun σ => L2N.passAt (L2N.takes_of rfl rfl rfl rfl) σ) (qag_io 0 (pv 0) (qag_v (qe_lend [2] (qe_len rfl rfl (T.free 1) (qa_cons (qe_var 2 (pv 2)) qa_nil))) qag_nil)) (len_agIo (len_agV (fun _ _ _ h => len_agNil h))))) qa_nil)) qa_nil))))) (qss_one (qs_retVar 3 (pv 3))))))
theorem fd_law_units (T : HD K mg) : FunD K "_law_units" "_law_units" (L2.defArgs s_law_units) (L2.defBody s_law_units) (L2.defScope s_law_units) [] [] (He.ga K "_law_units") (fdOf K (He.ga K "_law_units")) := T.def_ 12
theorem sc_law_units : FnScope ["store", "many", "many_high", "places", "lots", "j", "k"] ["store", "many", "many_high"] (L2.defScope s_law_units) := ⟨rfl, rfl, rfl, by decide +kernel, rfl, by decide +kernel, by decide +kernel⟩
theorem bi_law_units (T : HD K mg) : Binds K (fdOf K (He.ga K "_law_units")) ["store", "many", "many_high"] [] := (fd_law_units T).bindsN fun _ _ _ _ _ _ us hl => match us, hl with | [_, _, _], _ => rfl
theorem ok_law_units (T : HD K mg) : FnOk P w K mg base (L2N.CX P w) 4 (He.ga K "_law_units") (fdOf K (He.ga K "_law_units")) ["store", "many", "many_high"] (spF (kx K) 3 m_law_units) := by
  have nd := sc_law_units.nd
  exact def_ok (G := kx K) (j := 3) (k := 4) (m := b_law_units) (fd_law_units T) sc_law_units rfl rfl fun cdv A outer s H E hr => (qss_cons (qs_set 3 nd rfl (by first | exact Or.inl rfl | exact Or.inr rfl) (qo_sl rfl (qe_frz (qo_call (n := 2) (ok_law_shuffle T) (hr.mono (by decide)) rfl (T.glo 13) (fd_law_shuffle T).kp (bi_law_shuffle T) (fun σ => L2N.passAt (L2N.takes_of rfl rfl rfl rfl) σ) (qag_io 0 (pv 0) (qag_v (qe_frz (qo_lc (own := [("k", 6)]) rfl (tgi_nm (by decide)) rfl nd (qi_range1 rfl (T.free 6) (qa_cons (qe_var 2 (pv 2)) qa_nil)) (blkOk_by (own := [("k", 6)]) (by kernel_rfl)) (fun _ _ _ _ _ => (qg_nm 6 nd rfl (by first | exact Or.inl rfl | exact Or.inr rfl))) (fun _ _ _ _ _ => qts_nil) (fun _ _ _ _ _ => (qe_var 6 (pv 6))))) qag_nil)) (len_agIo (len_agV (fun _ _ _ h => len_agNil h))))) qp_none (qp_some (qe_var 1 (pv 1))))) (qss_cons (qs_setLc (own := [("k", 6)]) rfl 4 (tgi_nm (by decide)) rfl nd rfl rfl (sw_true rfl rfl rfl (by decide +kernel)) (qi_range1 rfl (T.free 6) (qa_cons (qe_var 2 (pv 2)) qa_nil)) (blkOk_by (own := [("k", 6)]) (by kernel_rfl)) (fun _ _ _ _ _ => (qg_nm 6 nd rfl (by first | exact Or.inl rfl | exact Or.inr rfl))) (fun _ _ _ _ _ => qts_nil) (fun _ _ _ _ _ => (qe_frz (qo_call (n := 2) (ok_law_lot T) (hr.mono (by decide)) rfl (T.glo 9) (fd_law_lot T).kp (bi_law_lot T) pass_w0 (qag_io 0 (pv 0) (qag_v (qe_var 1 (pv 1)) qag_nil)) (len_agIo (len_agV (fun _ _ _ h => len_agNil h))))))) (qss_cons (qs_for rfl (passes_of rfl) rfl (qi_range1 rfl (T.free 6) (qa_cons (qe_var 1 (pv 1)) qa_nil)) (qg_nm 5 nd rfl (by first | exact Or.inl rfl | exact Or.inr rfl)) (qss_one (qs_putO 4 (qe_tup (qa_cons (qe_var 5 (pv 5)) qa_nil)) (pv 4) (qe_ix rfl (qe_var 3 (pv 3)) (qe_var 5 (pv 5)))))) (qss_one (qs_ret (qo_lst (qa_cons (qe_var 4 (pv 4)) (qa_cons (qe_var 3 (pv 3)) qa_nil))))))))
theorem fd_law_lots (T : HD K mg) : FunD K "_law_lots" "_law_lots" (L2.defArgs s_law_lots) (L2.defBody s_law_lots) (L2.defScope s_law_lots) [] [] (He.ga K "_law_lots") (fdOf K (He.ga K "_law_lots")) := T.def_ 13
theorem sc_law_lots : FnScope ["grid", "out", "row", "k"] ["grid"] (L2.defScope s_law_lots) := ⟨rfl, rfl, rfl, by decide +kernel, rfl, by decide +kernel, by decide +kernel⟩
theorem bi_law_lots (T : HD K mg) : Binds K (fdOf K (He.ga K "_law_lots")) ["grid"] [] := (fd_law_lots T).bindsN fun _ _ _ _ _ _ us hl => match us, hl with | [_], _ => rfl
theorem ok_law_lots (T : HD K mg) : FnOk P w K mg base (L2N.CX P w) 1 (He.ga K "_law_lots") (fdOf K (He.ga K "_law_lots")) ["grid"] (spF (kx K) 1 m_law_lots) := by
  have nd := sc_law_lots.nd
  exact def_ok (G := kx K) (j := 0) (k := 3) (m := b_law_lots) (fd_law_lots T) sc_law_lots rfl rfl fun cdv A outer s H E hr => (qss_cons (qs_set 1 nd rfl (by first | exact Or.inl rfl | exact Or.inr rfl) (qo_lst qa_nil)) (qss_cons (qs_for rfl (passes_of rfl) rfl (qi_seq rfl (qe_ix rfl (qe_var 0 (pv 0)) qe_int)) (qg_nm 2 nd rfl (by first | exact Or.inl rfl | exact Or.inr rfl)) (qss_one (qs_expr (qe_mut 1 PySem.F.plainAttrs_list PySem.F.slot_list_append PySem.F.type_list_append mt_append s_append (pv 1) (qa_cons (qe_tuple rfl rfl (T.free 7) (qa_cons (qe_frz (qo_lc (own := [("k", 3)]) rfl (tgi_nm (by decide)) rfl nd (qi_range1 rfl (T.free 6) (qa_cons (qe_ix rfl (qe_var 0 (pv 0)) qe_int) qa_nil)) (blkOk_by (own := [("k", 3)]) (by kernel_rfl)) (fun _ _ _ _ _ => (qg_nm 3 nd rfl (by first | exact Or.inl rfl | exact Or.inr rfl))) (fun _ _ _ _ _ => (qts_one (qt_tru rfl (qe_ix rfl (qe_var 2 (pv 2)) (qe_var 3 (pv 3))) (by intro _; rfl)))) (fun _ _ _ _ _ => (qe_var 3 (pv 3))))) qa_nil)) qa_nil))))) (qss_one (qs_retVar 1 (pv 1)))))
theorem fd_law_through (T : HD K mg) : FunD K "_law_through" "_law_through" (L2.defArgs s_law_through) (L2.defBody s_law_through) (L2.defScope s_law_through) [] [] (He.ga K "_law_through") (fdOf K (He.ga K "_law_through")) := T.def_ 14
theorem sc_law_through : FnScope ["lot", "lots", "k"] ["lot", "lots"] (L2.defScope s_law_through) := ⟨rfl, rfl, rfl, by decide +kernel, rfl, by decide +kernel, by decide +kernel⟩
theorem bi_law_through (T : HD K mg) : Binds K (fdOf K (He.ga K "_law_through")) ["lot", "lots"] [] := (fd_law_through T).bindsN fun _ _ _ _ _ _ us hl => match us, hl with | [_, _], _ => rfl
theorem ok_law_through (T : HD K mg) : FnOk P w K mg base (L2N.CX P w) 2 (He.ga K "_law_through") (fdOf K (He.ga K "_law_through")) ["lot", "lots"] (spF (kx K) 2 m_law_through) := by
  have nd := sc_law_through.nd
  exact def_ok (G := kx K) (j := 1) (k := 1) (m := b_law_through) (fd_law_through T) sc_law_through rfl rfl fun cdv A outer s H E hr => (qss_one (qs_ret (qo_call (n := 1) (ok_law_join T) (hr.mono (by decide)) rfl (T.glo 11) (fd_law_join T).kp (bi_law_join T) (fun σ => L2N.passAt (L2N.takes_of rfl rfl rfl rfl) σ) (qag_v (qe_frz (qo_lc (own := [("k", 2)]) rfl (tgi_nm (by decide)) rfl nd (qi_seq rfl (qe_var 0 (pv 0))) (blkOk_by (own := [("k", 2)]) (by kernel_rfl)) (fun _ _ _ _ _ => (qg_nm 2 nd rfl (by first | exact Or.inl rfl | exact Or.inr rfl))) (fun _ _ _ _ _ => qts_nil) (fun _ _ _ _ _ => (qe_ix rfl (qe_var 1 (pv 1)) (qe_var 2 (pv 2)))))) qag_nil) (len_agV (fun _ _ _ h => len_agNil h)))))
theorem fd_law_behind (T : HD K mg) : FunD K "_law_behind" "_law_behind" (L2.defArgs s_law_behind) (L2.defBody s_law_behind) (L2.defScope s_law_behind) [] [] (He.ga K "_law_behind") (fdOf K (He.ga K "_law_behind")) := T.def_ 15
theorem sc_law_behind : FnScope ["one", "other", "lots", "lot"] ["one", "other"] (L2.defScope s_law_behind) := ⟨rfl, rfl, rfl, by decide +kernel, rfl, by decide +kernel, by decide +kernel⟩
theorem bi_law_behind (T : HD K mg) : Binds K (fdOf K (He.ga K "_law_behind")) ["one", "other"] [] := (fd_law_behind T).bindsN fun _ _ _ _ _ _ us hl => match us, hl with | [_, _], _ => rfl
theorem ok_law_behind (T : HD K mg) : FnOk P w K mg base (L2N.CX P w) 3 (He.ga K "_law_behind") (fdOf K (He.ga K "_law_behind")) ["one", "other"] (spF (kx K) 2 m_law_behind) := by
  have nd := sc_law_behind.nd
  exact def_ok (G := kx K) (j := 2) (k := 2) (m := b_law_behind) (fd_law_behind T) sc_law_behind rfl rfl fun cdv A outer s H E hr => (qss_cons (qs_set 2 nd rfl (by first | exact Or.inl rfl | exact Or.inr rfl) (qo_call (n := 1) (ok_law_lots T) (hr.mono (by decide)) rfl (T.glo 14) (fd_law_lots T).kp (bi_law_lots T) (fun σ => L2N.passAt (L2N.takes_of rfl rfl rfl rfl) σ) (qag_v (qe_var 1 (pv 1)) qag_nil) (len_agV (fun _ _ _ h => len_agNil h)))) (qss_one (qs_ret (qo_call (n := 2) (ok_law_of T) (hr.mono (by decide)) rfl (T.glo 12) (fd_law_of T).kp (bi_law_of T) (fun σ => L2N.passAt (L2N.takes_of rfl rfl rfl rfl) σ) (qag_v (qe_frz (qo_lc (own := [("lot", 3)]) rfl (tgi_nm (by decide)) rfl nd (qi_seq rfl (qe_frz (qo_call (n := 1) (ok_law_lots T) (hr.mono (by decide)) rfl (T.glo 14) (fd_law_lots T).kp (bi_law_lots T) (fun σ => L2N.passAt (L2N.takes_of rfl rfl rfl rfl) σ) (qag_v (qe_var 0 (pv 0)) qag_nil) (len_agV (fun _ _ _ h => len_agNil h))))) (blkOk_by (own := [("lot", 3)]) (by kernel_rfl)) (fun _ _ _ _ _ => (qg_nm 3 nd rfl (by first | exact Or.inl rfl | exact Or.inr rfl))) (fun _ _ _ _ _ => qts_nil) (fun _ _ _ _ _ => (qe_frz (qo_call (n := 2) (ok_law_through T) (hr.mono (by decide)) rfl (T.glo 15) (fd_law_through T).kp (bi_law_through T) pass_w0 (qag_v (qe_var 3 (pv 3)) (qag_v (qe_var 2 (pv 2)) qag_nil)) (len_agV (len_agV (fun _ _ _ h => len_agNil h)))))))) (qag_v (qe_ix rfl (qe_var 1 (pv 1)) qe_int) qag_nil)) (len_agV (len_agV (fun _ _ _ h => len_agNil h)))))))
theorem fd_law_spread (T : HD K mg) : FunD K "_law_spread" "_law_spread" (L2.defArgs s_law_spread) (L2.defBody s_law_spread) (L2.defScope s_law_spread) [] [] (He.ga K "_law_spread") (fdOf K (He.ga K "_law_spread")) := T.def_ 16
theorem sc_law_spread : FnScope ["store", "heart", "high", "wide", "ups", "sides", "first_part", "last_part", "whole", "up_back", "side_back", "spot"] ["store", "heart", "high", "wide"] (L2.defScope s_law_spread) := ⟨rfl, rfl, rfl, by decide +kernel, rfl, by decide +kernel, by decide +kernel⟩
theorem bi_law_spread (T : HD K mg) : Binds K (fdOf K (He.ga K "_law_spread")) ["store", "heart", "high", "wide"] [] := (fd_law_spread T).bindsN fun _ _ _ _ _ _ us hl => match us, hl with | [_, _, _, _], _ => rfl
theorem ok_law_spread (T : HD K mg) : FnOk P w K mg base (L2N.CX P w) 5 (He.ga K "_law_spread") (fdOf K (He.ga K "_law_spread")) ["store", "heart", "high", "wide"] (spF (kx K) 4 m_law_spread) := by
  have nd := sc_law_spread.nd
  exact def_ok (G := kx K) (j := 4) (k := 8) (m := b_law_spread) (fd_law_spread T) sc_law_spread rfl rfl fun cdv A outer s H E hr => (qss_cons (qs_set 4 nd rfl (by first | exact Or.inl rfl | exact Or.inr rfl) (qo_call (n := 3) (ok_law_units T) (hr.mono (by decide)) rfl (T.glo 16) (fd_law_units T).kp (bi_law_units T) (fun σ => L2N.passAt (L2N.takes_of rfl rfl rfl rfl) σ) (qag_io 0 (pv 0) (qag_v (qe_ix rfl (qe_var 1 (pv 1)) qe_int) (qag_v (qe_var 2 (pv 2)) qag_nil))) (len_agIo (len_agV (len_agV (fun _ _ _ h => len_agNil h)))))) (qss_cons (qs_set 5 nd rfl (by first | exact Or.inl rfl | exact Or.inr rfl) (qo_call (n := 3) (ok_law_units T) (hr.mono (by decide)) rfl (T.glo 16) (fd_law_units T).kp (bi_law_units T) (fun σ => L2N.passAt (L2N.takes_of rfl rfl rfl rfl) σ) (qag_io 0 (pv 0) (qag_v (qe_ix rfl (qe_var 1 (pv 1)) qe_int) (qag_v (qe_var 3 (pv 3)) qag_nil))) (len_agIo (len_agV (len_agV (fun _ _ _ h => len_agNil h)))))) (qss_cons (qs_set 6 nd rfl (by first | exact Or.inl rfl | exact Or.inr rfl) (qo_call (n := 2) (ok_law_of T) (hr.mono (by decide)) rfl (T.glo 12) (fd_law_of T).kp (bi_law_of T) (fun σ => L2N.passAt (L2N.takes_of rfl rfl rfl rfl) σ) (qag_v (qe_ix rfl (qe_var 4 (pv 4)) qe_int) (qag_v (qe_ix rfl (qe_var 1 (pv 1)) qe_int) qag_nil)) (len_agV (len_agV (fun _ _ _ h => len_agNil h))))) (qss_cons (qs_set 7 nd rfl (by first | exact Or.inl rfl | exact Or.inr rfl) (qo_call (n := 1) (ok_law_turn T) (hr.mono (by decide)) rfl (T.glo 17) (fd_law_turn T).kp (bi_law_turn T) (fun σ => L2N.passAt (L2N.takes_of rfl rfl rfl rfl) σ) (qag_v (qe_frz (qo_call (n := 2) (ok_law_of T) (hr.mono (by decide)) rfl (T.glo 12) (fd_law_of T).kp (bi_law_of T) (fun σ => L2N.passAt (L2N.takes_of rfl rfl rfl rfl) σ) (qag_v (qe_ix rfl (qe_var 5 (pv 5)) qe_int) (qag_v (qe_ix rfl (qe_var 1 (pv 1)) qe_int) qag_nil)) (len_agV (len_agV (fun _ _ _ h => len_agNil h))))) qag_nil) (len_agV (fun _ _ _ h => len_agNil h)))) (qss_cons (qs_set 8 nd rfl (by first | exact Or.inl rfl | exact Or.inr rfl) (qo_call (n := 2) (ok_law_behind T) (hr.mono (by decide)) rfl (T.glo 18) (fd_law_behind T).kp (bi_law_behind T) (fun σ => L2N.passAt (L2N.takes_of rfl rfl rfl rfl) σ) (qag_v (qe_frz (qo_call (n := 2) (ok_law_behind T) (hr.mono (by decide)) rfl (T.glo 18) (fd_law_behind T).kp (bi_law_behind T) (fun σ => L2N.passAt (L2N.takes_of rfl rfl rfl rfl) σ) (qag_v (qe_var 6 (pv 6)) (qag_v (qe_var 1 (pv 1)) qag_nil)) (len_agV (len_agV (fun _ _ _ h => len_agNil h))))) (qag_v (qe_var 7 (pv 7)) qag_nil)) (len_agV (len_agV (fun _ _ _ h => len_agNil h))))) (qss_cons (qs_set 9 nd rfl (by first | exact Or.inl rfl | exact Or.inr rfl) (qo_call (n := 2) (ok_law_of T) (hr.mono (by decide)) rfl (T.glo 12) (fd_law_of T).kp (bi_law_of T) (fun σ => L2N.passAt (L2N.takes_of rfl rfl rfl rfl) σ) (qag_v (qe_frz (qo_lc (own := [("spot", 11)]) rfl (tgi_nm (by decide)) rfl nd (qi_seq rfl (qe_ix rfl (qe_var 4 (pv 4)) qe_int)) (blkOk_by (own := [("spot", 11)]) (by kernel_rfl)) (fun _ _ _ _ _ => (qg_nm 11 nd rfl (by first | exact Or.inl rfl | exact Or.inr rfl))) (fun _ _ _ _ _ => qts_nil) (fun _ _ _ _ _ => (qe_tup (qa_cons (qe_var 11 (pv 11)) qa_nil))))) (qag_v (qe_var 2 (pv 2)) qag_nil)) (len_agV (len_agV (fun _ _ _ h => len_agNil h))))) (qss_cons (qs_set 10 nd rfl (by first | exact Or.inl rfl | exact Or.inr rfl) (qo_call (n := 1) (ok_law_turn T) (hr.mono (by decide)) rfl (T.glo 17) (fd_law_turn T).kp (bi_law_turn T) (fun σ => L2N.passAt (L2N.takes_of rfl rfl rfl rfl) σ) (qag_v (qe_frz (qo_call (n := 2) (ok_law_of T) (hr.mono (by decide)) rfl (T.glo 12) (fd_law_of T).kp (bi_law_of T) (fun σ => L2N.passAt (L2N.takes_of rfl rfl rfl rfl) σ) (qag_v (qe_frz (qo_lc (own := [("spot", 11)]) rfl (tgi_nm (by decide)) rfl nd (qi_seq rfl (qe_ix rfl (qe_var 5 (pv 5)) qe_int)) (blkOk_by (own := [("spot", 11)]) (by kernel_rfl)) (fun _ _ _ _ _ => (qg_nm 11 nd rfl (by first | exact Or.inl rfl | exact Or.inr rfl))) (fun _ _ _ _ _ => qts_nil) (fun _ _ _ _ _ => (qe_tup (qa_cons (qe_var 11 (pv 11)) qa_nil))))) (qag_v (qe_var 3 (pv 3)) qag_nil)) (len_agV (len_agV (fun _ _ _ h => len_agNil h))))) qag_nil) (len_agV (fun _ _ _ h => len_agNil h)))) (qss_one (qs_ret (qo_lst (qa_cons (qe_var 8 (pv 8)) (qa_cons (qe_var 6 (pv 6)) (qa_cons (qe_var 7 (pv 7)) (qa_cons (qe_var 9 (pv 9)) (qa_cons (qe_var 10 (pv 10)) qa_nil)))))))))))))))
theorem fd_law_placed (T : HD K mg) : FunD K "_law_placed" "_law_placed" (L2.defArgs s_law_placed) (L2.defBody s_law_placed) (L2.defScope s_law_placed) [] [] (He.ga K "_law_placed") (fdOf K (He.ga K "_law_placed")) := T.def_ 17
theorem sc_law_placed : FnScope ["grid", "placing", "back", "lots", "k", "j"] ["grid", "placing"] (L2.defScope s_law_placed) := ⟨rfl, rfl, rfl, by decide +kernel, rfl, by decide +kernel, by decide +kernel⟩
theorem bi_law_placed (T : HD K mg) : Binds K (fdOf K (He.ga K "_law_placed")) ["grid", "placing"] [] := (fd_law_placed T).bindsN fun _ _ _ _ _ _ us hl => match us, hl with | [_, _], _ => rfl
theorem ok_law_placed (T : HD K mg) : FnOk P w K mg base (L2N.CX P w) 2 (He.ga K "_law_placed") (fdOf K (He.ga K "_law_placed")) ["grid", "placing"] (spF (kx K) 2 m_law_placed) := by
  have nd := sc_law_placed.nd
  exact def_ok (G := kx K) (j := 1) (k := 4) (m := b_law_placed) (fd_law_placed T) sc_law_placed rfl rfl fun cdv A outer s H E hr => (qss_cons (qs_set 2 nd rfl (by first | exact Or.inl rfl | exact Or.inr rfl) (qo_lc (own := [("k", 4)]) rfl (tgi_nm (by decide)) rfl nd (qi_range1 rfl (T.free 6) (qa_cons (qe_len rfl rfl (T.free 1) (qa_cons (qe_var 1 (pv 1)) qa_nil)) qa_nil)) (blkOk_by (own := [("k", 4)]) (by kernel_rfl)) (fun _ _ _ _ _ => (qg_nm 4 nd rfl (by first | exact Or.inl rfl | exact Or.inr rfl))) (fun _ _ _ _ _ => qts_nil) (fun _ _ _ _ _ => (qe_idxT rfl (qe_var 1 (pv 1)) (qa_cons (qe_var 4 (pv 4)) qa_nil))))) (qss_cons (qs_set 3 nd rfl (by first | exact Or.inl rfl | exact Or.inr rfl) (qo_lst qa_nil)) (qss_cons (qs_for rfl (passes_of rfl) rfl (qi_range1 rfl (T.free 6) (qa_cons (qe_len rfl rfl (T.free 1) (qa_cons (qe_var 1 (pv 1)) qa_nil)) qa_nil)) (qg_nm 4 nd rfl (by first | exact Or.inl rfl | exact Or.inr rfl)) (qss_one (qs_expr (qe_mut 3 PySem.F.plainAttrs_list PySem.F.slot_list_append PySem.F.type_list_append mt_append s_append (pv 3) (qa_cons (qe_tuple rfl rfl (T.free 7) (qa_cons (qe_frz (qo_lc (own := [("j", 5)]) rfl (tgi_nm (by decide)) rfl nd (qi_range1 rfl (T.free 6) (qa_cons (qe_len rfl rfl (T.free 1) (qa_cons (qe_var 1 (pv 1)) qa_nil)) qa_nil)) (blkOk_by (own := [("j", 5)]) (by kernel_rfl)) (fun _ _ _ _ _ => (qg_nm 5 nd rfl (by first | exact Or.inl rfl | exact Or.inr rfl))) (fun _ _ _ _ _ => (qts_one (qt_tru rfl (qe_ix rfl (qe_ix rfl (qe_ix rfl (qe_var 0 (pv 0)) qe_int) (qe_ix rfl (qe_var 2 (pv 2)) (qe_var 4 (pv 4)))) (qe_ix rfl (qe_var 2 (pv 2)) (qe_var 5 (pv 5)))) (by intro _; rfl)))) (fun _ _ _ _ _ => (qe_var 5 (pv 5))))) qa_nil)) qa_nil))))) (qss_one (qs_ret (qo_call (n := 2) (ok_law_of T) (hr.mono (by decide)) rfl (T.glo 12) (fd_law_of T).kp (bi_law_of T) (fun σ => L2N.passAt (L2N.takes_of rfl rfl rfl rfl) σ) (qag_v (qe_var 3 (pv 3)) (qag_v (qe_len rfl rfl (T.free 1) (qa_cons (qe_var 1 (pv 1)) qa_nil)) qag_nil)) (len_agV (len_agV (fun _ _ _ h => len_agNil h)))))))))
theorem fd_law_placing (T : HD K mg) : FunD K "_law_placing" "_law_placing" (L2.defArgs s_law_placing) (L2.defBody s_law_placing) (L2.defScope s_law_placing) [] [] (He.ga K "_law_placing") (fdOf K (He.ga K "_law_placing")) := T.def_ 18
theorem sc_law_placing : FnScope ["store", "many", "kind", "k"] ["store", "many"] (L2.defScope s_law_placing) := ⟨rfl, rfl, rfl, by decide +kernel, rfl, by decide +kernel, by decide +kernel⟩
theorem bi_law_placing (T : HD K mg) : Binds K (fdOf K (He.ga K "_law_placing")) ["store", "many"] [] := (fd_law_placing T).bindsN fun _ _ _ _ _ _ us hl => match us, hl with | [_, _], _ => rfl
theorem ok_law_placing (T : HD K mg) : FnOk P w K mg base (L2N.CX P w) 4 (He.ga K "_law_placing") (fdOf K (He.ga K "_law_placing")) ["store", "many"] (spF (kx K) 2 m_law_placing) := by
  have nd := sc_law_placing.nd
  exact def_ok (G := kx K) (j := 3) (k := 2) (m := b_law_placing) (fd_law_placing T) sc_law_placing rfl rfl fun cdv A outer s H E hr => (qss_cons (qs_set 2 nd rfl (by first | exact Or.inl rfl | exact Or.inr rfl) (qo_call (n := 2) (ok_law_take T) (hr.mono (by decide)) rfl (T.glo 3) (fd_law_take T).kp (bi_law_take T) (fun σ => L2N.passAt (L2N.takes_of rfl rfl rfl rfl) σ) (qag_io 0 (pv 0) (qag_v qe_int qag_nil)) (len_agIo (len_agV (fun _ _ _ h => len_agNil h))))) (qss_cons (qs_if (qt_cmp (op_eqG hr.units) (s_eq rfl) (qe_var 2 (pv 2)) qe_int (nomark _)) (qss_one (qs_ret (qo_fro (qe_tupleF rfl rfl (T.free 7) (qa_cons (qe_frz (qo_lc (own := [("k", 3)]) rfl (tgi_nm (by decide)) rfl nd (qi_range1 rfl (T.free 6) (qa_cons (qe_var 1 (pv 1)) qa_nil)) (blkOk_by (own := [("k", 3)]) (by kernel_rfl)) (fun _ _ _ _ _ => (qg_nm 3 nd rfl (by first | exact Or.inl rfl | exact Or.inr rfl))) (fun _ _ _ _ _ => qts_nil) (fun _ _ _ _ _ => (qe_var 3 (pv 3))))) qa_nil))))) qss_nil) (qss_cons (qs_if (qt_cmp (op_eqG hr.units) (s_eq rfl) (qe_var 2 (pv 2)) qe_int (nomark _)) (qss_one (qs_ret (qo_fro (qe_tupleF rfl rfl (T.free 7) (qa_cons (qe_frz (qo_lc (own := [("k", 3)]) rfl (tgi_nm (by decide)) rfl nd (qi_range1 rfl (T.free 6) (qa_cons (qe_var 1 (pv 1)) qa_nil)) (blkOk_by (own := [("k", 3)]) (by kernel_rfl)) (fun _ _ _ _ _ => (qg_nm 3 nd rfl (by first | exact Or.inl rfl | exact Or.inr rfl))) (fun _ _ _ _ _ => qts_nil) (fun _ _ _ _ _ => (q_bin backD op_mod s_mod (qe_intc rfl (T.free 0) (qa_cons (qe_frz (qo_add rfl (qe_var 3 (pv 3)) qe_int)) qa_nil)) (qe_var 1 (pv 1)))))) qa_nil))))) qss_nil) (qss_cons (qs_if (qt_cmp (op_eqG hr.units) (s_eq rfl) (qe_var 2 (pv 2)) qe_int (nomark _)) (qss_one (qs_ret (qo_fro (qe_tupleF rfl rfl (T.free 7) (qa_cons (qe_frz (qo_lc (own := [("k", 3)]) rfl (tgi_nm (by decide)) rfl nd (qi_range1 rfl (T.free 6) (qa_cons (qe_var 1 (pv 1)) qa_nil)) (blkOk_by (own := [("k", 3)]) (by kernel_rfl)) (fun _ _ _ _ _ => (qg_nm 3 nd rfl (by first | exact Or.inl rfl | exact Or.inr rfl))) (fun _ _ _ _ _ => qts_nil) (fun _ _ _ _ _ => (q_bin backD op_sub s_sub (q_bin backD op_sub s_sub (qe_var 1 (pv 1)) qe_int) (qe_var 3 (pv 3)))))) qa_nil))))) qss_nil) (qss_one (qs_ret (qo_fro (qe_tupleF rfl rfl (T.free 7) (qa_cons (qe_frz (qo_call (n := 2) (ok_law_shuffle T) (hr.mono (by decide)) rfl (T.glo 13) (fd_law_shuffle T).kp (bi_law_shuffle T) (fun σ => L2N.passAt (L2N.takes_of rfl rfl rfl rfl) σ) (qag_io 0 (pv 0) (qag_v (qe_frz (qo_lc (own := [("k", 3)]) rfl (tgi_nm (by decide)) rfl nd (qi_range1 rfl (T.free 6) (qa_cons (qe_var 1 (pv 1)) qa_nil)) (blkOk_by (own := [("k", 3)]) (by kernel_rfl)) (fun _ _ _ _ _ => (qg_nm 3 nd rfl (by first | exact Or.inl rfl | exact Or.inr rfl))) (fun _ _ _ _ _ => qts_nil) (fun _ _ _ _ _ => (qe_var 3 (pv 3))))) qag_nil)) (len_agIo (len_agV (fun _ _ _ h => len_agNil h))))) qa_nil)))))))))
theorem fd_law_order (T : HD K mg) : FunD K "_law_order" "_law_order" (L2.defArgs s_law_order) (L2.defBody s_law_order) (L2.defScope s_law_order) [] [] (He.ga K "_law_order") (fdOf K (He.ga K "_law_order")) := T.def_ 19
theorem sc_law_order : FnScope ["store", "many", "kind", "lots", "k", "beneath", "j"] ["store", "many"] (L2.defScope s_law_order) := ⟨rfl, rfl, rfl, by decide +kernel, rfl, by decide +kernel, by decide +kernel⟩
theorem bi_law_order (T : HD K mg) : Binds K (fdOf K (He.ga K "_law_order")) ["store", "many"] [] := (fd_law_order T).bindsN fun _ _ _ _ _ _ us hl => match us, hl with | [_, _], _ => rfl
theorem ok_law_order (T : HD K mg) : FnOk P w K mg base (L2N.CX P w) 5 (He.ga K "_law_order") (fdOf K (He.ga K "_law_order")) ["store", "many"] (spF (kx K) 2 m_law_order) := by
  have nd := sc_law_order.nd
  exact def_ok (G := kx K) (j := 4) (k := 5) (m := b_law_order) (fd_law_order T) sc_law_order rfl rfl fun cdv A outer s H E hr => (qss_cons (qs_set 2 nd rfl (by first | exact Or.inl rfl | exact Or.inr rfl) (qo_call (n := 2) (ok_law_take T) (hr.mono (by decide)) rfl (T.glo 3) (fd_law_take T).kp (bi_law_take T) (fun σ => L2N.passAt (L2N.takes_of rfl rfl rfl rfl) σ) (qag_io 0 (pv 0) (qag_v qe_int qag_nil)) (len_agIo (len_agV (fun _ _ _ h => len_agNil h))))) (qss_cons (qs_set 3 nd rfl (by first | exact Or.inl rfl | exact Or.inr rfl) (qo_lst qa_nil)) (qss_cons (qs_for rfl (passes_of rfl) rfl (qi_range1 rfl (T.free 6) (qa_cons (qe_var 1 (pv 1)) qa_nil)) (qg_nm 4 nd rfl (by first | exact Or.inl rfl | exact Or.inr rfl)) (qss_cons (qs_set 5 nd rfl (by first | exact Or.inl rfl | exact Or.inr rfl) (qo_call (n := 2) (ok_law_lot T) (hr.mono (by decide)) rfl (T.glo 9) (fd_law_lot T).kp (bi_law_lot T) (fun σ => L2N.passAt (L2N.takes_of rfl rfl rfl rfl) σ) (qag_io 0 (pv 0) (qag_v (qe_var 4 (pv 4)) qag_nil)) (len_agIo (len_agV (fun _ _ _ h => len_agNil h))))) (qss_cons (qs_if (qt_cmp (op_eqG hr.units) (s_eq rfl) (qe_var 2 (pv 2)) qe_int (nomark _)) (qss_one (qs_set 5 nd rfl (by first | exact Or.inl rfl | exact Or.inr rfl) (qo_fro (qe_tup qa_nil)))) qss_nil) (qss_cons (qs_if (qt_cmp (op_eqG hr.units) (s_eq rfl) (qe_var 2 (pv 2)) qe_int (nomark _)) (qss_one (qs_set 5 nd rfl (by first | exact Or.inl rfl | exact Or.inr rfl) (qo_fro (qe_tuple rfl rfl (T.free 7) (qa_cons (qe_frz (qo_lc (own := [("j", 6)]) rfl (tgi_nm (by decide)) rfl nd (qi_range1 rfl (T.free 6) (qa_cons (qe_var 4 (pv 4)) qa_nil)) (blkOk_by (own := [("j", 6)]) (by kernel_rfl)) (fun _ _ _ _ _ => (qg_nm 6 nd rfl (by first | exact Or.inl rfl | exact Or.inr rfl))) (fun _ _ _ _ _ => qts_nil) (fun _ _ _ _ _ => (qe_var 6 (pv 6))))) qa_nil))))) qss_nil) (qss_one (qs_expr (qe_mut 3 PySem.F.plainAttrs_list PySem.F.slot_list_append PySem.F.type_list_append mt_append s_append (pv 3) (qa_cons (qe_frz (qo_call (n := 1) (ok_law_join T) (hr.mono (by decide)) rfl (T.glo 11) (fd_law_join T).kp (bi_law_join T) (fun σ => L2N.passAt (L2N.takes_of rfl rfl rfl rfl) σ) (qag_v (qe_frz (qo_add rfl (qe_frz (qo_lc (own := [("j", 6)]) rfl (tgi_nm (by decide)) rfl nd (qi_seq rfl (qe_var 5 (pv 5))) (blkOk_by (own := [("j", 6)]) (by kernel_rfl)) (fun _ _ _ _ _ => (qg_nm 6 nd rfl (by first | exact Or.inl rfl | exact Or.inr rfl))) (fun _ _ _ _ _ => qts_nil) (fun _ _ _ _ _ => (qe_ixO 3 (pv 3) (qe_var 6 (pv 6)))))) (qe_frz (qo_lst (qa_cons (qe_tup (qa_cons (qe_var 4 (pv 4)) qa_nil)) qa_nil))))) qag_nil) (len_agV (fun _ _ _ h => len_agNil h)))) qa_nil)))))))) (qss_one (qs_ret (qo_call (n := 2) (ok_law_placed T) (hr.mono (by decide)) rfl (T.glo 20) (fd_law_placed T).kp (bi_law_placed T) (fun σ => L2N.passAt (L2N.takes_of rfl rfl rfl rfl) σ) (qag_v (qe_frz (qo_call (n := 2) (ok_law_of T) (hr.mono (by decide)) rfl (T.glo 12) (fd_law_of T).kp (bi_law_of T) (fun σ => L2N.passAt (L2N.takes_of rfl rfl rfl rfl) σ) (qag_v (qe_var 3 (pv 3)) (qag_v (qe_var 1 (pv 1)) qag_nil)) (len_agV (len_agV (fun _ _ _ h => len_agNil h))))) (qag_v (qe_frz (qo_call (n := 2) (ok_law_placing T) (hr.mono (by decide)) rfl (T.glo 19) (fd_law_placing T).kp (bi_law_placing T) (fun σ => L2N.passAt (L2N.takes_of rfl rfl rfl rfl) σ) (qag_io 0 (pv 0) (qag_v (qe_var 1 (pv 1)) qag_nil)) (len_agIo (len_agV (fun _ _ _ h => len_agNil h))))) qag_nil)) (len_agV (len_agV (fun _ _ _ h => len_agNil h)))))))))
theorem fd_law_way (T : HD K mg) : FunD K "_law_way" "_law_way" (L2.defArgs s_law_way) (L2.defBody s_law_way) (L2.defScope s_law_way) [] [] (He.ga K "_law_way") (fdOf K (He.ga K "_law_way")) := T.def_ 20
theorem sc_law_way : FnScope ["store", "things", "high", "wide"] ["store", "things", "high", "wide"] (L2.defScope s_law_way) := ⟨rfl, rfl, rfl, by decide +kernel, rfl, by decide +kernel, by decide +kernel⟩
theorem bi_law_way (T : HD K mg) : Binds K (fdOf K (He.ga K "_law_way")) ["store", "things", "high", "wide"] [] := (fd_law_way T).bindsN fun _ _ _ _ _ _ us hl => match us, hl with | [_, _, _, _], _ => rfl
theorem ok_law_way (T : HD K mg) : FnOk P w K mg base (L2N.CX P w) 6 (He.ga K "_law_way") (fdOf K (He.ga K "_law_way")) ["store", "things", "high", "wide"] (spF (kx K) 4 m_law_way) := by
  have nd := sc_law_way.nd
  exact def_ok (G := kx K) (j := 5) (k := 0) (m := b_law_way) (fd_law_way T) sc_law_way rfl rfl fun cdv A outer s H E hr => (qss_one (qs_ret (qo_fro (qe_ix rfl (qe_frz (qo_call (n := 4) (ok_law_spread T) (hr.mono (by decide)) rfl (T.glo 22) (fd_law_spread T).kp (bi_law_spread T) (fun σ => L2N.passAt (L2N.takes_of rfl rfl rfl rfl) σ) (qag_io 0 (pv 0) (qag_v (qe_frz (qo_call (n := 2) (ok_law_order T) (hr.mono (by decide)) rfl (T.glo 21) (fd_law_order T).kp (bi_law_order T) (fun σ => L2N.passAt (L2N.takes_of rfl rfl rfl rfl) σ) (qag_io 0 (pv 0) (qag_v (qe_var 1 (pv 1)) qag_nil)) (len_agIo (len_agV (fun _ _ _ h => len_agNil h))))) (qag_v (qe_var 2 (pv 2)) (qag_v (qe_var 3 (pv 3)) qag_nil)))) (len_agIo (len_agV (len_agV (len_agV (fun _ _ _ h => len_agNil h))))))) qe_int))))
theorem fd_law_between (T : HD K mg) : FunD K "_law_between" "_law_between" (L2.defArgs s_law_between) (L2.defBody s_law_between) (L2.defScope s_law_between) [] [] (He.ga K "_law_between") (fdOf K (He.ga K "_law_between")) := T.def_ 21
theorem sc_law_between : FnScope ["store", "least", "most", "kind"] ["store", "least", "most"] (L2.defScope s_law_between) := ⟨rfl, rfl, rfl, by decide +kernel, rfl, by decide +kernel, by decide +kernel⟩
theorem bi_law_between (T : HD K mg) : Binds K (fdOf K (He.ga K "_law_between")) ["store", "least", "most"] [] := (fd_law_between T).bindsN fun _ _ _ _ _ _ us hl => match us, hl with | [_, _, _], _ => rfl
theorem ok_law_between (T : HD K mg) : FnOk P w K mg base (L2N.CX P w) 3 (He.ga K "_law_between") (fdOf K (He.ga K "_law_between")) ["store", "least", "most"] (spF (kx K) 3 m_law_between) := by
  have nd := sc_law_between.nd
  exact def_ok (G := kx K) (j := 2) (k := 1) (m := b_law_between) (fd_law_between T) sc_law_between rfl rfl fun cdv A outer s H E hr => (qss_cons (qs_if (qt_cmp op_le s_le (qe_var 2 (pv 2)) (qe_var 1 (pv 1)) (nomark _)) (qss_one (qs_ret (qo_fro (qe_var 1 (pv 1))))) qss_nil) (qss_cons (qs_set 3 nd rfl (by first | exact Or.inl rfl | exact Or.inr rfl) (qo_call (n := 2) (ok_law_take T) (hr.mono (by decide)) rfl (T.glo 3) (fd_law_take T).kp (bi_law_take T) (fun σ => L2N.passAt (L2N.takes_of rfl rfl rfl rfl) σ) (qag_io 0 (pv 0) (qag_v qe_int qag_nil)) (len_agIo (len_agV (fun _ _ _ h => len_agNil h))))) (qss_cons (qs_if (qt_cmp (op_eqG hr.units) (s_eq rfl) (qe_var 3 (pv 3)) qe_int (nomark _)) (qss_one (qs_ret (qo_fro (qe_var 1 (pv 1))))) qss_nil) (qss_cons (qs_if (qt_cmp (op_eqG hr.units) (s_eq rfl) (qe_var 3 (pv 3)) qe_int (nomark _)) (qss_one (qs_ret (qo_fro (qe_var 2 (pv 2))))) qss_nil) (qss_one (qs_ret (qo_add rfl (qe_var 1 (pv 1)) (qe_frz (qo_call (n := 2) (ok_law_take T) (hr.mono (by decide)) rfl (T.glo 3) (fd_law_take T).kp (bi_law_take T) (fun σ => L2N.passAt (L2N.takes_of rfl rfl rfl rfl) σ) (qag_io 0 (pv 0) (qag_v (qe_frz (qo_add rfl (q_bin backD op_sub s_sub (qe_var 2 (pv 2)) (qe_var 1 (pv 1))) qe_int)) qag_nil)) (len_agIo (len_agV (fun _ _ _ h => len_agNil h))))))))))))
theorem fd_law_not (T : HD K mg) : FunD K "_law_not" "_law_not" (L2.defArgs s_law_not) (L2.defBody s_law_not) (L2.defScope s_law_not) [] [] (He.ga K "_law_not") (fdOf K (He.ga K "_law_not")) := T.def_ 22
theorem sc_law_not : FnScope ["grid", "rows", "row", "cell"] ["grid"] (L2.defScope s_law_not) := ⟨rfl, rfl, rfl, by decide +kernel, rfl, by decide +kernel, by decide +kernel⟩
theorem bi_law_not (T : HD K mg) : Binds K (fdOf K (He.ga K "_law_not")) ["grid"] [] := (fd_law_not T).bindsN fun _ _ _ _ _ _ us hl => match us, hl with | [_], _ => rfl
theorem ok_law_not (T : HD K mg) : FnOk P w K mg base (L2N.CX P w) 1 (He.ga K "_law_not") (fdOf K (He.ga K "_law_not")) ["grid"] (spF (kx K) 1 m_law_not) := by
  have nd := sc_law_not.nd
  exact def_ok (G := kx K) (j := 0) (k := 3) (m := b_law_not) (fd_law_not T) sc_law_not rfl rfl fun cdv A outer s H E hr => (qss_cons (qs_set 1 nd rfl (by first | exact Or.inl rfl | exact Or.inr rfl) (qo_lst qa_nil)) (qss_cons (qs_for rfl (passes_of rfl) rfl (qi_seq rfl (qe_ix rfl (qe_var 0 (pv 0)) qe_int)) (qg_nm 2 nd rfl (by first | exact Or.inl rfl | exact Or.inr rfl)) (qss_one (qs_expr (qe_mut 1 PySem.F.plainAttrs_list PySem.F.slot_list_append PySem.F.type_list_append mt_append s_append (pv 1) (qa_cons (qe_tuple rfl rfl (T.free 7) (qa_cons (qe_frz (qo_lc (own := [("cell", 3)]) rfl (tgi_nm (by decide)) rfl nd (qi_seq rfl (qe_var 2 (pv 2))) (blkOk_by (own := [("cell", 3)]) (by kernel_rfl)) (fun _ _ _ _ _ => (qg_nm 3 nd rfl (by first | exact Or.inl rfl | exact Or.inr rfl))) (fun _ _ _ _ _ => qts_nil) (fun _ _ _ _ _ => (qe_not (qe_var 3 (pv 3)))))) qa_nil)) qa_nil))))) (qss_one (qs_ret (qo_fro (qe_tup (qa_cons qe_str (qa_cons (qe_ix rfl (qe_var 0 (pv 0)) qe_int) (qa_cons (qe_ix rfl (qe_var 0 (pv 0)) qe_int) (qa_cons (qe_tuple rfl rfl (T.free 7) (qa_cons (qe_var 1 (pv 1)) qa_nil)) qa_nil))))))))))
theorem fd_law_unit (T : HD K mg) : FunD K "_law_unit" "_law_unit" (L2.defArgs s_law_unit) (L2.defBody s_law_unit) (L2.defScope s_law_unit) [] [] (He.ga K "_law_unit") (fdOf K (He.ga K "_law_unit")) := T.def_ 23
theorem sc_law_unit : FnScope ["side", "k"] ["side"] (L2.defScope s_law_unit) := ⟨rfl, rfl, rfl, by decide +kernel, rfl, by decide +kernel, by decide +kernel⟩
theorem bi_law_unit (T : HD K mg) : Binds K (fdOf K (He.ga K "_law_unit")) ["side"] [] := (fd_law_unit T).bindsN fun _ _ _ _ _ _ us hl => match us, hl with | [_], _ => rfl
theorem ok_law_unit (T : HD K mg) : FnOk P w K mg base (L2N.CX P w) 2 (He.ga K "_law_unit") (fdOf K (He.ga K "_law_unit")) ["side"] (spF (kx K) 1 m_law_unit) := by
  have nd := sc_law_unit.nd
  exact def_ok (G := kx K) (j := 1) (k := 1) (m := b_law_unit) (fd_law_unit T) sc_law_unit rfl rfl fun cdv A outer s H E hr => (qss_one (qs_ret (qo_call (n := 2) (ok_law_of T) (hr.mono (by decide)) rfl (T.glo 12) (fd_law_of T).kp (bi_law_of T) (fun σ => L2N.passAt (L2N.takes_of rfl rfl rfl rfl) σ) (qag_v (qe_frz (qo_lc (own := [("k", 1)]) rfl (tgi_nm (by decide)) rfl nd (qi_range1 rfl (T.free 6) (qa_cons (qe_var 0 (pv 0)) qa_nil)) (blkOk_by (own := [("k", 1)]) (by kernel_rfl)) (fun _ _ _ _ _ => (qg_nm 1 nd rfl (by first | exact Or.inl rfl | exact Or.inr rfl))) (fun _ _ _ _ _ => qts_nil) (fun _ _ _ _ _ => (qe_tup (qa_cons (qe_var 1 (pv 1)) qa_nil))))) (qag_v (qe_var 0 (pv 0)) qag_nil)) (len_agV (len_agV (fun _ _ _ h => len_agNil h))))))
theorem fd_law_lost (T : HD K mg) : FunD K "_law_lost" "_law_lost" (L2.defArgs s_law_lost) (L2.defBody s_law_lost) (L2.defScope s_law_lost) [] [] (He.ga K "_law_lost") (fdOf K (He.ga K "_law_lost")) := T.def_ 24
theorem sc_law_lost : FnScope ["store", "high", "wide", "hearts"] ["store", "high", "wide"] (L2.defScope s_law_lost) := ⟨rfl, rfl, rfl, by decide +kernel, rfl, by decide +kernel, by decide +kernel⟩
theorem bi_law_lost (T : HD K mg) : Binds K (fdOf K (He.ga K "_law_lost")) ["store", "high", "wide"] [] := (fd_law_lost T).bindsN fun _ _ _ _ _ _ us hl => match us, hl with | [_, _, _], _ => rfl
theorem ok_law_lost (T : HD K mg) : FnOk P w K mg base (L2N.CX P w) 6 (He.ga K "_law_lost") (fdOf K (He.ga K "_law_lost")) ["store", "high", "wide"] (spF (kx K) 3 m_law_lost) := by
  have nd := sc_law_lost.nd
  exact def_ok (G := kx K) (j := 5) (k := 1) (m := b_law_lost) (fd_law_lost T) sc_law_lost rfl rfl fun cdv A outer s H E hr => (qss_cons (qs_set 3 nd rfl (by first | exact Or.inl rfl | exact Or.inr rfl) (qo_lst (qa_cons (qe_frz (qo_call (n := 2) (ok_law_of T) (hr.mono (by decide)) rfl (T.glo 12) (fd_law_of T).kp (bi_law_of T) (fun σ => L2N.passAt (L2N.takes_of rfl rfl rfl rfl) σ) (qag_v (qe_frz (qo_lst (qa_cons (qe_tup (qa_cons qe_int (qa_cons qe_int qa_nil))) (qa_cons (qe_tup (qa_cons qe_int (qa_cons qe_int qa_nil))) (qa_cons (qe_tup (qa_cons qe_int (qa_cons qe_int qa_nil))) qa_nil))))) (qag_v qe_int qag_nil)) (len_agV (len_agV (fun _ _ _ h => len_agNil h))))) (qa_cons (qe_frz (qo_call (n := 2) (ok_law_of T) (hr.mono (by decide)) rfl (T.glo 12) (fd_law_of T).kp (bi_law_of T) (fun σ => L2N.passAt (L2N.takes_of rfl rfl rfl rfl) σ) (qag_v (qe_frz (qo_lst (qa_cons (qe_tup (qa_cons qe_int qa_nil)) (qa_cons (qe_tup (qa_cons qe_int (qa_cons qe_int qa_nil))) (qa_cons (qe_tup (qa_cons qe_int (qa_cons qe_int qa_nil))) qa_nil))))) (qag_v qe_int qag_nil)) (len_agV (len_agV (fun _ _ _ h => len_agNil h))))) qa_nil)))) (qss_cons (qs_if (qt_cmp op_gt s_gt (qe_var 1 (pv 1)) qe_int (nomark _)) (qss_one (qs_expr (qe_mut 3 PySem.F.plainAttrs_list PySem.F.slot_list_append PySem.F.type_list_append mt_append s_append (pv 3) (qa_cons (qe_frz (qo_call (n := 2) (ok_law_of T) (hr.mono (by decide)) rfl (T.glo 12) (fd_law_of T).kp (bi_law_of T) (fun σ => L2N.passAt (L2N.takes_of rfl rfl rfl rfl) σ) (qag_v (qe_frz (qo_lst (qa_cons (qe_tup (qa_cons qe_int qa_nil)) (qa_cons (qe_tup (qa_cons qe_int (qa_cons qe_int qa_nil))) (qa_cons (qe_tup (qa_cons qe_int (qa_cons qe_int qa_nil))) (qa_cons (qe_tup (qa_cons qe_int (qa_cons qe_int qa_nil))) qa_nil)))))) (qag_v qe_int qag_nil)) (len_agV (len_agV (fun _ _ _ h => len_agNil h))))) qa_nil)))) qss_nil) (qss_cons (qs_if (qt_cmp op_gt s_gt (qe_var 2 (pv 2)) qe_int (nomark _)) (qss_one (qs_expr (qe_mut 3 PySem.F.plainAttrs_list PySem.F.slot_list_append PySem.F.type_list_append mt_append s_append (pv 3) (qa_cons (qe_frz (qo_call (n := 1) (ok_law_turn T) (hr.mono (by decide)) rfl (T.glo 17) (fd_law_turn T).kp (bi_law_turn T) (fun σ => L2N.passAt (L2N.takes_of rfl rfl rfl rfl) σ) (qag_v (qe_frz (qo_call (n := 2) (ok_law_of T) (hr.mono (by decide)) rfl (T.glo 12) (fd_law_of T).kp (bi_law_of T) (fun σ => L2N.passAt (L2N.takes_of rfl rfl rfl rfl) σ) (qag_v (qe_frz (qo_lst (qa_cons (qe_tup (qa_cons qe_int qa_nil)) (qa_cons (qe_tup (qa_cons qe_int (qa_cons qe_int qa_nil))) (qa_cons (qe_tup (qa_cons qe_int (qa_cons qe_int qa_nil))) (qa_cons (qe_tup (qa_cons qe_int (qa_cons qe_int qa_nil))) qa_nil)))))) (qag_v qe_int qag_nil)) (len_agV (len_agV (fun _ _ _ h => len_agNil h))))) qag_nil) (len_agV (fun _ _ _ h => len_agNil h)))) qa_nil)))) qss_nil) (qss_cons (qs_if (qt_w (qw_and (qt_cmp op_gt s_gt (qe_var 1 (pv 1)) qe_int (nomark _)) (qw_and1 (qt_cmp op_gt s_gt (qe_var 2 (pv 2)) qe_int (nomark _))))) (qss_one (qs_expr (qe_mut 3 PySem.F.plainAttrs_list PySem.F.slot_list_append PySem.F.type_list_append mt_append s_append (pv 3) (qa_cons (qe_frz (qo_call (n := 1) (ok_law_not T) (hr.mono (by decide)) rfl (T.glo 24) (fd_law_not T).kp (bi_law_not T) (fun σ => L2N.passAt (L2N.takes_of rfl rfl rfl rfl) σ) (qag_v (qe_frz (qo_call (n := 1) (ok_law_unit T) (hr.mono (by decide)) rfl (T.glo 23) (fd_law_unit T).kp (bi_law_unit T) (fun σ => L2N.passAt (L2N.takes_of rfl rfl rfl rfl) σ) (qag_v qe_int qag_nil) (len_agV (fun _ _ _ h => len_agNil h)))) qag_nil) (len_agV (fun _ _ _ h => len_agNil h)))) qa_nil)))) qss_nil) (qss_one (qs_ret (qo_fro (qe_ix rfl (qe_frz (qo_call (n := 4) (ok_law_spread T) (hr.mono (by decide)) rfl (T.glo 22) (fd_law_spread T).kp (bi_law_spread T) (fun σ => L2N.passAt (L2N.takes_of rfl rfl rfl rfl) σ) (qag_io 0 (pv 0) (qag_v (qe_frz (qo_call (n := 2) (ok_law_pick T) (hr.mono (by decide)) rfl (T.glo 10) (fd_law_pick T).kp (bi_law_pick T) (fun σ => L2N.passAt (L2N.takes_of rfl rfl rfl rfl) σ) (qag_io 0 (pv 0) (qag_v (qe_var 3 (pv 3)) qag_nil)) (len_agIo (len_agV (fun _ _ _ h => len_agNil h))))) (qag_v (qe_var 1 (pv 1)) (qag_v (qe_var 2 (pv 2)) qag_nil)))) (len_agIo (len_agV (len_agV (len_agV (fun _ _ _ h => len_agNil h))))))) qe_int))))))))
theorem fd_law_rect (T : HD K mg) : FunD K "_law_rect" "_law_rect" (L2.defArgs s_law_rect) (L2.defBody s_law_rect) (L2.defScope s_law_rect) [] [] (He.ga K "_law_rect") (fdOf K (He.ga K "_law_rect")) := T.def_ 25
theorem sc_law_rect : FnScope ["store", "high", "wide", "many", "classes", "lots", "i", "one", "k"] ["store", "high", "wide"] (L2.defScope s_law_rect) := ⟨rfl, rfl, rfl, by decide +kernel, rfl, by decide +kernel, by decide +kernel⟩
theorem bi_law_rect (T : HD K mg) : Binds K (fdOf K (He.ga K "_law_rect")) ["store", "high", "wide"] [] := (fd_law_rect T).bindsN fun _ _ _ _ _ _ us hl => match us, hl with | [_, _, _], _ => rfl
theorem ok_law_rect (T : HD K mg) : FnOk P w K mg base (L2N.CX P w) 3 (He.ga K "_law_rect") (fdOf K (He.ga K "_law_rect")) ["store", "high", "wide"] (spF (kx K) 3 m_law_rect) := by
  have nd := sc_law_rect.nd
  exact def_ok (G := kx K) (j := 2) (k := 6) (m := b_law_rect) (fd_law_rect T) sc_law_rect rfl rfl fun cdv A outer s H E hr => (qss_cons (qs_set 3 nd rfl (by first | exact Or.inl rfl | exact Or.inr rfl) (qo_add rfl qe_int (qe_frz (qo_call (n := 2) (ok_law_take T) (hr.mono (by decide)) rfl (T.glo 3) (fd_law_take T).kp (bi_law_take T) (fun σ => L2N.passAt (L2N.takes_of rfl rfl rfl rfl) σ) (qag_io 0 (pv 0) (qag_v qe_int qag_nil)) (len_agIo (len_agV (fun _ _ _ h => len_agNil h))))))) (qss_cons (qs_set 4 nd rfl (by first | exact Or.inl rfl | exact Or.inr rfl) (qo_lc (own := [("k", 8)]) rfl (tgi_nm (by decide)) rfl nd (qi_range1 rfl (T.free 6) (qa_cons (qe_var 2 (pv 2)) qa_nil)) (blkOk_by (own := [("k", 8)]) (by kernel_rfl)) (fun _ _ _ _ _ => (qg_nm 8 nd rfl (by first | exact Or.inl rfl | exact Or.inr rfl))) (fun _ _ _ _ _ => qts_nil) (fun _ _ _ _ _ => (qe_frz (qo_call (n := 2) (ok_law_take T) (hr.mono (by decide)) rfl (T.glo 3) (fd_law_take T).kp (bi_law_take T) pass_w0 (qag_io 0 (pv 0) (qag_v (qe_frz (qo_add rfl (qe_var 3 (pv 3)) qe_int)) qag_nil)) (len_agIo (len_agV (fun _ _ _ h => len_agNil h)))))))) (qss_cons (qs_set 5 nd rfl (by first | exact Or.inl rfl | exact Or.inr rfl) (qo_lst qa_nil)) (qss_cons (qs_for rfl (passes_of rfl) rfl (qi_range1 rfl (T.free 6) (qa_cons (qe_var 1 (pv 1)) qa_nil)) (qg_nm 6 nd rfl (by first | exact Or.inl rfl | exact Or.inr rfl)) (qss_cons (qs_set 7 nd rfl (by first | exact Or.inl rfl | exact Or.inr rfl) (qo_call (n := 2) (ok_law_take T) (hr.mono (by decide)) rfl (T.glo 3) (fd_law_take T).kp (bi_law_take T) (fun σ => L2N.passAt (L2N.takes_of rfl rfl rfl rfl) σ) (qag_io 0 (pv 0) (qag_v (qe_frz (qo_add rfl (qe_var 3 (pv 3)) qe_int)) qag_nil)) (len_agIo (len_agV (fun _ _ _ h => len_agNil h))))) (qss_one (qs_expr (qe_mut 5 PySem.F.plainAttrs_list PySem.F.slot_list_append PySem.F.type_list_append mt_append s_append (pv 5) (qa_cons (qe_tuple rfl rfl (T.free 7) (qa_cons (qe_frz (qo_lc (own := [("k", 8)]) rfl (tgi_nm (by decide)) rfl nd (qi_range1 rfl (T.free 6) (qa_cons (qe_var 2 (pv 2)) qa_nil)) (blkOk_by (own := [("k", 8)]) (by kernel_rfl)) (fun _ _ _ _ _ => (qg_nm 8 nd rfl (by first | exact Or.inl rfl | exact Or.inr rfl))) (fun _ _ _ _ _ => (qts_one (qt_w (qw_and (qt_cmp (op_eqG hr.units) (s_eq rfl) (qe_ix rfl (qe_var 4 (pv 4)) (qe_var 8 (pv 8))) (qe_var 7 (pv 7)) (nomark _)) (qw_and1 (qt_cmp op_gt s_gt (qe_var 7 (pv 7)) qe_int (nomark _))))))) (fun _ _ _ _ _ => (qe_var 8 (pv 8))))) qa_nil)) qa_nil)))))) (qss_one (qs_ret (qo_call (n := 2) (ok_law_of T) (hr.mono (by decide)) rfl (T.glo 12) (fd_law_of T).kp (bi_law_of T) (fun σ => L2N.passAt (L2N.takes_of rfl rfl rfl rfl) σ) (qag_v (qe_var 5 (pv 5)) (qag_v (qe_var 2 (pv 2)) qag_nil)) (len_agV (len_agV (fun _ _ _ h => len_agNil h))))))))))
theorem fd_law_free (T : HD K mg) : FunD K "_law_free" "_law_free" (L2.defArgs s_law_free) (L2.defBody s_law_free) (L2.defScope s_law_free) [] [] (He.ga K "_law_free") (fdOf K (He.ga K "_law_free")) := T.def_ 26
theorem sc_law_free : FnScope ["store", "high", "wide", "kind", "lots", "i", "k"] ["store", "high", "wide"] (L2.defScope s_law_free) := ⟨rfl, rfl, rfl, by decide +kernel, rfl, by decide +kernel, by decide +kernel⟩
theorem bi_law_free (T : HD K mg) : Binds K (fdOf K (He.ga K "_law_free")) ["store", "high", "wide"] [] := (fd_law_free T).bindsN fun _ _ _ _ _ _ us hl => match us, hl with | [_, _, _], _ => rfl
theorem ok_law_free (T : HD K mg) : FnOk P w K mg base (L2N.CX P w) 3 (He.ga K "_law_free") (fdOf K (He.ga K "_law_free")) ["store", "high", "wide"] (spF (kx K) 3 m_law_free) := by
  have nd := sc_law_free.nd
  exact def_ok (G := kx K) (j := 2) (k := 4) (m := b_law_free) (fd_law_free T) sc_law_free rfl rfl fun cdv A outer s H E hr => (qss_cons (qs_set 3 nd rfl (by first | exact Or.inl rfl | exact Or.inr rfl) (qo_call (n := 2) (ok_law_take T) (hr.mono (by decide)) rfl (T.glo 3) (fd_law_take T).kp (bi_law_take T) (fun σ => L2N.passAt (L2N.takes_of rfl rfl rfl rfl) σ) (qag_io 0 (pv 0) (qag_v qe_int qag_nil)) (len_agIo (len_agV (fun _ _ _ h => len_agNil h))))) (qss_cons (qs_set 4 nd rfl (by first | exact Or.inl rfl | exact Or.inr rfl) (qo_lst qa_nil)) (qss_cons (qs_for rfl (passes_of rfl) rfl (qi_range1 rfl (T.free 6) (qa_cons (qe_var 1 (pv 1)) qa_nil)) (qg_nm 5 nd rfl (by first | exact Or.inl rfl | exact Or.inr rfl)) (qss_one (qs_if (qt_cmp (op_eqG hr.units) (s_eq rfl) (qe_var 3 (pv 3)) qe_int (nomark _)) (qss_one (qs_expr (qe_mut 4 PySem.F.plainAttrs_list PySem.F.slot_list_append PySem.F.type_list_append mt_append s_append (pv 4) (qa_cons (qe_tuple rfl rfl (T.free 7) (qa_cons (qe_frz (qo_lc (own := [("k", 6)]) rfl (tgi_nm (by decide)) rfl nd (qi_range1 rfl (T.free 6) (qa_cons (qe_var 2 (pv 2)) qa_nil)) (blkOk_by (own := [("k", 6)]) (by kernel_rfl)) (fun _ _ _ _ _ => (qg_nm 6 nd rfl (by first | exact Or.inl rfl | exact Or.inr rfl))) (fun _ _ _ _ _ => (qts_one (qt_cmp (op_eqG hr.units) (s_eq rfl) (qe_frz (qo_call (n := 2) (ok_law_take T) (hr.mono (by decide)) rfl (T.glo 3) (fd_law_take T).kp (bi_law_take T) pass_w0 (qag_io 0 (pv 0) (qag_v qe_int qag_nil)) (len_agIo (len_agV (fun _ _ _ h => len_agNil h))))) qe_int (nomark _)))) (fun _ _ _ _ _ => (qe_var 6 (pv 6))))) qa_nil)) qa_nil)))) (qss_one (qs_if (qt_cmp (op_eqG hr.units) (s_eq rfl) (qe_var 3 (pv 3)) qe_int (nomark _)) (qss_one (qs_expr (qe_mut 4 PySem.F.plainAttrs_list PySem.F.slot_list_append PySem.F.type_list_append mt_append s_append (pv 4) (qa_cons (qe_tuple rfl rfl (T.free 7) (qa_cons (qe_frz (qo_lc (own := [("k", 6)]) rfl (tgi_nm (by decide)) rfl nd (qi_range1 rfl (T.free 6) (qa_cons (qe_var 2 (pv 2)) qa_nil)) (blkOk_by (own := [("k", 6)]) (by kernel_rfl)) (fun _ _ _ _ _ => (qg_nm 6 nd rfl (by first | exact Or.inl rfl | exact Or.inr rfl))) (fun _ _ _ _ _ => (qts_one (qt_cmp (op_neG hr.units) (s_ne rfl) (qe_frz (qo_call (n := 2) (ok_law_take T) (hr.mono (by decide)) rfl (T.glo 3) (fd_law_take T).kp (bi_law_take T) pass_w0 (qag_io 0 (pv 0) (qag_v qe_int qag_nil)) (len_agIo (len_agV (fun _ _ _ h => len_agNil h))))) qe_int (nomark _)))) (fun _ _ _ _ _ => (qe_var 6 (pv 6))))) qa_nil)) qa_nil)))) (qss_one (qs_expr (qe_mut 4 PySem.F.plainAttrs_list PySem.F.slot_list_append PySem.F.type_list_append mt_append s_append (pv 4) (qa_cons (qe_tuple rfl rfl (T.free 7) (qa_cons (qe_frz (qo_lc (own := [("k", 6)]) rfl (tgi_nm (by decide)) rfl nd (qi_range1 rfl (T.free 6) (qa_cons (qe_var 2 (pv 2)) qa_nil)) (blkOk_by (own := [("k", 6)]) (by kernel_rfl)) (fun _ _ _ _ _ => (qg_nm 6 nd rfl (by first | exact Or.inl rfl | exact Or.inr rfl))) (fun _ _ _ _ _ => (qts_one (qt_cmp (op_eqG hr.units) (s_eq rfl) (qe_frz (qo_call (n := 2) (ok_law_take T) (hr.mono (by decide)) rfl (T.glo 3) (fd_law_take T).kp (bi_law_take T) pass_w0 (qag_io 0 (pv 0) (qag_v qe_int qag_nil)) (len_agIo (len_agV (fun _ _ _ h => len_agNil h))))) qe_int (nomark _)))) (fun _ _ _ _ _ => (qe_var 6 (pv 6))))) qa_nil)) qa_nil))))))))) (qss_one (qs_ret (qo_call (n := 2) (ok_law_of T) (hr.mono (by decide)) rfl (T.glo 12) (fd_law_of T).kp (bi_law_of T) (fun σ => L2N.passAt (L2N.takes_of rfl rfl rfl rfl) σ) (qag_v (qe_var 4 (pv 4)) (qag_v (qe_var 2 (pv 2)) qag_nil)) (len_agV (len_agV (fun _ _ _ h => len_agNil h)))))))))
theorem fd_law_grid (T : HD K mg) : FunD K "_law_grid" "_law_grid" (L2.defArgs s_law_grid) (L2.defBody s_law_grid) (L2.defScope s_law_grid) [] [] (He.ga K "_law_grid") (fdOf K (He.ga K "_law_grid")) := T.def_ 27
theorem sc_law_grid : FnScope ["store", "high", "wide", "kind", "shape", "lot", "lots", "i", "k"] ["store", "high", "wide"] (L2.defScope s_law_grid) := ⟨rfl, rfl, rfl, by decide +kernel, rfl, by decide +kernel, by decide +kernel⟩
theorem bi_law_grid (T : HD K mg) : Binds K (fdOf K (He.ga K "_law_grid")) ["store", "high", "wide"] [] := (fd_law_grid T).bindsN fun _ _ _ _ _ _ us hl => match us, hl with | [_, _, _], _ => rfl
theorem ok_law_grid (T : HD K mg) : FnOk P w K mg base (L2N.CX P w) 7 (He.ga K "_law_grid") (fdOf K (He.ga K "_law_grid")) ["store", "high", "wide"] (spF (kx K) 3 m_law_grid) := by
  have nd := sc_law_grid.nd
  exact def_ok (G := kx K) (j := 6) (k := 6) (m := b_law_grid) (fd_law_grid T) sc_law_grid rfl rfl fun cdv A outer s H E hr => (qss_cons (qs_set 3 nd rfl (by first | exact Or.inl rfl | exact Or.inr rfl) (qo_call (n := 2) (ok_law_take T) (hr.mono (by decide)) rfl (T.glo 3) (fd_law_take T).kp (bi_law_take T) (fun σ => L2N.passAt (L2N.takes_of rfl rfl rfl rfl) σ) (qag_io 0 (pv 0) (qag_v qe_int qag_nil)) (len_agIo (len_agV (fun _ _ _ h => len_agNil h))))) (qss_cons (qs_if (qt_cmp (op_eqG hr.units) (s_eq rfl) (qe_var 3 (pv 3)) qe_int (nomark _)) (qss_cons (qs_set 4 nd rfl (by first | exact Or.inl rfl | exact Or.inr rfl) (qo_call (n := 2) (ok_law_take T) (hr.mono (by decide)) rfl (T.glo 3) (fd_law_take T).kp (bi_law_take T) (fun σ => L2N.passAt (L2N.takes_of rfl rfl rfl rfl) σ) (qag_io 0 (pv 0) (qag_v qe_int qag_nil)) (len_agIo (len_agV (fun _ _ _ h => len_agNil h))))) (qss_cons (qs_set 5 nd rfl (by first | exact Or.inl rfl | exact Or.inr rfl) (qo_fro (qe_tuple rfl rfl (T.free 7) (qa_cons (qe_frz (qo_lc (own := [("k", 8)]) rfl (tgi_nm (by decide)) rfl nd (qi_range1 rfl (T.free 6) (qa_cons (qe_var 2 (pv 2)) qa_nil)) (blkOk_by (own := [("k", 8)]) (by kernel_rfl)) (fun _ _ _ _ _ => (qg_nm 8 nd rfl (by first | exact Or.inl rfl | exact Or.inr rfl))) (fun _ _ _ _ _ => qts_nil) (fun _ _ _ _ _ => (qe_var 8 (pv 8))))) qa_nil)))) (qss_cons (qs_setLc (own := [("i", 7)]) rfl 6 (tgi_nm (by decide)) rfl nd rfl rfl (sw_true rfl rfl rfl (by decide +kernel)) (qi_range1 rfl (T.free 6) (qa_cons (qe_var 1 (pv 1)) qa_nil)) (blkOk_by (own := [("i", 7)]) (by kernel_rfl)) (fun _ _ _ _ _ => (qg_nm 7 nd rfl (by first | exact Or.inl rfl | exact Or.inr rfl))) (fun _ _ _ _ _ => qts_nil) (fun _ _ _ _ _ => (qe_ix rfl (qe_frz (qo_lst (qa_cons (qe_tup qa_nil) (qa_cons (qe_var 5 (pv 5)) (qa_cons (qe_tuple rfl rfl (T.free 7) (qa_cons (qe_frz (qo_lc (own := [("k", 8)]) rfl (tgi_nm (by decide)) rfl nd (qi_range1 rfl (T.free 6) (qa_cons (qe_var 2 (pv 2)) qa_nil)) (blkOk_by (own := [("k", 8)]) (by kernel_rfl)) (fun _ _ _ _ _ => (qg_nm 8 nd rfl (by first | exact Or.inl rfl | exact Or.inr rfl))) (fun _ _ _ _ _ => (qts_one (qt_cmp (op_eqG hr.units) (s_eq rfl) (qe_var 8 (pv 8)) (qe_var 7 (pv 7)) (nomark _)))) (fun _ _ _ _ _ => (qe_var 8 (pv 8))))) qa_nil)) qa_nil))))) (qe_var 4 (pv 4))))) (qss_one (qs_ret (qo_call (n := 2) (ok_law_of T) (hr.mono (by decide)) rfl (T.glo 12) (fd_law_of T).kp (bi_law_of T) (fun σ => L2N.passAt (L2N.takes_of rfl rfl rfl rfl) σ) (qag_v (qe_var 6 (pv 6)) (qag_v (qe_var 2 (pv 2)) qag_nil)) (len_agV (len_agV (fun _ _ _ h => len_agNil h))))))))) qss_nil) (qss_cons (qs_if (qt_cmp (op_eqG hr.units) (s_eq rfl) (qe_var 3 (pv 3)) qe_int (nomark _)) (qss_one (qs_ret (qo_call (n := 3) (ok_law_twin T) (hr.mono (by decide)) rfl (T.glo 25) (fd_law_twin T).kp (bi_law_twin T) (fun σ => L2N.passAt (L2N.takes_of rfl rfl rfl rfl) σ) (qag_io 0 (pv 0) (qag_v (qe_var 1 (pv 1)) (qag_v (qe_var 2 (pv 2)) qag_nil))) (len_agIo (len_agV (len_agV (fun _ _ _ h => len_agNil h))))))) qss_nil) (qss_cons (qs_if (qt_cmp (op_eqG hr.units) (s_eq rfl) (qe_var 3 (pv 3)) qe_int (nomark _)) (qss_one (qs_ret (qo_call (n := 1) (ok_law_turn T) (hr.mono (by decide)) rfl (T.glo 17) (fd_law_turn T).kp (bi_law_turn T) (fun σ => L2N.passAt (L2N.takes_of rfl rfl rfl rfl) σ) (qag_v (qe_frz (qo_call (n := 3) (ok_law_twin T) (hr.mono (by decide)) rfl (T.glo 25) (fd_law_twin T).kp (bi_law_twin T) (fun σ => L2N.passAt (L2N.takes_of rfl rfl rfl rfl) σ) (qag_io 0 (pv 0) (qag_v (qe_var 2 (pv 2)) (qag_v (qe_var 1 (pv 1)) qag_nil))) (len_agIo (len_agV (len_agV (fun _ _ _ h => len_agNil h)))))) qag_nil) (len_agV (fun _ _ _ h => len_agNil h))))) qss_nil) (qss_cons (qs_if (qt_cmp (op_eqG hr.units) (s_eq rfl) (qe_var 3 (pv 3)) qe_int (nomark _)) (qss_one (qs_ret (qo_call (n := 4) (ok_law_way T) (hr.mono (by decide)) rfl (T.glo 27) (fd_law_way T).kp (bi_law_way T) (fun σ => L2N.passAt (L2N.takes_of rfl rfl rfl rfl) σ) (qag_io 0 (pv 0) (qag_v (qe_frz (qo_call (n := 3) (ok_law_between T) (hr.mono (by decide)) rfl (T.glo 26) (fd_law_between T).kp (bi_law_between T) (fun σ => L2N.passAt (L2N.takes_of rfl rfl rfl rfl) σ) (qag_io 0 (pv 0) (qag_v qe_int (qag_v (qe_min2 rfl rfl (T.free 4) (qa_cons (qe_var 1 (pv 1)) (qa_cons (qe_var 2 (pv 2)) qa_nil))) qag_nil))) (len_agIo (len_agV (len_agV (fun _ _ _ h => len_agNil h)))))) (qag_v (qe_var 1 (pv 1)) (qag_v (qe_var 2 (pv 2)) qag_nil)))) (len_agIo (len_agV (len_agV (len_agV (fun _ _ _ h => len_agNil h)))))))) qss_nil) (qss_cons (qs_if (qt_w (qw_and (qt_cmp (op_eqG hr.units) (s_eq rfl) (qe_var 3 (pv 3)) qe_int (nomark _)) (qw_and (qt_cmp op_gt s_gt (qe_var 1 (pv 1)) qe_int (nomark _)) (qw_and1 (qt_cmp op_gt s_gt (qe_var 2 (pv 2)) qe_int (nomark _)))))) (qss_one (qs_ret (qo_call (n := 3) (ok_law_lost T) (hr.mono (by decide)) rfl (T.glo 28) (fd_law_lost T).kp (bi_law_lost T) (fun σ => L2N.passAt (L2N.takes_of rfl rfl rfl rfl) σ) (qag_io 0 (pv 0) (qag_v (qe_var 1 (pv 1)) (qag_v (qe_var 2 (pv 2)) qag_nil))) (len_agIo (len_agV (len_agV (fun _ _ _ h => len_agNil h))))))) qss_nil) (qss_cons (qs_if (qt_cmp (op_eqG hr.units) (s_eq rfl) (qe_var 3 (pv 3)) qe_int (nomark _)) (qss_one (qs_ret (qo_call (n := 3) (ok_law_rect T) (hr.mono (by decide)) rfl (T.glo 29) (fd_law_rect T).kp (bi_law_rect T) (fun σ => L2N.passAt (L2N.takes_of rfl rfl rfl rfl) σ) (qag_io 0 (pv 0) (qag_v (qe_var 1 (pv 1)) (qag_v (qe_var 2 (pv 2)) qag_nil))) (len_agIo (len_agV (len_agV (fun _ _ _ h => len_agNil h))))))) qss_nil) (qss_one (qs_ret (qo_call (n := 3) (ok_law_free T) (hr.mono (by decide)) rfl (T.glo 30) (fd_law_free T).kp (bi_law_free T) (fun σ => L2N.passAt (L2N.takes_of rfl rfl rfl rfl) σ) (qag_io 0 (pv 0) (qag_v (qe_var 1 (pv 1)) (qag_v (qe_var 2 (pv 2)) qag_nil))) (len_agIo (len_agV (len_agV (fun _ _ _ h => len_agNil h))))))))))))))
theorem fd_law_any (T : HD K mg) : FunD K "_law_any" "_law_any" (L2.defArgs s_law_any) (L2.defBody s_law_any) (L2.defScope s_law_any) [] [] (He.ga K "_law_any") (fdOf K (He.ga K "_law_any")) := T.def_ 28
theorem sc_law_any : FnScope ["store", "most_high", "most_wide", "sizes"] ["store", "most_high", "most_wide"] (L2.defScope s_law_any) := ⟨rfl, rfl, rfl, by decide +kernel, rfl, by decide +kernel, by decide +kernel⟩
theorem bi_law_any (T : HD K mg) : Binds K (fdOf K (He.ga K "_law_any")) ["store", "most_high", "most_wide"] [] := (fd_law_any T).bindsN fun _ _ _ _ _ _ us hl => match us, hl with | [_, _, _], _ => rfl
theorem ok_law_any (T : HD K mg) : FnOk P w K mg base (L2N.CX P w) 8 (He.ga K "_law_any") (fdOf K (He.ga K "_law_any")) ["store", "most_high", "most_wide"] (spF (kx K) 3 m_law_any) := by
  have nd := sc_law_any.nd
  exact def_ok (G := kx K) (j := 7) (k := 1) (m := b_law_any) (fd_law_any T) sc_law_any rfl rfl fun cdv A outer s H E hr => (qss_cons (qs_set 3 nd rfl (by first | exact Or.inl rfl | exact Or.inr rfl) (qo_call (n := 3) (ok_law_sizes T) (hr.mono (by decide)) rfl (T.glo 31) (fd_law_sizes T).kp (bi_law_sizes T) (fun σ => L2N.passAt (L2N.takes_of rfl rfl rfl rfl) σ) (qag_io 0 (pv 0) (qag_v (qe_var 1 (pv 1)) (qag_v (qe_var 2 (pv 2)) qag_nil))) (len_agIo (len_agV (len_agV (fun _ _ _ h => len_agNil h)))))) (qss_one (qs_ret (qo_call (n := 3) (ok_law_grid T) (hr.mono (by decide)) rfl (T.glo 32) (fd_law_grid T).kp (bi_law_grid T) (fun σ => L2N.passAt (L2N.takes_of rfl rfl rfl rfl) σ) (qag_io 0 (pv 0) (qag_v (qe_ix rfl (qe_var 3 (pv 3)) qe_int) (qag_v (qe_ix rfl (qe_var 3 (pv 3)) qe_int) qag_nil))) (len_agIo (len_agV (len_agV (fun _ _ _ h => len_agNil h))))))))
theorem fd_law_less (T : HD K mg) : FunD K "_law_less" "_law_less" (L2.defArgs s_law_less) (L2.defBody s_law_less) (L2.defScope s_law_less) [] [] (He.ga K "_law_less") (fdOf K (He.ga K "_law_less")) := T.def_ 29
theorem sc_law_less : FnScope ["one", "other", "k"] ["one", "other"] (L2.defScope s_law_less) := ⟨rfl, rfl, rfl, by decide +kernel, rfl, by decide +kernel, by decide +kernel⟩
theorem bi_law_less (T : HD K mg) : Binds K (fdOf K (He.ga K "_law_less")) ["one", "other"] [] := (fd_law_less T).bindsN fun _ _ _ _ _ _ us hl => match us, hl with | [_, _], _ => rfl
theorem ok_law_less (T : HD K mg) : FnOk P w K mg base (L2N.CX P w) 1 (He.ga K "_law_less") (fdOf K (He.ga K "_law_less")) ["one", "other"] (spF (kx K) 2 m_law_less) := by
  have nd := sc_law_less.nd
  exact def_ok (G := kx K) (j := 0) (k := 1) (m := b_law_less) (fd_law_less T) sc_law_less rfl rfl fun cdv A outer s H E hr => (qss_one (qs_ret (qo_fro (qe_tuple rfl rfl (T.free 7) (qa_cons (qe_frz (qo_lc (own := [("k", 2)]) rfl (tgi_nm (by decide)) rfl nd (qi_seq rfl (qe_var 0 (pv 0))) (blkOk_by (own := [("k", 2)]) (by kernel_rfl)) (fun _ _ _ _ _ => (qg_nm 2 nd rfl (by first | exact Or.inl rfl | exact Or.inr rfl))) (fun _ _ _ _ _ => (qts_one (qt_cmp (op_notInG (hu65 hr)) (s_notIn rfl) (qe_var 2 (pv 2)) (qe_var 1 (pv 1)) rfl))) (fun _ _ _ _ _ => (qe_var 2 (pv 2))))) qa_nil)))))
theorem fd_law_flip (T : HD K mg) : FunD K "_law_flip" "_law_flip" (L2.defArgs s_law_flip) (L2.defBody s_law_flip) (L2.defScope s_law_flip) [] [] (He.ga K "_law_flip") (fdOf K (He.ga K "_law_flip")) := T.def_ 30
theorem sc_law_flip : FnScope ["grid", "i", "k", "lots"] ["grid", "i", "k"] (L2.defScope s_law_flip) := ⟨rfl, rfl, rfl, by decide +kernel, rfl, by decide +kernel, by decide +kernel⟩
theorem bi_law_flip (T : HD K mg) : Binds K (fdOf K (He.ga K "_law_flip")) ["grid", "i", "k"] [] := (fd_law_flip T).bindsN fun _ _ _ _ _ _ us hl => match us, hl with | [_, _, _], _ => rfl
theorem ok_law_flip (T : HD K mg) : FnOk P w K mg base (L2N.CX P w) 2 (He.ga K "_law_flip") (fdOf K (He.ga K "_law_flip")) ["grid", "i", "k"] (spF (kx K) 3 m_law_flip) := by
  have nd := sc_law_flip.nd
  exact def_ok (G := kx K) (j := 1) (k := 1) (m := b_law_flip) (fd_law_flip T) sc_law_flip rfl rfl fun cdv A outer s H E hr => (qss_cons (qs_set 3 nd rfl (by first | exact Or.inl rfl | exact Or.inr rfl) (qo_call (n := 1) (ok_law_lots T) (hr.mono (by decide)) rfl (T.glo 14) (fd_law_lots T).kp (bi_law_lots T) (fun σ => L2N.passAt (L2N.takes_of rfl rfl rfl rfl) σ) (qag_v (qe_var 0 (pv 0)) qag_nil) (len_agV (fun _ _ _ h => len_agNil h)))) (qss_cons (qs_if (qt_cmp (op_inG (hu65 hr)) (s_in rfl) (qe_var 2 (pv 2)) (qe_ixO 3 (pv 3) (qe_var 1 (pv 1))) rfl) (qss_one (qs_putO 3 (qe_frz (qo_call (n := 2) (ok_law_less T) (hr.mono (by decide)) rfl (T.glo 33) (fd_law_less T).kp (bi_law_less T) (fun σ => L2N.passAt (L2N.takes_of rfl rfl rfl rfl) σ) (qag_v (qe_ixO 3 (pv 3) (qe_var 1 (pv 1))) (qag_v (qe_tup (qa_cons (qe_var 2 (pv 2)) qa_nil)) qag_nil)) (len_agV (len_agV (fun _ _ _ h => len_agNil h))))) (pv 3) (qe_var 1 (pv 1)))) (qss_one (qs_putO 3 (qe_frz (qo_call (n := 1) (ok_law_join T) (hr.mono (by decide)) rfl (T.glo 11) (fd_law_join T).kp (bi_law_join T) (fun σ => L2N.passAt (L2N.takes_of rfl rfl rfl rfl) σ) (qag_v (qe_frz (qo_lst (qa_cons (qe_ixO 3 (pv 3) (qe_var 1 (pv 1))) (qa_cons (qe_tup (qa_cons (qe_var 2 (pv 2)) qa_nil)) qa_nil)))) qag_nil) (len_agV (fun _ _ _ h => len_agNil h)))) (pv 3) (qe_var 1 (pv 1))))) (qss_one (qs_ret (qo_call (n := 2) (ok_law_of T) (hr.mono (by decide)) rfl (T.glo 12) (fd_law_of T).kp (bi_law_of T) (fun σ => L2N.passAt (L2N.takes_of rfl rfl rfl rfl) σ) (qag_v (qe_var 3 (pv 3)) (qag_v (qe_ix rfl (qe_var 0 (pv 0)) qe_int) qag_nil)) (len_agV (len_agV (fun _ _ _ h => len_agNil h))))))))
theorem fd_law_bent_grid (T : HD K mg) : FunD K "_law_bent_grid" "_law_bent_grid" (L2.defArgs s_law_bent_grid) (L2.defBody s_law_bent_grid) (L2.defScope s_law_bent_grid) [] [] (He.ga K "_law_bent_grid") (fdOf K (He.ga K "_law_bent_grid")) := T.def_ 31
theorem sc_law_bent_grid : FnScope ["store", "grid", "spot"] ["store", "grid"] (L2.defScope s_law_bent_grid) := ⟨rfl, rfl, rfl, by decide +kernel, rfl, by decide +kernel, by decide +kernel⟩
theorem bi_law_bent_grid (T : HD K mg) : Binds K (fdOf K (He.ga K "_law_bent_grid")) ["store", "grid"] [] := (fd_law_bent_grid T).bindsN fun _ _ _ _ _ _ us hl => match us, hl with | [_, _], _ => rfl
theorem ok_law_bent_grid (T : HD K mg) : FnOk P w K mg base (L2N.CX P w) 3 (He.ga K "_law_bent_grid") (fdOf K (He.ga K "_law_bent_grid")) ["store", "grid"] (spF (kx K) 2 m_law_bent_grid) := by
  have nd := sc_law_bent_grid.nd
  exact def_ok (G := kx K) (j := 2) (k := 1) (m := b_law_bent_grid) (fd_law_bent_grid T) sc_law_bent_grid rfl rfl fun cdv A outer s H E hr => (qss_cons (qs_set 2 nd rfl (by first | exact Or.inl rfl | exact Or.inr rfl) (qo_call (n := 2) (ok_law_take T) (hr.mono (by decide)) rfl (T.glo 3) (fd_law_take T).kp (bi_law_take T) (fun σ => L2N.passAt (L2N.takes_of rfl rfl rfl rfl) σ) (qag_io 0 (pv 0) (qag_v (qe_frz (qo_mul (qe_ix rfl (qe_var 1 (pv 1)) qe_int) (qe_ix rfl (qe_var 1 (pv 1)) qe_int))) qag_nil)) (len_agIo (len_agV (fun _ _ _ h => len_agNil h))))) (qss_cons (qs_if (qt_cmp (op_eqG hr.units) (s_eq rfl) (qe_frz (qo_mul (qe_ix rfl (qe_var 1 (pv 1)) qe_int) (qe_ix rfl (qe_var 1 (pv 1)) qe_int))) qe_int (nomark _)) (qss_one (qs_ret (qo_fro (qe_var 1 (pv 1))))) qss_nil) (qss_one (qs_ret (qo_call (n := 3) (ok_law_flip T) (hr.mono (by decide)) rfl (T.glo 34) (fd_law_flip T).kp (bi_law_flip T) (fun σ => L2N.passAt (L2N.takes_of rfl rfl rfl rfl) σ) (qag_v (qe_var 1 (pv 1)) (qag_v (q_bin backD op_fdivW s_fdiv (qe_var 2 (pv 2)) (qe_ix rfl (qe_var 1 (pv 1)) qe_int)) (qag_v (q_bin backD op_mod s_mod (qe_intc rfl (T.free 0) (qa_cons (qe_var 2 (pv 2)) qa_nil)) (qe_ix rfl (qe_var 1 (pv 1)) qe_int)) qag_nil))) (len_agV (len_agV (len_agV (fun _ _ _ h => len_agNil h)))))))))
theorem fd_BadTable_init (T : HD K mg) : FunD K "__init__" "BadTable.__init__" (L2.defArgs s_BadTable_init) (L2.defBody s_BadTable_init) (L2.defScope s_BadTable_init) [] [] (He.ma K (He.ga K "BadTable") "__init__") (fdOf K (He.ma K (He.ga K "BadTable") "__init__")) := T.def_ 32
theorem sc_BadTable_init : FnScope ["self", "row"] ["self", "row"] (L2.defScope s_BadTable_init) := ⟨rfl, rfl, rfl, by decide +kernel, rfl, by decide +kernel, by decide +kernel⟩
theorem bi_BadTable_init (T : HD K mg) : Binds K (fdOf K (He.ma K (He.ga K "BadTable") "__init__")) ["self", "row"] [] := (fd_BadTable_init T).bindsN fun _ _ _ _ _ _ us hl => match us, hl with | [_, _], _ => rfl
theorem okI_BadTable (T : HD K mg) : FnOk P w K mg base (L2N.CX P w) 1 (He.ma K (He.ga K "BadTable") "__init__") (fdOf K (He.ma K (He.ga K "BadTable") "__init__")) ["self", "row"] (spI (He.ga K "BadTable") ["row"]) := by
  have nd := sc_BadTable_init.nd
  exact init1 (fd_BadTable_init T) sc_BadTable_init ((kok T).err 4 _ _ rfl).ox ((eini_BadTable T).no "row" (by decide)) fun cdv A outer s H E hr => pss_one (ps_ost (pv 0) (pv 1))
theorem fd_in_range (T : HD K mg) : FunD K "in_range" "in_range" (L2.defArgs s_in_range) (L2.defBody s_in_range) (L2.defScope s_in_range) [] [] (He.ga K "in_range") (fdOf K (He.ga K "in_range")) := T.def_ 33
theorem sc_in_range : FnScope ["value", "below"] ["value", "below"] (L2.defScope s_in_range) := ⟨rfl, rfl, rfl, by decide +kernel, rfl, by decide +kernel, by decide +kernel⟩
theorem bi_in_range (T : HD K mg) : Binds K (fdOf K (He.ga K "in_range")) ["value", "below"] [] := (fd_in_range T).bindsN fun _ _ _ _ _ _ us hl => match us, hl with | [_, _], _ => rfl
theorem ok_in_range (T : HD K mg) : FnOk P w K mg base (L2N.CX P w) 1 (He.ga K "in_range") (fdOf K (He.ga K "in_range")) ["value", "below"] (spF (kx K) 2 m_in_range) := by
  have nd := sc_in_range.nd
  exact def_ok (G := kx K) (j := 0) (k := 0) (m := b_in_range) (fd_in_range T) sc_in_range rfl rfl fun cdv A outer s H E hr => (qss_one (qs_ret (qo_fro (qe_and (qe_isi (kok T) rfl (k := (.ty "int")) rfl rfl rfl (T.free 35) (qe_var 0 (pv 0)) (pe_bltn (v := .ty "int") rfl (T.free 0) (by decide +kernel) rfl)) (qe_and (qe_not (qe_isi (kok T) rfl (k := (.ty "bool")) rfl rfl rfl (T.free 35) (qe_var 0 (pv 0)) (pe_bltn (v := .ty "bool") rfl (T.free 36) (by decide +kernel) rfl))) (qe_one_and (q_chain op_le op_lt k_i2 s_lt qe_int (qe_var 0 (pv 0)) (qe_var 1 (pv 1)))))))))
theorem fd_width_of (T : HD K mg) : FunD K "width_of" "width_of" (L2.defArgs s_width_of) (L2.defBody s_width_of) (L2.defScope s_width_of) [] [] (He.ga K "width_of") (fdOf K (He.ga K "width_of")) := T.def_ 34
theorem sc_width_of : FnScope ["rows", "width"] ["rows", "width"] (L2.defScope s_width_of) := ⟨rfl, rfl, rfl, by decide +kernel, rfl, by decide +kernel, by decide +kernel⟩
theorem bi_width_of (T : HD K mg) : Binds K (fdOf K (He.ga K "width_of")) ["rows", "width"] [] := (fd_width_of T).bindsN fun _ _ _ _ _ _ us hl => match us, hl with | [_, _], _ => rfl
theorem ok_width_of (T : HD K mg) : FnOk P w K mg base (L2N.CX P w) 1 (He.ga K "width_of") (fdOf K (He.ga K "width_of")) ["rows", "width"] (spF (kx K) 2 m_width_of) := by
  have nd := sc_width_of.nd
  exact def_ok (G := kx K) (j := 0) (k := 0) (m := b_width_of) (fd_width_of T) sc_width_of rfl rfl fun cdv A outer s H E hr => (qss_cons (qs_if (qt_cmp (op_notN.or op_notBl) s_isNot (qe_var 1 (pv 1)) qe_non (nomark _)) (qss_one (qs_ret (qo_fro (qe_var 1 (pv 1))))) qss_nil) (qss_cons (qs_if (qt_w (qw_or (qt_cmp (op_eqG hr.units) (s_eq rfl) (qe_len rfl rfl (T.free 1) (qa_cons (qe_var 0 (pv 0)) qa_nil)) qe_int (nomark _)) (qw_or1 (qt_not (qt_tru rfl (qe_isisA (kok T) rfl (ks := [(.ty "list"), (.ty "tuple")]) (.cons rfl (.cons rfl .nil)) (.cons (.ty _) (.cons (.ty _) .nil)) rfl (T.free 35) (qe_ix rfl (qe_var 0 (pv 0)) qe_int) (pa_cons (pe_bltn (v := .ty "list") rfl (T.free 37) (by decide +kernel) rfl) (pa_cons (pe_bltn (v := .ty "tuple") rfl (T.free 7) (by decide +kernel) rfl) pa_nil)) (fun _ _ _ h => h) (Nat.le_of_ble_eq_true rfl)) (by intro _; rfl)))))) (qss_one (qs_ret (qo_fro qe_int))) qss_nil) (qss_one (qs_ret (qo_fro (qe_len rfl rfl (T.free 1) (qa_cons (qe_ix rfl (qe_var 0 (pv 0)) qe_int) qa_nil)))))))
theorem fd_is_row (T : HD K mg) : FunD K "is_row" "is_row" (L2.defArgs s_is_row) (L2.defBody s_is_row) (L2.defScope s_is_row) [] [] (He.ga K "is_row") (fdOf K (He.ga K "is_row")) := T.def_ 35
theorem sc_is_row : FnScope ["value", "width", "cell"] ["value", "width"] (L2.defScope s_is_row) := ⟨rfl, rfl, rfl, by decide +kernel, rfl, by decide +kernel, by decide +kernel⟩
theorem bi_is_row (T : HD K mg) : Binds K (fdOf K (He.ga K "is_row")) ["value", "width"] [] := (fd_is_row T).bindsN fun _ _ _ _ _ _ us hl => match us, hl with | [_, _], _ => rfl
theorem ok_is_row (T : HD K mg) : FnOk P w K mg base (L2N.CX P w) 1 (He.ga K "is_row") (fdOf K (He.ga K "is_row")) ["value", "width"] (spF (kx K) 2 m_is_row) := by
  have nd := sc_is_row.nd
  exact def_ok (G := kx K) (j := 0) (k := 1) (m := b_is_row) (fd_is_row T) sc_is_row rfl rfl fun cdv A outer s H E hr => (qss_cons (qs_if (qt_w (qw_or (qt_not (qt_tru rfl (qe_isisA (kok T) rfl (ks := [(.ty "list"), (.ty "tuple")]) (.cons rfl (.cons rfl .nil)) (.cons (.ty _) (.cons (.ty _) .nil)) rfl (T.free 35) (qe_var 0 (pv 0)) (pa_cons (pe_bltn (v := .ty "list") rfl (T.free 37) (by decide +kernel) rfl) (pa_cons (pe_bltn (v := .ty "tuple") rfl (T.free 7) (by decide +kernel) rfl) pa_nil)) (fun _ _ _ h => h) (Nat.le_of_ble_eq_true rfl)) (by intro _; rfl))) (qw_or (qt_cmp op_gt s_gt (qe_len rfl rfl (T.free 1) (qa_cons (qe_var 0 (pv 0)) qa_nil)) (qe_glob_int rfl (T.int 38)) (nomark _)) (qw_or1 (qt_cmp (op_neG hr.units) (s_ne rfl) (qe_len rfl rfl (T.free 1) (qa_cons (qe_var 0 (pv 0)) qa_nil)) (qe_var 1 (pv 1)) (nomark _)))))) (qss_one (qs_ret (qo_fro qe_bl))) qss_nil) (qss_one (qs_ret (qo_fro (qe_all rfl rfl rfl (T.free 39) (qa_cons (qe_frz (qo_lc (own := [("cell", 2)]) rfl (tgi_nm (by decide)) rfl nd (qi_seq rfl (qe_var 0 (pv 0))) (blkOk_by (own := [("cell", 2)]) (by kernel_rfl)) (fun _ _ _ _ _ => (qg_nm 2 nd rfl (by first | exact Or.inl rfl | exact Or.inr rfl))) (fun _ _ _ _ _ => qts_nil) (fun _ _ _ _ _ => (qe_isi (kok T) rfl (k := (.ty "bool")) rfl rfl rfl (T.free 35) (qe_var 2 (pv 2)) (pe_bltn (v := .ty "bool") rfl (T.free 36) (by decide +kernel) rfl))))) qa_nil))))))
theorem fd_first_unfit (T : HD K mg) : FunD K "first_unfit" "first_unfit" (L2.defArgs s_first_unfit) (L2.defBody s_first_unfit) (L2.defScope s_first_unfit) [] [] (He.ga K "first_unfit") (fdOf K (He.ga K "first_unfit")) := T.def_ 36
theorem sc_first_unfit : FnScope ["rows", "width", "at", "row"] ["rows", "width"] (L2.defScope s_first_unfit) := ⟨rfl, rfl, rfl, by decide +kernel, rfl, by decide +kernel, by decide +kernel⟩
theorem bi_first_unfit (T : HD K mg) : Binds K (fdOf K (He.ga K "first_unfit")) ["rows", "width"] [] := (fd_first_unfit T).bindsN fun _ _ _ _ _ _ us hl => match us, hl with | [_, _], _ => rfl
theorem ok_first_unfit (T : HD K mg) : FnOk P w K mg base (L2N.CX P w) 2 (He.ga K "first_unfit") (fdOf K (He.ga K "first_unfit")) ["rows", "width"] (spF (kx K) 2 m_first_unfit) := by
  have nd := sc_first_unfit.nd
  exact def_ok (G := kx K) (j := 1) (k := 2) (m := b_first_unfit) (fd_first_unfit T) sc_first_unfit rfl rfl fun cdv A outer s H E hr => (qss_cons (qs_for rfl (passes_of rfl) rfl (qi_enum2 rfl rfl (T.free 40) (qa_cons (qe_var 0 (pv 0)) qa_nil)) (pg_tup rfl (pgs_cons (pg_name (i := 2) nd rfl (by first | exact Or.inl rfl | exact Or.inr rfl)) (pgs_cons (pg_name (i := 3) nd rfl (by first | exact Or.inl rfl | exact Or.inr rfl)) pgs_nil))) (qss_one (qs_if (qt_not (qt_tru rfl (qe_frz (qo_call (n := 2) (ok_is_row T) (hr.mono (by decide)) rfl (T.glo 41) (fd_is_row T).kp (bi_is_row T) (fun σ => L2N.passAt (L2N.takes_of rfl rfl rfl rfl) σ) (qag_v (qe_var 3 (pv 3)) (qag_v (qe_var 1 (pv 1)) qag_nil)) (len_agV (len_agV (fun _ _ _ h => len_agNil h))))) (by intro _; rfl))) (qss_one (qs_ret (qo_fro (qe_var 2 (pv 2))))) qss_nil))) (qss_one (qs_ret (qo_fro qe_non))))
theorem fd_Table_init (T : HD K mg) : FunD K "__init__" "Table.__init__" (L2.defArgs s_Table_init) (L2.defBody s_Table_init) (L2.defScope s_Table_init) [] [("width", .non)] (He.ma K (He.ga K "Table") "__init__") (fdOf K (He.ma K (He.ga K "Table") "__init__")) := T.def_ 37
theorem sc_Table_init : FnScope ["self", "rows", "width", "wide", "unfit", "row"] ["self", "rows", "width"] (L2.defScope s_Table_init) := ⟨rfl, rfl, rfl, by decide +kernel, rfl, by decide +kernel, by decide +kernel⟩
theorem ok_Table_init (T : HD K mg) : FnOk P w K mg base (L2N.CX P w) 3 (He.ma K (He.ga K "Table") "__init__") (fdOf K (He.ma K (He.ga K "Table") "__init__")) ["self", "rows", "width"] (spF (kx K) 3 m_Table_init) := by
  have nd := sc_Table_init.nd
  exact def_ok (G := kx K) (j := 2) (k := 3) (m := b_Table_init) (fd_Table_init T) sc_Table_init rfl rfl fun cdv A outer s H E hr => (qss_cons (qs_if (qt_w (qw_or (qt_not (qt_tru rfl (qe_isisA (kok T) rfl (ks := [(.ty "list"), (.ty "tuple")]) (.cons rfl (.cons rfl .nil)) (.cons (.ty _) (.cons (.ty _) .nil)) rfl (T.free 35) (qe_var 1 (pv 1)) (pa_cons (pe_bltn (v := .ty "list") rfl (T.free 37) (by decide +kernel) rfl) (pa_cons (pe_bltn (v := .ty "tuple") rfl (T.free 7) (by decide +kernel) rfl) pa_nil)) (fun _ _ _ h => h) (Nat.le_of_ble_eq_true rfl)) (by intro _; rfl))) (qw_or1 (qt_cmp op_gt s_gt (qe_len rfl rfl (T.free 1) (qa_cons (qe_var 1 (pv 1)) qa_nil)) (qe_glob_int rfl (T.int 38)) (nomark _))))) (qss_one (qs_raise (cc := 4) rfl rfl rfl (kok T) (eini_BadTable T) (okI_BadTable T) (hr.mono (by decide)) (bi_BadTable_init T) (L2N.takes_of rfl rfl rfl rfl) rfl (T.glo 42) (qa_cons qe_non qa_nil) rfl (by decide))) qss_nil) (qss_cons (qs_if (qt_w (qw_and (qt_cmp (op_notN.or op_notBl) s_isNot (qe_var 2 (pv 2)) qe_non (nomark _)) (qw_and1 (qt_not (qt_tru rfl (qe_frz (qo_call (n := 2) (ok_in_range T) (hr.mono (by decide)) rfl (T.glo 43) (fd_in_range T).kp (bi_in_range T) (fun σ => L2N.passAt (L2N.takes_of rfl rfl rfl rfl) σ) (qag_v (qe_var 2 (pv 2)) (qag_v (qe_frz (qo_add rfl (qe_glob_int rfl (T.int 38)) qe_int)) qag_nil)) (len_agV (len_agV (fun _ _ _ h => len_agNil h))))) (by intro _; rfl)))))) (qss_one (qs_raise (cc := 4) rfl rfl rfl (kok T) (eini_BadTable T) (okI_BadTable T) (hr.mono (by decide)) (bi_BadTable_init T) (L2N.takes_of rfl rfl rfl rfl) rfl (T.glo 42) (qa_cons qe_non qa_nil) rfl (by decide))) qss_nil) (qss_cons (qs_set 3 nd rfl (by first | exact Or.inl rfl | exact Or.inr rfl) (qo_call (n := 2) (ok_width_of T) (hr.mono (by decide)) rfl (T.glo 44) (fd_width_of T).kp (bi_width_of T) (fun σ => L2N.passAt (L2N.takes_of rfl rfl rfl rfl) σ) (qag_v (qe_var 1 (pv 1)) (qag_v (qe_var 2 (pv 2)) qag_nil)) (len_agV (len_agV (fun _ _ _ h => len_agNil h))))) (qss_cons (qs_set 4 nd rfl (by first | exact Or.inl rfl | exact Or.inr rfl) (qo_call (n := 2) (ok_first_unfit T) (hr.mono (by decide)) rfl (T.glo 45) (fd_first_unfit T).kp (bi_first_unfit T) (fun σ => L2N.passAt (L2N.takes_of rfl rfl rfl rfl) σ) (qag_v (qe_var 1 (pv 1)) (qag_v (qe_var 3 (pv 3)) qag_nil)) (len_agV (len_agV (fun _ _ _ h => len_agNil h))))) (qss_cons (qs_if (qt_cmp (op_notN.or op_notBl) s_isNot (qe_var 4 (pv 4)) qe_non (nomark _)) (qss_one (qs_raise (cc := 4) rfl rfl rfl (kok T) (eini_BadTable T) (okI_BadTable T) (hr.mono (by decide)) (bi_BadTable_init T) (L2N.takes_of rfl rfl rfl rfl) rfl (T.glo 42) (qa_cons (qe_var 4 (pv 4)) qa_nil) rfl (by decide))) qss_nil) (qss_cons (qs_putF rfl 0 (c := 0) rfl (ins_Table T) (T.noat 46) (pv 0) (qe_tuple rfl rfl (T.free 7) (qa_cons (qe_frz (qo_lc (own := [("row", 5)]) rfl (tgi_nm (by decide)) rfl nd (qi_seq rfl (qe_var 1 (pv 1))) (blkOk_by (own := [("row", 5)]) (by kernel_rfl)) (fun _ _ _ _ _ => (qg_nm 5 nd rfl (by first | exact Or.inl rfl | exact Or.inr rfl))) (fun _ _ _ _ _ => qts_nil) (fun _ _ _ _ _ => (qe_tuple rfl rfl (T.free 7) (qa_cons (qe_var 5 (pv 5)) qa_nil))))) qa_nil))) (qss_cons (qs_putF rfl 0 (c := 0) rfl (ins_Table T) (T.noat 47) (pv 0) (qe_len rfl rfl (T.free 1) (qa_cons (qe_getO rfl 0 (c := 0) rfl (ins_Table T) (T.noat 46) (pv 0)) qa_nil))) (qss_cons (qs_putF rfl 0 (c := 0) rfl (ins_Table T) (T.noat 48) (pv 0) (qe_var 3 (pv 3))) (qss_one (qs_putF rfl 0 (c := 0) rfl (ins_Table T) (T.noat 49) (pv 0) (qe_tup (qa_cons (qe_getO rfl 0 (c := 0) rfl (ins_Table T) (T.noat 47) (pv 0)) (qa_cons (qe_var 3 (pv 3)) qa_nil)))))))))))))
theorem kb_Table_init (T : HD K mg) : ∃ mv : List Value, KBn K (fdOf K (He.ma K (He.ga K "Table") "__init__")) ["self", "rows", "width"] 2 ["width"] (fun us ws => us ++ mv ++ ws) (fun vs zs => vs ++ [] ++ zs) :=
  FunD.kbinds0 (fd_Table_init T) 2 ["width"] [] (fun vs mz zs => vs ++ mz ++ zs) (by simp [d_Table_init]) (by simp) (fun h1 h2 h3 => (h1.append h2).append h3) fun D doc pm an cdv ct us mv ws l1 l2 l3 =>
    match us, mv, ws, l1, l2, l3 with | [_, _], [], [_], _, _, _ => rfl
theorem fd_law_table (T : HD K mg) : FunD K "_law_table" "_law_table" (L2.defArgs s_law_table) (L2.defBody s_law_table) (L2.defScope s_law_table) [] [] (He.ga K "_law_table") (fdOf K (He.ga K "_law_table")) := T.def_ 38
theorem sc_law_table : FnScope ["grid", "row", "cell"] ["grid"] (L2.defScope s_law_table) := ⟨rfl, rfl, rfl, by decide +kernel, rfl, by decide +kernel, by decide +kernel⟩
theorem bi_law_table (T : HD K mg) : Binds K (fdOf K (He.ga K "_law_table")) ["grid"] [] := (fd_law_table T).bindsN fun _ _ _ _ _ _ us hl => match us, hl with | [_], _ => rfl
theorem ok_law_table (T : HD K mg) : FnOk P w K mg base (L2N.CX P w) 5 (He.ga K "_law_table") (fdOf K (He.ga K "_law_table")) ["grid"] (spF (kx K) 1 m_law_table) := by
  have nd := sc_law_table.nd
  exact def_ok (G := kx K) (j := 4) (k := 2) (m := b_law_table) (fd_law_table T) sc_law_table rfl rfl fun cdv A outer s H E hr => (qss_one (qs_ret (qo_fro (qe_makeKwA wflat_fn (fun σ => L2N.passAt (L2N.takes_of rfl rfl rfl rfl) σ) (cc := 0) rfl (T.mkr 50) (ok_Table_init T) (hr.mono (by decide)) rfl (T.glo 51) (kb_Table_init T) bld_app (fun _ _ _ => by simp) (fun _ _ h1 h2 => by simp [h1, h2]) (qa_cons (qe_frz (qo_lc (own := [("row", 1)]) rfl (tgi_nm (by decide)) rfl nd (qi_seq rfl (qe_ix rfl (qe_var 0 (pv 0)) qe_int)) (blkOk_by (own := [("row", 1)]) (by kernel_rfl)) (fun _ _ _ _ _ => (qg_nm 1 nd rfl (by first | exact Or.inl rfl | exact Or.inr rfl))) (fun _ _ _ _ _ => qts_nil) (fun _ _ _ _ _ => (qe_frz (qo_lc (own := [("cell", 2)]) rfl (tgi_nm (by decide)) rfl nd (qi_seq rfl (qe_var 1 (pv 1))) (blkOk_by (own := [("cell", 2)]) (by kernel_rfl)) (fun _ _ _ _ _ => (qg_nm 2 nd rfl (by first | exact Or.inl rfl | exact Or.inr rfl))) (fun _ _ _ _ _ => qts_nil) (fun _ _ _ _ _ => (qe_var 2 (pv 2)))))))) qa_nil) (qk_cons (qe_ix rfl (qe_var 0 (pv 0)) qe_int) qk_nil) rfl))))
theorem fd_law_great (T : HD K mg) : FunD K "_law_great" "_law_great" (L2.defArgs s_law_great) (L2.defBody s_law_great) (L2.defScope s_law_great) [] [] (He.ga K "_law_great") (fdOf K (He.ga K "_law_great")) := T.def_ 39
theorem sc_law_great : FnScope ["store", "number", "k"] ["store"] (L2.defScope s_law_great) := ⟨rfl, rfl, rfl, by decide +kernel, rfl, by decide +kernel, by decide +kernel⟩
theorem bi_law_great (T : HD K mg) : Binds K (fdOf K (He.ga K "_law_great")) ["store"] [] := (fd_law_great T).bindsN fun _ _ _ _ _ _ us hl => match us, hl with | [_], _ => rfl
theorem ok_law_great (T : HD K mg) : FnOk P w K mg base (L2N.CX P w) 3 (He.ga K "_law_great") (fdOf K (He.ga K "_law_great")) ["store"] (spF (kx K) 1 m_law_great) := by
  have nd := sc_law_great.nd
  exact def_ok (G := kx K) (j := 2) (k := 2) (m := b_law_great) (fd_law_great T) sc_law_great rfl rfl fun cdv A outer s H E hr => (qss_cons (qs_set 1 nd rfl (by first | exact Or.inl rfl | exact Or.inr rfl) (qo_fro qe_int)) (qss_cons (qs_for rfl (passes_of rfl) rfl (qi_range1 rfl (T.free 6) (qa_cons (qe_frz (qo_add rfl qe_int (qe_frz (qo_call (n := 2) (ok_law_take T) (hr.mono (by decide)) rfl (T.glo 3) (fd_law_take T).kp (bi_law_take T) (fun σ => L2N.passAt (L2N.takes_of rfl rfl rfl rfl) σ) (qag_io 0 (pv 0) (qag_v qe_int qag_nil)) (len_agIo (len_agV (fun _ _ _ h => len_agNil h))))))) qa_nil)) (qg_nm 2 nd rfl (by first | exact Or.inl rfl | exact Or.inr rfl)) (qss_one (qs_set 1 nd rfl (by first | exact Or.inl rfl | exact Or.inr rfl) (qo_add rfl (qe_frz (qo_mul (qe_var 1 (pv 1)) qe_int)) (qe_frz (qo_call (n := 2) (ok_law_take T) (hr.mono (by decide)) rfl (T.glo 3) (fd_law_take T).kp (bi_law_take T) (fun σ => L2N.passAt (L2N.takes_of rfl rfl rfl rfl) σ) (qag_io 0 (pv 0) (qag_v qe_int qag_nil)) (len_agIo (len_agV (fun _ _ _ h => len_agNil h))))))))) (qss_cons (qs_if (qt_cmp (op_eqG hr.units) (s_eq rfl) (qe_frz (qo_call (n := 2) (ok_law_take T) (hr.mono (by decide)) rfl (T.glo 3) (fd_law_take T).kp (bi_law_take T) (fun σ => L2N.passAt (L2N.takes_of rfl rfl rfl rfl) σ) (qag_io 0 (pv 0) (qag_v qe_int qag_nil)) (len_agIo (len_agV (fun _ _ _ h => len_agNil h))))) qe_int (nomark _)) (qss_one (qs_ret (qo_fro (qe_neg (qe_var 1 (pv 1)))))) qss_nil) (qss_one (qs_ret (qo_fro (qe_var 1 (pv 1))))))))
theorem fd_law_not_place (T : HD K mg) : FunD K "_law_not_place" "_law_not_place" (L2.defArgs s_law_not_place) (L2.defBody s_law_not_place) (L2.defScope s_law_not_place) [] [] (He.ga K "_law_not_place") (fdOf K (He.ga K "_law_not_place")) := T.def_ 40
theorem sc_law_not_place : FnScope ["store", "least", "most", "number", "things", "far"] ["store", "least", "most"] (L2.defScope s_law_not_place) := ⟨rfl, rfl, rfl, by decide +kernel, rfl, by decide +kernel, by decide +kernel⟩
theorem bi_law_not_place (T : HD K mg) : Binds K (fdOf K (He.ga K "_law_not_place")) ["store", "least", "most"] [] := (fd_law_not_place T).bindsN fun _ _ _ _ _ _ us hl => match us, hl with | [_, _, _], _ => rfl
theorem ok_law_not_place (T : HD K mg) : FnOk P w K mg base (L2N.CX P w) 4 (He.ga K "_law_not_place") (fdOf K (He.ga K "_law_not_place")) ["store", "least", "most"] (spF (kx K) 3 m_law_not_place) := by
  have nd := sc_law_not_place.nd
  exact def_ok (G := kx K) (j := 3) (k := 3) (m := b_law_not_place) (fd_law_not_place T) sc_law_not_place rfl rfl fun cdv A outer s H E hr => (qss_cons (qs_set 3 nd rfl (by first | exact Or.inl rfl | exact Or.inr rfl) (qo_call (n := 1) (ok_law_great T) (hr.mono (by decide)) rfl (T.glo 52) (fd_law_great T).kp (bi_law_great T) (fun σ => L2N.passAt (L2N.takes_of rfl rfl rfl rfl) σ) (qag_io 0 (pv 0) qag_nil) (len_agIo (fun _ _ _ h => len_agNil h)))) (qss_cons (qs_if (qt_cmp op_lt s_lt (qe_var 3 (pv 3)) qe_int (nomark _)) (qss_one (qs_set 5 nd rfl (by first | exact Or.inl rfl | exact Or.inr rfl) (qo_add rfl (q_bin backD op_sub s_sub (qe_var 1 (pv 1)) qe_int) (qe_var 3 (pv 3))))) (qss_one (qs_set 5 nd rfl (by first | exact Or.inl rfl | exact Or.inr rfl) (qo_add rfl (qe_frz (qo_add rfl (qe_var 2 (pv 2)) qe_int)) (qe_var 3 (pv 3)))))) (qss_cons (qs_set 4 nd rfl (by first | exact Or.inl rfl | exact Or.inr rfl) (qo_lst (qa_cons (q_bin backD op_sub s_sub (qe_var 1 (pv 1)) qe_int) (qa_cons (qe_frz (qo_add rfl (qe_var 2 (pv 2)) qe_int)) (qa_cons (qe_var 5 (pv 5)) (qa_cons qe_bl (qa_cons qe_bl (qa_cons qe_non (qa_cons (qe_strc rfl (T.free 53) (qa_cons (qe_var 2 (pv 2)) qa_nil)) (qa_cons qe_str (qa_cons (qe_tup (qa_cons (qe_var 1 (pv 1)) qa_nil)) (qa_cons (qe_frz (qo_lst (qa_cons (qe_var 2 (pv 2)) qa_nil))) (qa_cons (qe_tup qa_nil) qa_nil))))))))))))) (qss_one (qs_ret (qo_fro (qe_ix rfl (qe_var 4 (pv 4)) (qe_frz (qo_call (n := 2) (ok_law_take T) (hr.mono (by decide)) rfl (T.glo 3) (fd_law_take T).kp (bi_law_take T) (fun σ => L2N.passAt (L2N.takes_of rfl rfl rfl rfl) σ) (qag_io 0 (pv 0) (qag_v qe_int qag_nil)) (len_agIo (len_agV (fun _ _ _ h => len_agNil h))))))))))))
theorem fd_BadPlace_init (T : HD K mg) : FunD K "__init__" "BadPlace.__init__" (L2.defArgs s_BadPlace_init) (L2.defBody s_BadPlace_init) (L2.defScope s_BadPlace_init) [] [] (He.ma K (He.ga K "BadPlace") "__init__") (fdOf K (He.ma K (He.ga K "BadPlace") "__init__")) := T.def_ 41
theorem sc_BadPlace_init : FnScope ["self", "place"] ["self", "place"] (L2.defScope s_BadPlace_init) := ⟨rfl, rfl, rfl, by decide +kernel, rfl, by decide +kernel, by decide +kernel⟩
theorem bi_BadPlace_init (T : HD K mg) : Binds K (fdOf K (He.ma K (He.ga K "BadPlace") "__init__")) ["self", "place"] [] := (fd_BadPlace_init T).bindsN fun _ _ _ _ _ _ us hl => match us, hl with | [_, _], _ => rfl
theorem okI_BadPlace (T : HD K mg) : FnOk P w K mg base (L2N.CX P w) 1 (He.ma K (He.ga K "BadPlace") "__init__") (fdOf K (He.ma K (He.ga K "BadPlace") "__init__")) ["self", "place"] (spI (He.ga K "BadPlace") ["place"]) := by
  have nd := sc_BadPlace_init.nd
  exact init1 (fd_BadPlace_init T) sc_BadPlace_init ((kok T).err 6 _ _ rfl).ox ((eini_BadPlace T).no "place" (by decide)) fun cdv A outer s H E hr => pss_one (ps_ost (pv 0) (pv 1))
theorem fd_check_place (T : HD K mg) : FunD K "check_place" "check_place" (L2.defArgs s_check_place) (L2.defBody s_check_place) (L2.defScope s_check_place) [] [] (He.ga K "check_place") (fdOf K (He.ga K "check_place")) := T.def_ 42
theorem sc_check_place : FnScope ["value", "many"] ["value", "many"] (L2.defScope s_check_place) := ⟨rfl, rfl, rfl, by decide +kernel, rfl, by decide +kernel, by decide +kernel⟩
theorem bi_check_place (T : HD K mg) : Binds K (fdOf K (He.ga K "check_place")) ["value", "many"] [] := (fd_check_place T).bindsN fun _ _ _ _ _ _ us hl => match us, hl with | [_, _], _ => rfl
theorem ok_check_place (T : HD K mg) : FnOk P w K mg base (L2N.CX P w) 3 (He.ga K "check_place") (fdOf K (He.ga K "check_place")) ["value", "many"] (spF (kx K) 2 m_check_place) := by
  have nd := sc_check_place.nd
  exact def_ok (G := kx K) (j := 2) (k := 0) (m := b_check_place) (fd_check_place T) sc_check_place rfl rfl fun cdv A outer s H E hr => (qss_cons (qs_if (qt_w (qw_or (qt_not (qt_tru rfl (qe_isi (kok T) rfl (k := (.ty "int")) rfl rfl rfl (T.free 35) (qe_var 0 (pv 0)) (pe_bltn (v := .ty "int") rfl (T.free 0) (by decide +kernel) rfl)) (by intro _; rfl))) (qw_or1 (qt_tru rfl (qe_isi (kok T) rfl (k := (.ty "bool")) rfl rfl rfl (T.free 35) (qe_var 0 (pv 0)) (pe_bltn (v := .ty "bool") rfl (T.free 36) (by decide +kernel) rfl)) (by intro _; rfl))))) (qss_one (qs_raise (cc := 6) rfl rfl rfl (kok T) (eini_BadPlace T) (okI_BadPlace T) (hr.mono (by decide)) (bi_BadPlace_init T) (L2N.takes_of rfl rfl rfl rfl) rfl (T.glo 54) (qa_cons (qe_var 0 (pv 0)) qa_nil) rfl (by decide))) qss_nil) (qss_one (qs_if (qt_w (qw_or (qt_cmp op_lt s_lt (qe_var 0 (pv 0)) qe_int (nomark _)) (qw_or1 (qt_cmp op_ge s_ge (qe_var 0 (pv 0)) (qe_var 1 (pv 1)) (nomark _))))) (qss_one (qs_raise (cc := 6) rfl rfl rfl (kok T) (eini_BadPlace T) (okI_BadPlace T) (hr.mono (by decide)) (bi_BadPlace_init T) (L2N.takes_of rfl rfl rfl rfl) rfl (T.glo 54) (qa_cons (qe_var 0 (pv 0)) qa_nil) rfl (by decide))) qss_nil)))
theorem fd_Table_rows (T : HD K mg) : FunD K "rows" "Table.rows" (L2.defArgs s_Table_rows) (L2.defBody s_Table_rows) (L2.defScope s_Table_rows) [] [] (getterOf K "Table" "rows") (fdOf K (getterOf K "Table" "rows")) := T.def_ 43
theorem sc_Table_rows : FnScope ["self", "row"] ["self"] (L2.defScope s_Table_rows) := ⟨rfl, rfl, rfl, by decide +kernel, rfl, by decide +kernel, by decide +kernel⟩
theorem bi_Table_rows (T : HD K mg) : Binds K (fdOf K (getterOf K "Table" "rows")) ["self"] [] := (fd_Table_rows T).bindsN fun _ _ _ _ _ _ us hl => match us, hl with | [_], _ => rfl
theorem ok_Table_rows (T : HD K mg) : FnOk P w K mg base (L2N.CX P w) 1 (getterOf K "Table" "rows") (fdOf K (getterOf K "Table" "rows")) ["self"] (spF (kx K) 1 m_Table_rows) := by
  have nd := sc_Table_rows.nd
  exact def_ok (G := kx K) (j := 0) (k := 1) (m := b_Table_rows) (fd_Table_rows T) sc_Table_rows rfl rfl fun cdv A outer s H E hr => (qss_one (qs_ret (qo_lc (own := [("row", 1)]) rfl (tgi_nm (by decide)) rfl nd (qi_seq rfl (qe_fld rfl (c := 0) (k := 0) rfl rfl (by decide) (ins_Table T) (T.noat 46) (qe_var 0 (pv 0)))) (blkOk_by (own := [("row", 1)]) (by kernel_rfl)) (fun _ _ _ _ _ => (qg_nm 1 nd rfl (by first | exact Or.inl rfl | exact Or.inr rfl))) (fun _ _ _ _ _ => qts_nil) (fun _ _ _ _ _ => (qe_frz (qo_list rfl rfl (T.free 37) (qa_cons (qe_var 1 (pv 1)) qa_nil)))))))
theorem fd_barring_cell (T : HD K mg) : FunD K "barring_cell" "barring_cell" (L2.defArgs s_barring_cell) (L2.defBody s_barring_cell) (L2.defScope s_barring_cell) [] [] (He.ga K "barring_cell") (fdOf K (He.ga K "barring_cell")) := T.def_ 44
theorem sc_barring_cell : FnScope ["table", "row", "column", "rows", "inside", "i", "line", "j", "cell"] ["table", "row", "column"] (L2.defScope s_barring_cell) := ⟨rfl, rfl, rfl, by decide +kernel, rfl, by decide +kernel, by decide +kernel⟩
theorem bi_barring_cell (T : HD K mg) : Binds K (fdOf K (He.ga K "barring_cell")) ["table", "row", "column"] [] := (fd_barring_cell T).bindsN fun _ _ _ _ _ _ us hl => match us, hl with | [_, _, _], _ => rfl
theorem ok_barring_cell (T : HD K mg) : FnOk P w K mg base (L2N.CX P w) 4 (He.ga K "barring_cell") (fdOf K (He.ga K "barring_cell")) ["table", "row", "column"] (spF (kx K) 3 m_barring_cell) := by
  have nd := sc_barring_cell.nd
  exact def_ok (G := kx K) (j := 3) (k := 6) (m := b_barring_cell) (fd_barring_cell T) sc_barring_cell rfl rfl fun cdv A outer s H E hr => (qss_cons (qs_expr (qe_frz (qo_call (n := 2) (ok_check_place T) (hr.mono (by decide)) rfl (T.glo 55) (fd_check_place T).kp (bi_check_place T) (fun σ => L2N.passAt (L2N.takes_of rfl rfl rfl rfl) σ) (qag_v (qe_var 1 (pv 1)) (qag_v (qe_fld rfl (c := 0) (k := 2) rfl rfl (by decide) (ins_Table T) (T.noat 48) (qe_var 0 (pv 0))) qag_nil)) (len_agV (len_agV (fun _ _ _ h => len_agNil h)))))) (qss_cons (qs_expr (qe_frz (qo_call (n := 2) (ok_check_place T) (hr.mono (by decide)) rfl (T.glo 55) (fd_check_place T).kp (bi_check_place T) (fun σ => L2N.passAt (L2N.takes_of rfl rfl rfl rfl) σ) (qag_v (qe_var 2 (pv 2)) (qag_v (qe_fld rfl (c := 0) (k := 1) rfl rfl (by decide) (ins_Table T) (T.noat 47) (qe_var 0 (pv 0))) qag_nil)) (len_agV (len_agV (fun _ _ _ h => len_agNil h)))))) (qss_cons (qs_set 3 nd rfl (by first | exact Or.inl rfl | exact Or.inr rfl) (qo_prop rfl (c := 0) rfl (ins_Table T) (prop_Table_rows T) (ok_Table_rows T) (hr.mono (by decide)) (bi_Table_rows T) (qe_var 0 (pv 0)))) (qss_cons (qs_set 4 nd rfl (by first | exact Or.inl rfl | exact Or.inr rfl) (qo_fro (qe_ix rfl (qe_var 3 (pv 3)) (qe_var 2 (pv 2))))) (qss_cons (qs_for rfl (passes_of rfl) rfl (qi_enum2 rfl rfl (T.free 40) (qa_cons (qe_var 3 (pv 3)) qa_nil)) (pg_tup rfl (pgs_cons (pg_name (i := 5) nd rfl (by first | exact Or.inl rfl | exact Or.inr rfl)) (pgs_cons (pg_name (i := 6) nd rfl (by first | exact Or.inl rfl | exact Or.inr rfl)) pgs_nil))) (qss_one (qs_if (qt_tru rfl (qe_ix rfl (qe_var 6 (pv 6)) (qe_var 1 (pv 1))) (by intro _; rfl)) (qss_one (qs_for rfl (passes_of rfl) rfl (qi_enum2 rfl rfl (T.free 40) (qa_cons (qe_var 6 (pv 6)) qa_nil)) (pg_tup rfl (pgs_cons (pg_name (i := 7) nd rfl (by first | exact Or.inl rfl | exact Or.inr rfl)) (pgs_cons (pg_name (i := 8) nd rfl (by first | exact Or.inl rfl | exact Or.inr rfl)) pgs_nil))) (qss_one (qs_if (qt_w (qw_and (qt_tru rfl (qe_ix rfl (qe_var 4 (pv 4)) (qe_var 7 (pv 7))) (by intro _; rfl)) (qw_and1 (qt_not (qt_tru rfl (qe_var 8 (pv 8)) (by intro _; rfl)))))) (qss_one (qs_ret (qo_fro (qe_tup (qa_cons (qe_var 5 (pv 5)) (qa_cons (qe_var 7 (pv 7)) qa_nil)))))) qss_nil)))) qss_nil))) (qss_one (qs_ret (qo_fro qe_non))))))))
theorem kb_barring_cell_n2_0 (T : HD K mg) : KBn K (fdOf K (He.ga K "barring_cell")) ["table", "row", "column"] 2 ["column"] (fun a b => a ++ permL [0] b) (fun a b => a ++ permL [0] b) :=
  kbn_of (fd_barring_cell T) 2 (fun a b => a ++ permL [0] b) (fun h1 h2 => h1.append (permL_vals h2 [0])) fun _ _ _ _ _ _ us ws l1 l2 => match us, ws, l1, l2 with | [_, _], [_], _, _ => rfl
theorem fd_law_lone (T : HD K mg) : FunD K "_law_lone" "_law_lone" (L2.defArgs s_law_lone) (L2.defBody s_law_lone) (L2.defScope s_law_lone) [] [] (He.ga K "_law_lone") (fdOf K (He.ga K "_law_lone")) := T.def_ 45
theorem sc_law_lone : FnScope ["e", "strange"] ["e"] (L2.defScope s_law_lone) := ⟨rfl, rfl, rfl, by decide +kernel, rfl, by decide +kernel, by decide +kernel⟩
theorem bi_law_lone (T : HD K mg) : Binds K (fdOf K (He.ga K "_law_lone")) ["e"] [] := (fd_law_lone T).bindsN fun _ _ _ _ _ _ us hl => match us, hl with | [_], _ => rfl
theorem okh_law_lone (T : HD K mg) (hot : Option Addr) : FnG P w K mg base (L2N.CX P w) 1 (He.ga K "_law_lone") (fdOf K (He.ga K "_law_lone")) ["e"] hot (spF (hotK (kx K) hot) 1 m_law_lone) := by
  have nd := sc_law_lone.nd
  exact def_okG (G := hotK (kx K) hot) (j := 0) (k := 1) (m := b_law_lone) (fd_law_lone T) sc_law_lone rfl rfl fun cdv A outer s H E hh hr => (qss_cons (qs_set 1 nd rfl (by first | exact Or.inl rfl | exact Or.inr rfl) (qo_fro (qe_isisA (kok T).hot rfl (ks := [(.ex 1), (.ex 2), (.ex 3), (.ex 4), (.ex 5)]) (.cons rfl (.cons rfl (.cons rfl (.cons rfl (.cons rfl .nil))))) (.cons (.own _) (.cons (.own _) (.cons (.own _) (.cons (.own _) (.cons (.own _) .nil))))) rfl (T.free 35) (qe_var 0 (pv 0)) (pa_cons (pe_glob (v := .ref (He.ga K "BadText")) rfl (T.glo 59) rfl) (pa_cons (pe_glob (v := .ref (He.ga K "BadName")) rfl (T.glo 58) rfl) (pa_cons (pe_glob (v := .ref (He.ga K "BadEdit")) rfl (T.glo 57) rfl) (pa_cons (pe_glob (v := .ref (He.ga K "BadTable")) rfl (T.glo 42) rfl) (pa_cons (pe_glob (v := .ref (He.ga K "BadPaper")) rfl (T.glo 56) rfl) pa_nil))))) (fun _ _ _ h => h) (Nat.le_of_ble_eq_true rfl)))) (qss_cons (qs_set 1 nd rfl (by first | exact Or.inl rfl | exact Or.inr rfl) (qo_fro (qe_or (qe_var 1 (pv 1)) (qe_one_or (qe_isisA (kok T).hot rfl (ks := [(.ex 7), (.ex 8), (.ex 9), (.ex 10), (.ex 11)]) (.cons rfl (.cons rfl (.cons rfl (.cons rfl (.cons rfl .nil))))) (.cons (.own _) (.cons (.own _) (.cons (.own _) (.cons (.own _) (.cons (.own _) .nil))))) rfl (T.free 35) (qe_var 0 (pv 0)) (pa_cons (pe_glob (v := .ref (He.ga K "BadLot")) rfl (T.glo 64) rfl) (pa_cons (pe_glob (v := .ref (He.ga K "NoName")) rfl (T.glo 63) rfl) (pa_cons (pe_glob (v := .ref (He.ga K "NoFit")) rfl (T.glo 62) rfl) (pa_cons (pe_glob (v := .ref (He.ga K "UnlikeSizes")) rfl (T.glo 61) rfl) (pa_cons (pe_glob (v := .ref (He.ga K "NotSquare")) rfl (T.glo 60) rfl) pa_nil))))) (fun _ _ _ h => h) (Nat.le_of_ble_eq_true rfl)))))) (qss_cons (qs_set 1 nd rfl (by first | exact Or.inl rfl | exact Or.inr rfl) (qo_fro (qe_or (qe_var 1 (pv 1)) (qe_one_or (qe_isisA (kok T).hot rfl (ks := [(.ex 12), (.ex 13), (.ex 14), (.ex 15), (.ex 16)]) (.cons rfl (.cons rfl (.cons rfl (.cons rfl (.cons rfl .nil))))) (.cons (.own _) (.cons (.own _) (.cons (.own _) (.cons (.own _) (.cons (.own _) .nil))))) rfl (T.free 35) (qe_var 0 (pv 0)) (pa_cons (pe_glob (v := .ref (He.ga K "NotOrder")) rfl (T.glo 69) rfl) (pa_cons (pe_glob (v := .ref (He.ga K "NotJoined")) rfl (T.glo 68) rfl) (pa_cons (pe_glob (v := .ref (He.ga K "NotRectangular")) rfl (T.glo 67) rfl) (pa_cons (pe_glob (v := .ref (He.ga K "TooMany")) rfl (T.glo 66) rfl) (pa_cons (pe_glob (v := .ref (He.ga K "NoWayBack")) rfl (T.glo 65) rfl) pa_nil))))) (fun _ _ _ h => h) (Nat.le_of_ble_eq_true rfl)))))) (qss_one (qs_ret (qo_fro (qe_and (qe_not (qe_var 1 (pv 1))) (qe_and (qe_isi (kok T).hot rfl (k := (.ex 0)) rfl rfl rfl (T.free 35) (qe_var 0 (pv 0)) (pe_glob (v := .ref (He.ga K "GreatestbackError")) rfl (T.glo 70) rfl)) (qe_one_and (qe_isi (kok T).hot rfl (k := (.ty "ValueError")) rfl rfl rfl (T.free 35) (qe_var 0 (pv 0)) (pe_bltn (v := .ty "ValueError") rfl (T.free 71) (by decide +kernel) rfl)))))))))))
theorem ok_law_lone (T : HD K mg) : FnOk P w K mg base (L2N.CX P w) 1 (He.ga K "_law_lone") (fdOf K (He.ga K "_law_lone")) ["e"] (spF (kx K) 1 m_law_lone) := (okh_law_lone T none).calm
theorem fd_law_refused (T : HD K mg) : FunD K "_law_refused" "_law_refused" (L2.defArgs s_law_refused) (L2.defBody s_law_refused) (L2.defScope s_law_refused) [] [] (He.ga K "_law_refused") (fdOf K (He.ga K "_law_refused")) := T.def_ 46
theorem sc_law_refused : FnScope ["made", "one", "two", "due", "e"] ["made", "one", "two", "due"] (L2.defScope s_law_refused) := ⟨rfl, rfl, rfl, by decide +kernel, rfl, by decide +kernel, by decide +kernel⟩
theorem bi_law_refused (T : HD K mg) : Binds K (fdOf K (He.ga K "_law_refused")) ["made", "one", "two", "due"] [] := (fd_law_refused T).bindsN fun _ _ _ _ _ _ us hl => match us, hl with | [_, _, _, _], _ => rfl
theorem ok_law_refused (T : HD K mg) : FnOk P w K mg base (L2N.CX P w) 5 (He.ga K "_law_refused") (fdOf K (He.ga K "_law_refused")) ["made", "one", "two", "due"] (spF (kx K) 4 m_law_refused) := by
  have nd := sc_law_refused.nd
  exact def_ok (G := kx K) (j := 4) (k := 1) (m := b_law_refused) (fd_law_refused T) sc_law_refused rfl rfl fun cdv A outer s H E hr => (qss_cons (qs_try rfl (kok T) rfl rfl rfl rfl (L2N.takes_of rfl rfl rfl rfl) (fun W pn xe tk1 hp1 => (qss_one (qs_expr (qe_frz (qo_call (n := 3) (ok_barring_cell T) (hr.mono (by decide)) rfl (T.glo 72) (fd_barring_cell T).kp (bi_barring_cell T) (fun σ => L2N.passAt tk1 σ) (qag_v (qe_var 0 (pv 0)) (qag_v (qe_var 1 (pv 1)) (qag_v (qe_var 2 (pv 2)) qag_nil))) (len_agV (len_agV (len_agV (fun _ _ _ h => len_agNil h))))))))) (.as 4 (cc := 6) rfl ⟨rfl, by decide, .inl (T.glo 54)⟩ nd rfl rfl (fun a pn => (qss_one (qs_ret (qo_fro (qe_and (q_cmp (op_eqG (hu64G (roomMark hr))) (s_eq rfl) (qe_xf rfl (kok T).hot (xf_cons (c := 6) (k := 0) rfl (eini_BadPlace T) (by decide) rfl (by decide) xf_nil) (qe_var 4 (pv 4))) (qe_var 3 (pv 3)) (nomark _)) (qe_one_and (qe_frz (qo_callG (n := 1) (okh_law_lone T (some _)) rfl ((roomMark hr).mono (by decide)) rfl (T.glo 73) (fd_law_lone T).kp (bi_law_lone T) pass_w0 (qag_v (qe_var 4 (pv 4)) qag_nil) (len_agV (fun _ _ _ h => len_agNil h)))))))))) .nil)) (qss_one (qs_ret (qo_fro qe_bl))))
theorem fd_law_same (T : HD K mg) : FunD K "_law_same" "_law_same" (L2.defArgs s_law_same) (L2.defBody s_law_same) (L2.defScope s_law_same) [] [] (He.ga K "_law_same") (fdOf K (He.ga K "_law_same")) := T.def_ 47
theorem sc_law_same : FnScope ["value", "due", "k"] ["value", "due"] (L2.defScope s_law_same) := ⟨rfl, rfl, rfl, by decide +kernel, rfl, by decide +kernel, by decide +kernel⟩
theorem bi_law_same (T : HD K mg) : Binds K (fdOf K (He.ga K "_law_same")) ["value", "due"] [] := (fd_law_same T).bindsN fun _ _ _ _ _ _ us hl => match us, hl with | [_, _], _ => rfl
theorem okr_law_same (T : HD K mg) : ∀ d : Nat, FnOk P w K mg base (L2N.CX P w) (1 + d) (He.ga K "_law_same") (fdOf K (He.ga K "_law_same")) ["value", "due"] (spF (kx K) 2 (mr_law_same d))
  | 0 => ok_bad
  | d + 1 => by
    have ih := okr_law_same T d
    have nd := sc_law_same.nd
    exact def_ok (G := kx K) (j := 1 + d) (k := 1) (m := b_law_same (mr_law_same d)) (fd_law_same T) sc_law_same rfl rfl fun cdv A outer s H E hr => (qss_cons (qs_if (qt_tru rfl (qe_isisA (kok T) rfl (ks := [(.ty "tuple"), (.ty "list")]) (.cons rfl (.cons rfl .nil)) (.cons (.ty _) (.cons (.ty _) .nil)) rfl (T.free 35) (qe_var 1 (pv 1)) (pa_cons (pe_bltn (v := .ty "tuple") rfl (T.free 7) (by decide +kernel) rfl) (pa_cons (pe_bltn (v := .ty "list") rfl (T.free 37) (by decide +kernel) rfl) pa_nil)) (fun _ _ _ h => h) (Nat.le_of_ble_eq_true rfl)) (by intro _; rfl)) (qss_cons (qs_if (qt_w (qw_or (qt_not (qt_tru rfl (qe_isisA (kok T) rfl (ks := [(.ty "tuple"), (.ty "list")]) (.cons rfl (.cons rfl .nil)) (.cons (.ty _) (.cons (.ty _) .nil)) rfl (T.free 35) (qe_var 0 (pv 0)) (pa_cons (pe_bltn (v := .ty "tuple") rfl (T.free 7) (by decide +kernel) rfl) (pa_cons (pe_bltn (v := .ty "list") rfl (T.free 37) (by decide +kernel) rfl) pa_nil)) (fun _ _ _ h => h) (Nat.le_of_ble_eq_true rfl)) (by intro _; rfl))) (qw_or1 (qt_cmp (op_neG hr.units) (s_ne rfl) (qe_isi (kok T) rfl (k := (.ty "tuple")) rfl rfl rfl (T.free 35) (qe_var 0 (pv 0)) (pe_bltn (v := .ty "tuple") rfl (T.free 7) (by decide +kernel) rfl)) (qe_isi (kok T) rfl (k := (.ty "tuple")) rfl rfl rfl (T.free 35) (qe_var 1 (pv 1)) (pe_bltn (v := .ty "tuple") rfl (T.free 7) (by decide +kernel) rfl)) (nomark _))))) (qss_one (qs_ret (qo_fro qe_bl))) qss_nil) (qss_cons (qs_if (qt_cmp (op_neG hr.units) (s_ne rfl) (qe_len rfl rfl (T.free 1) (qa_cons (qe_var 0 (pv 0)) qa_nil)) (qe_len rfl rfl (T.free 1) (qa_cons (qe_var 1 (pv 1)) qa_nil)) (nomark _)) (qss_one (qs_ret (qo_fro qe_bl))) qss_nil) (qss_one (qs_ret (qo_fro (qe_all rfl rfl rfl (T.free 39) (qa_cons (qe_frz (qo_lc (own := [("k", 2)]) rfl (tgi_nm (by decide)) rfl nd (qi_range1 rfl (T.free 6) (qa_cons (qe_len rfl rfl (T.free 1) (qa_cons (qe_var 1 (pv 1)) qa_nil)) qa_nil)) (blkOk_by (own := [("k", 2)]) (by kernel_rfl)) (fun _ _ _ _ _ => (qg_nm 2 nd rfl (by first | exact Or.inl rfl | exact Or.inr rfl))) (fun _ _ _ _ _ => qts_nil) (fun _ _ _ _ _ => (qe_frz (qo_call (n := 2) ih hr rfl (T.glo 74) (fd_law_same T).kp (bi_law_same T) pass_w0 (qag_v (qe_ix rfl (qe_var 0 (pv 0)) (qe_var 2 (pv 2))) (qag_v (qe_ix rfl (qe_var 1 (pv 1)) (qe_var 2 (pv 2))) qag_nil)) (len_agV (len_agV (fun _ _ _ h => len_agNil h)))))))) qa_nil))))))) qss_nil) (qss_cons (qs_if (qt_w (qw_or (qt_cmp (op_isN.or op_isBl) s_is (qe_var 1 (pv 1)) qe_non (nomark _)) (qw_or1 (qt_cmp (op_isN.or op_isBl) s_is (qe_var 0 (pv 0)) qe_non (nomark _))))) (qss_one (qs_ret (qo_fro (qe_and (q_cmp (op_isN.or op_isBl) s_is (qe_var 1 (pv 1)) qe_non (nomark _)) (qe_one_and (q_cmp (op_isN.or op_isBl) s_is (qe_var 0 (pv 0)) qe_non (nomark _))))))) qss_nil) (qss_cons (qs_if (qt_w (qw_or (qt_tru rfl (qe_isi (kok T) rfl (k := (.ty "bool")) rfl rfl rfl (T.free 35) (qe_var 1 (pv 1)) (pe_bltn (v := .ty "bool") rfl (T.free 36) (by decide +kernel) rfl)) (by intro _; rfl)) (qw_or1 (qt_tru rfl (qe_isi (kok T) rfl (k := (.ty "bool")) rfl rfl rfl (T.free 35) (qe_var 0 (pv 0)) (pe_bltn (v := .ty "bool") rfl (T.free 36) (by decide +kernel) rfl)) (by intro _; rfl))))) (qss_one (qs_ret (qo_fro (qe_and (qe_isi (kok T) rfl (k := (.ty "bool")) rfl rfl rfl (T.free 35) (qe_var 1 (pv 1)) (pe_bltn (v := .ty "bool") rfl (T.free 36) (by decide +kernel) rfl)) (qe_and (qe_isi (kok T) rfl (k := (.ty "bool")) rfl rfl rfl (T.free 35) (qe_var 0 (pv 0)) (pe_bltn (v := .ty "bool") rfl (T.free 36) (by decide +kernel) rfl)) (qe_one_and (q_cmp (op_eqG hr.units) (s_eq rfl) (qe_var 0 (pv 0)) (qe_var 1 (pv 1)) (nomark _)))))))) qss_nil) (qss_cons (qs_if (qt_tru rfl (qe_isi (kok T) rfl (k := (.ty "str")) rfl rfl rfl (T.free 35) (qe_var 1 (pv 1)) (pe_bltn (v := .ty "str") rfl (T.free 53) (by decide +kernel) rfl)) (by intro _; rfl)) (qss_one (qs_ret (qo_fro (qe_and (qe_isi (kok T) rfl (k := (.ty "str")) rfl rfl rfl (T.free 35) (qe_var 0 (pv 0)) (pe_bltn (v := .ty "str") rfl (T.free 53) (by decide +kernel) rfl)) (qe_one_and (q_cmp (op_eqG hr.units) (s_eq rfl) (qe_var 0 (pv 0)) (qe_var 1 (pv 1)) (nomark _))))))) qss_nil) (qss_one (qs_ret (qo_fro (qe_and (qe_isi (kok T) rfl (k := (.ty "int")) rfl rfl rfl (T.free 35) (qe_var 1 (pv 1)) (pe_bltn (v := .ty "int") rfl (T.free 0) (by decide +kernel) rfl)) (qe_and (qe_isi (kok T) rfl (k := (.ty "int")) rfl rfl rfl (T.free 35) (qe_var 0 (pv 0)) (pe_bltn (v := .ty "int") rfl (T.free 0) (by decide +kernel) rfl)) (qe_one_and (q_cmp (op_eqG hr.units) (s_eq rfl) (qe_var 0 (pv 0)) (qe_var 1 (pv 1)) (nomark _))))))))))))
theorem ok_law_same (T : HD K mg) : FnOk P w K mg base (L2N.CX P w) 9 (He.ga K "_law_same") (fdOf K (He.ga K "_law_same")) ["value", "due"] (spF (kx K) 2 m_law_same) := okr_law_same T 8
theorem fd_law_bar (T : HD K mg) : FunD K "_law_bar" "_law_bar" (L2.defArgs s_law_bar) (L2.defBody s_law_bar) (L2.defScope s_law_bar) [] [] (He.ga K "_law_bar") (fdOf K (He.ga K "_law_bar")) := T.def_ 48
theorem sc_law_bar : FnScope ["grid", "k", "l", "i", "j"] ["grid", "k", "l"] (L2.defScope s_law_bar) := ⟨rfl, rfl, rfl, by decide +kernel, rfl, by decide +kernel, by decide +kernel⟩
theorem bi_law_bar (T : HD K mg) : Binds K (fdOf K (He.ga K "_law_bar")) ["grid", "k", "l"] [] := (fd_law_bar T).bindsN fun _ _ _ _ _ _ us hl => match us, hl with | [_, _, _], _ => rfl
theorem ok_law_bar (T : HD K mg) : FnOk P w K mg base (L2N.CX P w) 1 (He.ga K "_law_bar") (fdOf K (He.ga K "_law_bar")) ["grid", "k", "l"] (spF (kx K) 3 m_law_bar) := by
  have nd := sc_law_bar.nd
  exact def_ok (G := kx K) (j := 0) (k := 2) (m := b_law_bar) (fd_law_bar T) sc_law_bar rfl rfl fun cdv A outer s H E hr => (qss_cons (qs_for rfl (passes_of rfl) rfl (qi_range1 rfl (T.free 6) (qa_cons (qe_ix rfl (qe_var 0 (pv 0)) qe_int) qa_nil)) (qg_nm 3 nd rfl (by first | exact Or.inl rfl | exact Or.inr rfl)) (qss_one (qs_for rfl (passes_of rfl) rfl (qi_range1 rfl (T.free 6) (qa_cons (qe_ix rfl (qe_var 0 (pv 0)) qe_int) qa_nil)) (qg_nm 4 nd rfl (by first | exact Or.inl rfl | exact Or.inr rfl)) (qss_one (qs_if (qt_w (qw_and (qt_tru rfl (qe_ix rfl (qe_ix rfl (qe_ix rfl (qe_var 0 (pv 0)) qe_int) (qe_var 3 (pv 3))) (qe_var 1 (pv 1))) (by intro _; rfl)) (qw_and (qt_tru rfl (qe_ix rfl (qe_ix rfl (qe_ix rfl (qe_var 0 (pv 0)) qe_int) (qe_var 2 (pv 2))) (qe_var 4 (pv 4))) (by intro _; rfl)) (qw_and1 (qt_not (qt_tru rfl (qe_ix rfl (qe_ix rfl (qe_ix rfl (qe_var 0 (pv 0)) qe_int) (qe_var 3 (pv 3))) (qe_var 4 (pv 4))) (by intro _; rfl))))))) (qss_one (qs_ret (qo_fro (qe_tup (qa_cons (qe_var 3 (pv 3)) (qa_cons (qe_var 4 (pv 4)) qa_nil)))))) qss_nil))))) (qss_one (qs_ret (qo_fro qe_non))))
theorem fd_law_shows (T : HD K mg) : FunD K "_law_shows" "_law_shows" (L2.defArgs s_law_shows) (L2.defBody s_law_shows) (L2.defScope s_law_shows) [] [] (He.ga K "_law_shows") (fdOf K (He.ga K "_law_shows")) := T.def_ 49
theorem sc_law_shows : FnScope ["value", "grid", "row", "cell"] ["value", "grid"] (L2.defScope s_law_shows) := ⟨rfl, rfl, rfl, by decide +kernel, rfl, by decide +kernel, by decide +kernel⟩
theorem bi_law_shows (T : HD K mg) : Binds K (fdOf K (He.ga K "_law_shows")) ["value", "grid"] [] := (fd_law_shows T).bindsN fun _ _ _ _ _ _ us hl => match us, hl with | [_, _], _ => rfl
theorem ok_law_shows (T : HD K mg) : FnOk P w K mg base (L2N.CX P w) 10 (He.ga K "_law_shows") (fdOf K (He.ga K "_law_shows")) ["value", "grid"] (spF (kx K) 2 m_law_shows) := by
  have nd := sc_law_shows.nd
  exact def_ok (G := kx K) (j := 9) (k := 2) (m := b_law_shows) (fd_law_shows T) sc_law_shows rfl rfl fun cdv A outer s H E hr => (qss_cons (qs_if (qt_not (qt_tru rfl (qe_isi (kok T) rfl (k := (.ins 0)) rfl rfl rfl (T.free 35) (qe_var 0 (pv 0)) (pe_glob (v := .ref (He.ga K "Table")) rfl (T.glo 51) rfl)) (by intro _; rfl))) (qss_one (qs_ret (qo_fro qe_bl))) qss_nil) (qss_cons (qs_if (qt_not (qt_tru rfl (qe_frz (qo_call (n := 2) (ok_law_same T) (hr.mono (by decide)) rfl (T.glo 74) (fd_law_same T).kp (bi_law_same T) (fun σ => L2N.passAt (L2N.takes_of rfl rfl rfl rfl) σ) (qag_v (qe_frz (qo_lst (qa_cons (qe_fld rfl (c := 0) (k := 1) rfl rfl (by decide) (ins_Table T) (T.noat 47) (qe_var 0 (pv 0))) (qa_cons (qe_fld rfl (c := 0) (k := 2) rfl rfl (by decide) (ins_Table T) (T.noat 48) (qe_var 0 (pv 0))) qa_nil)))) (qag_v (qe_frz (qo_lst (qa_cons (qe_ix rfl (qe_var 1 (pv 1)) qe_int) (qa_cons (qe_ix rfl (qe_var 1 (pv 1)) qe_int) qa_nil)))) qag_nil)) (len_agV (len_agV (fun _ _ _ h => len_agNil h))))) (by intro _; rfl))) (qss_one (qs_ret (qo_fro qe_bl))) qss_nil) (qss_one (qs_ret (qo_call (n := 2) (ok_law_same T) (hr.mono (by decide)) rfl (T.glo 74) (fd_law_same T).kp (bi_law_same T) (fun σ => L2N.passAt (L2N.takes_of rfl rfl rfl rfl) σ) (qag_v (qe_frz (qo_prop rfl (c := 0) rfl (ins_Table T) (prop_Table_rows T) (ok_Table_rows T) (hr.mono (by decide)) (bi_Table_rows T) (qe_var 0 (pv 0)))) (qag_v (qe_frz (qo_lc (own := [("row", 2)]) rfl (tgi_nm (by decide)) rfl nd (qi_seq rfl (qe_ix rfl (qe_var 1 (pv 1)) qe_int)) (blkOk_by (own := [("row", 2)]) (by kernel_rfl)) (fun _ _ _ _ _ => (qg_nm 2 nd rfl (by first | exact Or.inl rfl | exact Or.inr rfl))) (fun _ _ _ _ _ => qts_nil) (fun _ _ _ _ _ => (qe_frz (qo_lc (own := [("cell", 3)]) rfl (tgi_nm (by decide)) rfl nd (qi_seq rfl (qe_var 2 (pv 2))) (blkOk_by (own := [("cell", 3)]) (by kernel_rfl)) (fun _ _ _ _ _ => (qg_nm 3 nd rfl (by first | exact Or.inl rfl | exact Or.inr rfl))) (fun _ _ _ _ _ => qts_nil) (fun _ _ _ _ _ => (qe_var 3 (pv 3)))))))) qag_nil)) (len_agV (len_agV (fun _ _ _ h => len_agNil h))))))))
theorem fd_law_right (T : HD K mg) : FunD K "_law_right" "_law_right" (L2.defArgs s_law_right) (L2.defBody s_law_right) (L2.defScope s_law_right) [] [] (He.ga K "_law_right") (fdOf K (He.ga K "_law_right")) := T.def_ 50
theorem sc_law_right : FnScope ["made", "grid", "twin", "near", "k", "l"] ["made", "grid", "twin", "near"] (L2.defScope s_law_right) := ⟨rfl, rfl, rfl, by decide +kernel, rfl, by decide +kernel, by decide +kernel⟩
theorem bi_law_right (T : HD K mg) : Binds K (fdOf K (He.ga K "_law_right")) ["made", "grid", "twin", "near"] [] := (fd_law_right T).bindsN fun _ _ _ _ _ _ us hl => match us, hl with | [_, _, _, _], _ => rfl
theorem ok_law_right (T : HD K mg) : FnOk P w K mg base (L2N.CX P w) 11 (He.ga K "_law_right") (fdOf K (He.ga K "_law_right")) ["made", "grid", "twin", "near"] (spF (kx K) 4 m_law_right) := by
  have nd := sc_law_right.nd
  exact def_ok (G := kx K) (j := 10) (k := 2) (m := b_law_right) (fd_law_right T) sc_law_right rfl rfl fun cdv A outer s H E hr => (qss_cons (qs_for rfl (passes_of rfl) rfl (qi_range1 rfl (T.free 6) (qa_cons (qe_ix rfl (qe_var 1 (pv 1)) qe_int) qa_nil)) (qg_nm 4 nd rfl (by first | exact Or.inl rfl | exact Or.inr rfl)) (qss_one (qs_for rfl (passes_of rfl) rfl (qi_range1 rfl (T.free 6) (qa_cons (qe_ix rfl (qe_var 1 (pv 1)) qe_int) qa_nil)) (qg_nm 5 nd rfl (by first | exact Or.inl rfl | exact Or.inr rfl)) (qss_cons (qs_if (qt_not (qt_tru rfl (qe_frz (qo_call (n := 2) (ok_law_same T) (hr.mono (by decide)) rfl (T.glo 74) (fd_law_same T).kp (bi_law_same T) (fun σ => L2N.passAt (L2N.takes_of rfl rfl rfl rfl) σ) (qag_v (qe_frz (qo_callKwS (bd := fun a b => a ++ permL [0] b) (fun σ => L2N.passAt (L2N.takes_of rfl rfl rfl rfl) σ) (ok_barring_cell T) (hr.mono (by decide)) rfl (T.glo 72) (fd_barring_cell T).kp (kb_barring_cell_n2_0 T) (fun _ _ _ _ _ h1 h2 => h1.append (permL_reps h2 [0])) (fun ds es h1 h2 => by match es, h2 with | [_], _ => simp [permL, h1]) (qa_cons (qe_var 0 (pv 0)) (qa_cons (qe_var 4 (pv 4)) qa_nil)) (qk_cons (qe_var 5 (pv 5)) qk_nil) rfl)) (qag_v (qe_frz (qo_call (n := 3) (ok_law_bar T) (hr.mono (by decide)) rfl (T.glo 75) (fd_law_bar T).kp (bi_law_bar T) (fun σ => L2N.passAt (L2N.takes_of rfl rfl rfl rfl) σ) (qag_v (qe_var 1 (pv 1)) (qag_v (qe_var 4 (pv 4)) (qag_v (qe_var 5 (pv 5)) qag_nil))) (len_agV (len_agV (len_agV (fun _ _ _ h => len_agNil h)))))) qag_nil)) (len_agV (len_agV (fun _ _ _ h => len_agNil h))))) (by intro _; rfl))) (qss_one (qs_ret (qo_fro qe_bl))) qss_nil) (qss_one (qs_if (qt_not (qt_tru rfl (qe_frz (qo_call (n := 2) (ok_law_same T) (hr.mono (by decide)) rfl (T.glo 74) (fd_law_same T).kp (bi_law_same T) (fun σ => L2N.passAt (L2N.takes_of rfl rfl rfl rfl) σ) (qag_v (qe_frz (qo_call (n := 3) (ok_barring_cell T) (hr.mono (by decide)) rfl (T.glo 72) (fd_barring_cell T).kp (bi_barring_cell T) (fun σ => L2N.passAt (L2N.takes_of rfl rfl rfl rfl) σ) (qag_v (qe_var 3 (pv 3)) (qag_v (qe_var 4 (pv 4)) (qag_v (qe_var 5 (pv 5)) qag_nil))) (len_agV (len_agV (len_agV (fun _ _ _ h => len_agNil h)))))) (qag_v (qe_frz (qo_call (n := 3) (ok_law_bar T) (hr.mono (by decide)) rfl (T.glo 75) (fd_law_bar T).kp (bi_law_bar T) (fun σ => L2N.passAt (L2N.takes_of rfl rfl rfl rfl) σ) (qag_v (qe_var 2 (pv 2)) (qag_v (qe_var 4 (pv 4)) (qag_v (qe_var 5 (pv 5)) qag_nil))) (len_agV (len_agV (len_agV (fun _ _ _ h => len_agNil h)))))) qag_nil)) (len_agV (len_agV (fun _ _ _ h => len_agNil h))))) (by intro _; rfl))) (qss_one (qs_ret (qo_fro qe_bl))) qss_nil)))))) (qss_one (qs_ret (qo_fro (qe_and (qe_frz (qo_call (n := 2) (ok_law_shows T) (hr.mono (by decide)) rfl (T.glo 76) (fd_law_shows T).kp (bi_law_shows T) (fun σ => L2N.passAt (L2N.takes_of rfl rfl rfl rfl) σ) (qag_v (qe_var 0 (pv 0)) (qag_v (qe_var 1 (pv 1)) qag_nil)) (len_agV (len_agV (fun _ _ _ h => len_agNil h))))) (qe_one_and (qe_frz (qo_call (n := 2) (ok_law_shows T) (hr.mono (by decide)) rfl (T.glo 76) (fd_law_shows T).kp (bi_law_shows T) (fun σ => L2N.passAt (L2N.takes_of rfl rfl rfl rfl) σ) (qag_v (qe_var 3 (pv 3)) (qag_v (qe_var 2 (pv 2)) qag_nil)) (len_agV (len_agV (fun _ _ _ h => len_agNil h)))))))))))
theorem fd_law (T : HD K mg) : FunD K "law" "law" (L2.defArgs s_law) (L2.defBody s_law) (L2.defScope s_law) [] [] (He.ga K "law") (fdOf K (He.ga K "law")) := T.def_ 51
theorem sc_law : FnScope ["script", "store", "grid", "twin", "made", "near", "turn", "one", "two"] ["script"] (L2.defScope s_law) := ⟨rfl, rfl, rfl, by decide +kernel, rfl, by decide +kernel, by decide +kernel⟩
theorem bi_law (T : HD K mg) : Binds K (fdOf K (He.ga K "law")) ["script"] [] := (fd_law T).bindsN fun _ _ _ _ _ _ us hl => match us, hl with | [_], _ => rfl
theorem ok_law (T : HD K mg) : FnOk P w K mg base (L2N.CX P w) 12 (He.ga K "law") (fdOf K (He.ga K "law")) ["script"] (spF (kx K) 1 m_law) := by
  have nd := sc_law.nd
  exact def_ok (G := kx K) (j := 11) (k := 8) (m := b_law) (fd_law T) sc_law rfl rfl fun cdv A outer s H E hr => (qss_cons (qs_set 1 nd rfl (by first | exact Or.inl rfl | exact Or.inr rfl) (qo_call (n := 1) (ok_law_store T) (hr.mono (by decide)) rfl (T.glo 77) (fd_law_store T).kp (bi_law_store T) (fun σ => L2N.passAt (L2N.takes_of rfl rfl rfl rfl) σ) (qag_v (qe_var 0 (pv 0)) qag_nil) (len_agV (fun _ _ _ h => len_agNil h)))) (qss_cons (qs_set 2 nd rfl (by first | exact Or.inl rfl | exact Or.inr rfl) (qo_call (n := 3) (ok_law_any T) (hr.mono (by decide)) rfl (T.glo 78) (fd_law_any T).kp (bi_law_any T) (fun σ => L2N.passAt (L2N.takes_of rfl rfl rfl rfl) σ) (qag_io 1 (pv 1) (qag_v qe_int (qag_v qe_int qag_nil))) (len_agIo (len_agV (len_agV (fun _ _ _ h => len_agNil h)))))) (qss_cons (qs_set 3 nd rfl (by first | exact Or.inl rfl | exact Or.inr rfl) (qo_call (n := 2) (ok_law_bent_grid T) (hr.mono (by decide)) rfl (T.glo 79) (fd_law_bent_grid T).kp (bi_law_bent_grid T) (fun σ => L2N.passAt (L2N.takes_of rfl rfl rfl rfl) σ) (qag_io 1 (pv 1) (qag_v (qe_var 2 (pv 2)) qag_nil)) (len_agIo (len_agV (fun _ _ _ h => len_agNil h))))) (qss_cons (qs_set 4 nd rfl (by first | exact Or.inl rfl | exact Or.inr rfl) (qo_call (n := 1) (ok_law_table T) (hr.mono (by decide)) rfl (T.glo 80) (fd_law_table T).kp (bi_law_table T) (fun σ => L2N.passAt (L2N.takes_of rfl rfl rfl rfl) σ) (qag_v (qe_var 2 (pv 2)) qag_nil) (len_agV (fun _ _ _ h => len_agNil h)))) (qss_cons (qs_set 5 nd rfl (by first | exact Or.inl rfl | exact Or.inr rfl) (qo_call (n := 1) (ok_law_table T) (hr.mono (by decide)) rfl (T.glo 80) (fd_law_table T).kp (bi_law_table T) (fun σ => L2N.passAt (L2N.takes_of rfl rfl rfl rfl) σ) (qag_v (qe_var 3 (pv 3)) qag_nil) (len_agV (fun _ _ _ h => len_agNil h)))) (qss_cons (qs_for rfl (passes_of rfl) rfl (qi_range1 rfl (T.free 6) (qa_cons qe_int qa_nil)) (qg_nm 6 nd rfl (by first | exact Or.inl rfl | exact Or.inr rfl)) (qss_cons (qs_set 7 nd rfl (by first | exact Or.inl rfl | exact Or.inr rfl) (qo_call (n := 3) (ok_law_not_place T) (hr.mono (by decide)) rfl (T.glo 81) (fd_law_not_place T).kp (bi_law_not_place T) (fun σ => L2N.passAt (L2N.takes_of rfl rfl rfl rfl) σ) (qag_io 1 (pv 1) (qag_v qe_int (qag_v (q_bin backD op_sub s_sub (qe_ix rfl (qe_var 2 (pv 2)) qe_int) qe_int) qag_nil))) (len_agIo (len_agV (len_agV (fun _ _ _ h => len_agNil h)))))) (qss_cons (qs_set 8 nd rfl (by first | exact Or.inl rfl | exact Or.inr rfl) (qo_call (n := 3) (ok_law_not_place T) (hr.mono (by decide)) rfl (T.glo 81) (fd_law_not_place T).kp (bi_law_not_place T) (fun σ => L2N.passAt (L2N.takes_of rfl rfl rfl rfl) σ) (qag_io 1 (pv 1) (qag_v qe_int (qag_v (q_bin backD op_sub s_sub (qe_ix rfl (qe_var 2 (pv 2)) qe_int) qe_int) qag_nil))) (len_agIo (len_agV (len_agV (fun _ _ _ h => len_agNil h)))))) (qss_cons (qs_if (qt_not (qt_tru rfl (qe_frz (qo_call (n := 4) (ok_law_refused T) (hr.mono (by decide)) rfl (T.glo 82) (fd_law_refused T).kp (bi_law_refused T) (fun σ => L2N.passAt (L2N.takes_of rfl rfl rfl rfl) σ) (qag_v (qe_var 4 (pv 4)) (qag_v (qe_var 7 (pv 7)) (qag_v (qe_var 8 (pv 8)) (qag_v (qe_var 7 (pv 7)) qag_nil)))) (len_agV (len_agV (len_agV (len_agV (fun _ _ _ h => len_agNil h))))))) (by intro _; rfl))) (qss_one (qs_ret (qo_fro qe_bl))) qss_nil) (qss_cons (qs_if (qt_w (qw_and (qt_cmp op_gt s_gt (qe_ix rfl (qe_var 2 (pv 2)) qe_int) qe_int (nomark _)) (qw_and1 (qt_not (qt_tru rfl (qe_frz (qo_call (n := 4) (ok_law_refused T) (hr.mono (by decide)) rfl (T.glo 82) (fd_law_refused T).kp (bi_law_refused T) (fun σ => L2N.passAt (L2N.takes_of rfl rfl rfl rfl) σ) (qag_v (qe_var 4 (pv 4)) (qag_v (qe_frz (qo_call (n := 2) (ok_law_take T) (hr.mono (by decide)) rfl (T.glo 3) (fd_law_take T).kp (bi_law_take T) (fun σ => L2N.passAt (L2N.takes_of rfl rfl rfl rfl) σ) (qag_io 1 (pv 1) (qag_v (qe_ix rfl (qe_var 2 (pv 2)) qe_int) qag_nil)) (len_agIo (len_agV (fun _ _ _ h => len_agNil h))))) (qag_v (qe_var 8 (pv 8)) (qag_v (qe_var 8 (pv 8)) qag_nil)))) (len_agV (len_agV (len_agV (len_agV (fun _ _ _ h => len_agNil h))))))) (by intro _; rfl)))))) (qss_one (qs_ret (qo_fro qe_bl))) qss_nil) (qss_cons (qs_if (qt_w (qw_and (qt_cmp op_gt s_gt (qe_ix rfl (qe_var 2 (pv 2)) qe_int) qe_int (nomark _)) (qw_and1 (qt_not (qt_tru rfl (qe_frz (qo_call (n := 4) (ok_law_refused T) (hr.mono (by decide)) rfl (T.glo 82) (fd_law_refused T).kp (bi_law_refused T) (fun σ => L2N.passAt (L2N.takes_of rfl rfl rfl rfl) σ) (qag_v (qe_var 4 (pv 4)) (qag_v (qe_var 7 (pv 7)) (qag_v (qe_frz (qo_call (n := 2) (ok_law_take T) (hr.mono (by decide)) rfl (T.glo 3) (fd_law_take T).kp (bi_law_take T) (fun σ => L2N.passAt (L2N.takes_of rfl rfl rfl rfl) σ) (qag_io 1 (pv 1) (qag_v (qe_ix rfl (qe_var 2 (pv 2)) qe_int) qag_nil)) (len_agIo (len_agV (fun _ _ _ h => len_agNil h))))) (qag_v (qe_var 7 (pv 7)) qag_nil)))) (len_agV (len_agV (len_agV (len_agV (fun _ _ _ h => len_agNil h))))))) (by intro _; rfl)))))) (qss_one (qs_ret (qo_fro qe_bl))) qss_nil) (qss_one (qs_if (qt_not (qt_tru rfl (qe_frz (qo_call (n := 4) (ok_law_right T) (hr.mono (by decide)) rfl (T.glo 83) (fd_law_right T).kp (bi_law_right T) (fun σ => L2N.passAt (L2N.takes_of rfl rfl rfl rfl) σ) (qag_v (qe_var 4 (pv 4)) (qag_v (qe_var 2 (pv 2)) (qag_v (qe_var 3 (pv 3)) (qag_v (qe_var 5 (pv 5)) qag_nil)))) (len_agV (len_agV (len_agV (len_agV (fun _ _ _ h => len_agNil h))))))) (by intro _; rfl))) (qss_one (qs_ret (qo_fro qe_bl))) qss_nil)))))))) (qss_one (qs_ret (qo_fro qe_bl)))))))))
end
end L36

end
section
set_option Elab.async false
set_option linter.all false
set_option autoImplicit false
set_option maxRecDepth 100000
set_option maxHeartbeats 2000000
namespace Eng
open PySem PySem.Spec L2
open PyProof.Rows hiding St

/-! ### what a mirror gives -/
structure Hush {α : Type} (m : M α) (P : α → En → Prop) : Type where
def wq {α : Type} (m : M α) (e : En) (P : α → En → Prop) (x : Hush m P := ⟨⟩) : Prop := match m e with
  | .ok a e' => P a e'
  | _ => False
section
variable {α β : Type} {e : En} {i : Nat}
theorem wq_imp {m : M α} {P Q : α → En → Prop} (h : wq m e P) (k : ∀ a e', P a e' → Q a e') : wq m e Q := by
  unfold wq at *
  cases q : m e with
  | ok a e' => rw [q] at h; exact k a e' h
  | err c fs e' => rw [q] at h; exact h
  | bad => rw [q] at h; exact h
theorem wq_ext {m : M α} {P Q : α → En → Prop} (h : ∀ a e', P a e' = Q a e') : wq m e P = wq m e Q := by
  have : P = Q := funext fun a => funext fun e' => h a e'
  rw [this]
theorem wq_ok {m : M α} {P : α → En → Prop} (h : wq m e P) : ∃ a e', m e = .ok a e' ∧ P a e' := by
  unfold wq at h
  cases q : m e with
  | ok a e' => rw [q] at h; exact ⟨a, e', rfl, h⟩
  | err c fs e' => rw [q] at h; exact h.elim
  | bad => rw [q] at h; exact h.elim
theorem wq_of {m : M α} {P : α → En → Prop} {a : α} {e' : En} (h : m e = .ok a e') (p : P a e') : wq m e P := by
  unfold wq; rw [h]; exact p
@[simp] theorem wq_pure {a : α} {P : α → En → Prop} : wq (M.pure a) e P = P a e := rfl
@[simp] theorem wq_bad {P : α → En → Prop} : wq (bad : M α) e P = False := rfl
@[simp] theorem wq_bind {m : M α} {f : α → M β} {P : β → En → Prop} : wq (M.bind m f) e P = wq m e fun a e' => wq (f a) e' P := by
  unfold wq M.bind
  cases m e <;> rfl
@[simp] theorem wq_var {P : D → En → Prop} : wq (mVar i) e P = match e[i]? with
    | some (.fro d) => P d e
    | some (.own (.l l)) => P (.lst l) (e.set i (.fro (.lst l)))
    | _ => False := by
  unfold wq mVar
  cases e[i]? with
  | none => rfl
  | some s => cases s with
    | own l => cases l <;> rfl
    | _ => rfl
@[simp] theorem wq_fro {m : M D} {P : Slot → En → Prop} : wq (mFro m) e P = wq m e fun d e' => P (.fro d) e' := wq_bind
@[simp] theorem wq_frz {m : M Slot} {P : D → En → Prop} : wq (mFrz m) e P = wq m e fun s e' => match s with
    | .fro d => P d e'
    | .own (.l l) => P (.lst l) e'
    | _ => False := by
  unfold wq mFrz
  cases m e with
  | ok s e' => cases s with
    | own l => cases l <;> rfl
    | _ => rfl
  | _ => rfl
@[simp] theorem wq_bin {f : D → D → M α} {m n : M D} {P : α → En → Prop} : wq (mBin f m n) e P = wq m e fun x e1 => wq n e1 fun y e2 => wq (f x y) e2 P := by
  unfold mBin; rw [wq_bind]
  exact wq_ext fun x e1 => wq_bind
@[simp] theorem wq_tst {m : M D} {P : Bool → En → Prop} : wq (mTst m) e P = wq m e fun d e' => match d with
    | .bl b => P b e'
    | _ => False := by
  unfold mTst; rw [wq_bind]
  refine wq_ext fun d e' => ?_; cases d <;> rfl
@[simp] theorem wq_tru {m : M D} {P : Bool → En → Prop} : wq (mTru m) e P = wq m e fun d e' => match dTru d with
    | some b => P b e'
    | none => False := by
  unfold mTru; rw [wq_bind]
  refine wq_ext fun d e' => ?_; cases dTru d <;> rfl
@[simp] theorem wq_notB {m : M Bool} {P : Bool → En → Prop} : wq (mNotB m) e P = wq m e fun b e' => P (!b) e' := wq_bind
@[simp] theorem wq_andB {m n : M Bool} {P : Bool → En → Prop} : wq (mAndB m n) e P = wq m e fun b e' => if b = true then wq n e' P else P false e' := by
  unfold mAndB; rw [wq_bind]
  refine wq_ext fun b e' => ?_; cases b <;> rfl
@[simp] theorem wq_orB {m n : M Bool} {P : Bool → En → Prop} : wq (mOrB m n) e P = wq m e fun b e' => if b = true then P true e' else wq n e' P := by
  unfold mOrB; rw [wq_bind]
  refine wq_ext fun b e' => ?_; cases b <;> rfl
@[simp] theorem wq_dBl {d : D} {P : Bool → En → Prop} : wq (dBl d) e P = match d with
    | .bl b => P b e
    | _ => False := by cases d <;> rfl
@[simp] theorem wq_andV {m n : M D} {P : D → En → Prop} : wq (mAndV m n) e P = wq m e fun d e' => match d with
    | .bl b => if b = true then wq n e' P else P (.bl false) e'
    | _ => False := by
  unfold mAndV; rw [wq_bind]
  refine wq_ext fun d e' => ?_; rw [wq_bind]; cases d with
  | bl b => cases b <;> rfl
  | _ => rfl
@[simp] theorem wq_orV {m n : M D} {P : D → En → Prop} : wq (mOrV m n) e P = wq m e fun d e' => match d with
    | .bl b => if b = true then P (.bl true) e' else wq n e' P
    | _ => False := by
  unfold mOrV; rw [wq_bind]
  refine wq_ext fun d e' => ?_; rw [wq_bind]; cases d with
  | bl b => cases b <;> rfl
  | _ => rfl
@[simp] theorem wq_notV {m : M D} {P : D → En → Prop} : wq (mNotV m) e P = wq m e fun d e' => match d with
    | .bl b => P (.bl (!b)) e'
    | _ => False := by
  unfold mNotV; rw [wq_bind]
  refine wq_ext fun d e' => ?_; rw [wq_bind]; cases d <;> rfl
@[simp] theorem wq_ifE {m : M Bool} {x y : M α} {P : α → En → Prop} : wq (mIfE m x y) e P = wq m e fun b e' => if b = true then wq x e' P else wq y e' P := by
  unfold mIfE; rw [wq_bind]
  refine wq_ext fun b e' => ?_; cases b <;> rfl
@[simp] theorem wq_nil {P : List D → En → Prop} : wq mNil e P = P [] e := rfl
@[simp] theorem wq_cons {m : M D} {n : M (List D)} {P : List D → En → Prop} : wq (mCons m n) e P = wq m e fun d e1 => wq n e1 fun ds e2 => P (d :: ds) e2 := by
  unfold mCons; rw [wq_bind]
  exact wq_ext fun x e1 => wq_bind
@[simp] theorem wq_mkTup {ds : List D} {P : D → En → Prop} : wq (mkTup ds) e P = (szOk ds.length = true ∧ P (.tup ds) e) := by
  unfold mkTup; cases szOk ds.length <;> simp
@[simp] theorem wq_mkLst {ds : List D} {P : Slot → En → Prop} : wq (mkLst ds) e P = (szOk ds.length = true ∧ P (.own (.l ds)) e) := by
  unfold mkLst; cases szOk ds.length <;> simp
@[simp] theorem wq_chain {f g : D → D → M D} {m n k : M D} {P : D → En → Prop} : wq (mChain f g m n k) e P = wq m e fun x e1 => wq n e1 fun y e2 => wq (f x y) e2 fun z e3 => match z with
    | .bl b => if b = true then wq k e3 fun w e4 => wq (g y w) e4 P else P (.bl false) e3
    | _ => False := by
  unfold mChain; rw [wq_bind]
  refine wq_ext fun x e1 => ?_
  rw [wq_bind]
  refine wq_ext fun y e2 => ?_
  rw [wq_bind]
  refine wq_ext fun z e3 => ?_
  rw [wq_bind, wq_dBl]
  cases z with
  | bl b => cases b <;> simp
  | _ => rfl
/-! statements -/
@[simp] theorem wq_seq {m n : M Fl} {P : Fl → En → Prop} : wq (mSeq m n) e P = wq m e fun f e' => match f with
    | .nx => wq n e' P
    | f => P f e' := by
  unfold wq mSeq
  cases m e with
  | ok f e' => cases f <;> rfl
  | _ => rfl
@[simp] theorem wq_next {P : Fl → En → Prop} : wq mNext e P = P .nx e := rfl
@[simp] theorem wq_ret {m : M Slot} {P : Fl → En → Prop} : wq (mRet m) e P = wq m e fun s e' => P (.rt s) e' := wq_bind
@[simp] theorem wq_retVar {P : Fl → En → Prop} : wq (mRetVar i) e P = match e[i]? with
    | some (.fro d) => P (.rt (.fro d)) e
    | some (.own l) => P (.rt (.own l)) (e.set i .emp)
    | _ => False := by
  unfold wq mRetVar
  cases e[i]? with
  | none => rfl
  | some s => cases s <;> rfl
@[simp] theorem wq_if {c : M Bool} {m n : M Fl} {P : Fl → En → Prop} : wq (mIf c m n) e P = wq c e fun b e' => if b = true then wq m e' P else wq n e' P := by
  unfold wq mIf
  cases c e with
  | ok b e' => cases b <;> rfl
  | _ => rfl
@[simp] theorem wq_set {m : M Slot} {P : Fl → En → Prop} : wq (mSet i m) e P = wq m e fun s e' => match e'[i]? with
    | some s0 => noIo s0 = true ∧ (match s with
      | .fro d => P .nx (e'.set i (.fro d))
      | .own l => P .nx (e'.set i (.own l))
      | _ => False)
    | none => False := by
  unfold mSet; rw [wq_bind]
  refine wq_ext fun s e' => ?_
  unfold wq setSlot
  cases e'[i]? with
  | none => rfl
  | some s0 => cases h : noIo s0 <;> cases s <;> simp [h]
@[simp] theorem wq_unp {t : Tg} {m : M D} {P : Fl → En → Prop} : wq (mUnp t m) e P = wq m e fun d e' => match t.set d e' with
    | some e2 => P .nx e2
    | none => False := by
  unfold mUnp; rw [wq_bind]
  refine wq_ext fun d e' => ?_
  unfold wq
  dsimp only
  cases h : t.set d e' <;> rfl
@[simp] theorem wq_for {t : Tg} {mi : M (List D)} {body : M Fl} {P : Fl → En → Prop} : wq (mFor t mi body) e P = wq mi e fun xs e1 => wq (forLoop t body xs) e1 P := by
  unfold wq mFor; cases mi e <;> rfl
@[simp] theorem wq_it {m : M D} {P : List D → En → Prop} : wq (mIt m) e P = wq m e fun d e' => match d with
    | .lst l => P l e'
    | .tup l => P l e'
    | .stp l => P l e'
    | _ => False := by
  unfold mIt; rw [wq_bind]
  refine wq_ext fun d e' => ?_; cases d <;> rfl
@[simp] theorem wq_yes {P : Bool → En → Prop} : wq mYes e P = P true e := rfl
@[simp] theorem wq_lc {vs : List Nat} {t : Tg} {mi : M (List D)} {mc : M Bool} {me : M D} {P : Slot → En → Prop} : wq (mLc vs t mi mc me) e P = wq mi e fun xs e1 => szOk xs.length = true ∧ okC e1 vs = true ∧ wq (lcLoop vs t mc me xs []) (wipeE e1 vs) fun acc e' => P (.own (.l acc)) (restore e1 e' vs) := by
  unfold wq mLc
  cases mi e with
  | ok xs e1 =>
    simp only []
    cases h1 : szOk xs.length <;> cases h2 : okC e1 vs <;> simp
    cases lcLoop vs t mc me xs [] (wipeE e1 vs) <;> rfl
  | _ => rfl
@[simp] theorem wq_mut {f : List D → List D → Option (List D × D)} {n : M (List D)} {P : D → En → Prop} : wq (mMut i f n) e P = ((myList i e).isSome = true ∧ wq n e fun ds e' => match myList i e' with
    | some l => (match f l ds with
      | some (l', d) => P d (putList i l' e')
      | none => False)
    | none => False) := by
  unfold wq mMut
  cases myList i e with
  | none => simp
  | some l0 =>
    simp only [Option.isSome_some, true_and]
    cases n e with
    | ok ds e' =>
      simp only []
      cases myList i e' with
      | none => rfl
      | some l => simp only []; cases f l ds <;> rfl
    | _ => rfl
@[simp] theorem wq_ixO {m : M D} {P : D → En → Prop} : wq (mIxO i m) e P = ((myList i e).isSome = true ∧ wq m e fun d e' => match d, myList i e' with
    | .int k, some l => (match atI l k with
      | some d => P d e'
      | none => False)
    | _, _ => False) := by
  unfold wq mIxO
  cases myList i e with
  | none => simp
  | some l0 =>
    simp only [Option.isSome_some, true_and]
    cases m e with
    | ok d e' =>
      cases d with
      | int k =>
        simp only []
        cases myList i e' with
        | none => rfl
        | some l => simp only []; cases atI l k <;> rfl
      | _ => simp
    | _ => rfl
@[simp] theorem wq_putO {m n : M D} {P : Fl → En → Prop} : wq (mPutO i m n) e P = wq m e fun d e1 => (myList i e1).isSome = true ∧ wq n e1 fun k e2 => match k, myList i e2 with
    | .int k, some l => (match ixN l.length k with
      | some j => P .nx (putList i (l.set j d) e2)
      | none => False)
    | _, _ => False := by
  unfold wq mPutO
  cases m e with
  | ok d e1 =>
    simp only []
    cases myList i e1 with
    | none => simp
    | some l0 =>
      simp only [Option.isSome_some, true_and]
      cases n e1 with
      | ok k e2 =>
        cases k with
        | int k =>
          simp only []
          cases myList i e2 with
          | none => rfl
          | some l => simp only []; cases ixN l.length k <;> rfl
        | _ => simp
      | _ => rfl
  | _ => rfl
def lendF (is : List Nat) : Nat → En → En
  | _, [] => []
  | j, s :: r => lend1 is j s :: lendF is (j + 1) r
theorem lendE_F (is : List Nat) (e : En) : lendE is e = lendF is 0 e := by
  apply List.ext_getElem?
  intro j
  have key : ∀ (e : En) (n j : Nat), (lendF is n e)[j]? = (e[j]?).map (lend1 is (n + j)) := by
    intro e
    induction e with
    | nil => intro n j; simp [lendF]
    | cons s r ih =>
      intro n j
      cases j with
      | zero => simp [lendF]
      | succ j => simp only [lendF, List.getElem?_cons_succ, ih]; congr 2; omega
  rw [lendE_get, key, Nat.zero_add]
@[simp] theorem wq_lend {is : List Nat} {m : M D} {P : D → En → Prop} : wq (mLend is m) e P = wq m (lendF is 0 e) fun d _ => d.scal = true ∧ P d e := by
  rw [← lendE_F]
  unfold wq mLend
  cases m (lendE is e) with
  | ok d e1 => simp only []; cases d.scal <;> simp
  | _ => rfl
/-! defs and calls -/
@[simp] theorem wq_fn {k : Nat} {m : M Fl} {P : Slot → En → Prop} : wq (mFn k m) e P = wq m (e ++ List.replicate k .emp) fun f e1 => (e1.length == e.length + k) = true ∧ match f with
    | .nx => P (.fro .non) (backArgs e e1)
    | .rt s => P s (backArgs e e1)
    | _ => False := by
  unfold wq mFn
  cases m (e ++ List.replicate k .emp) with
  | ok f e1 => simp only [finFn]; cases (e1.length == e.length + k) <;> cases f <;> simp
  | err c fs e1 => simp only [finFn]; cases (e1.length == e.length + k) <;> simp
  | bad => rfl
@[simp] theorem wq_agNil {P : List Ag → En → Prop} : wq agNil e P = P [] e := rfl
@[simp] theorem wq_agV {m : M D} {n : M (List Ag)} {P : List Ag → En → Prop} : wq (agV m n) e P = wq m e fun d e1 => wq n e1 fun as e2 => P (.v d :: as) e2 := by
  unfold agV; rw [wq_bind]
  exact wq_ext fun x e1 => wq_bind
@[simp] theorem wq_agIo {n : M (List Ag)} {P : List Ag → En → Prop} : wq (agIo i n) e P = ((myOb i e).isSome = true ∧ wq n e fun as e2 => P (.io i :: as) e2) := by
  have h : wq (n.bind fun as => M.pure (.io i :: as)) e P = wq n e fun as e2 => P (.io i :: as) e2 := wq_bind
  rw [← h]
  unfold wq agIo
  cases myOb i e <;> simp
@[simp] theorem wq_call {F : M Slot} {n : M (List Ag)} {P : Slot → En → Prop} : wq (mCall F n) e P = wq n e fun as e1 => decide (ioIxs as).Nodup = true ∧ match argSlots e1 as with
    | some args => wq F args fun s args' => P s (putArgs as args' e1)
    | none => False := by
  unfold mCall; rw [wq_bind]
  refine wq_ext fun as e1 => ?_
  unfold wq
  cases decide (ioIxs as).Nodup with
  | false => simp
  | true =>
    simp only [if_true, true_and]
    cases argSlots e1 as with
    | none => rfl
    | some args => simp only []; cases F args <;> rfl
@[simp] theorem wq_callV {F : M Slot} {ds : List D} {P : Slot → En → Prop} : wq (mCallV F ds) e P = wq F (ds.map .fro) fun s _ => P s e := by
  unfold wq mCallV
  cases F (ds.map .fro) <;> rfl
@[simp] theorem wq_noErr {m : M α} {P : α → En → Prop} : wq (noErr m) e P = wq m e P := by
  unfold wq noErr
  cases m e <;> rfl
@[simp] theorem wq_insD {c : Nat} {d : D} {P : D → En → Prop} : wq (insD c d) e P = match d with
    | .ins c' l => c' = c ∧ P (.ins c' l) e
    | _ => False := by
  cases d with
  | ins c' l =>
    have e0 : insD c (.ins c' l) = if c' = c then M.pure (.ins c' l) else bad := rfl
    rw [e0]
    by_cases h : c' = c
    · subst h; rw [if_pos rfl]; simp
    · rw [if_neg h]; simp [h]
  | _ => rfl
@[simp] theorem wq_getF {c k : Nat} {d : D} {P : D → En → Prop} : wq (getF c k d) e P = match d with
    | .ins c' l => c' = c ∧ (match l[k]? with
      | some d => P d e
      | none => False)
    | _ => False := by
  cases d with
  | ins c' l =>
    have e0 : getF c k (.ins c' l) = if c' = c then (match l[k]? with | some d => M.pure d | none => bad) else bad := rfl
    rw [e0]
    by_cases h : c' = c
    · subst h; rw [if_pos rfl]; simp only [true_and]; cases l[k]? <;> rfl
    · rw [if_neg h]; simp [h]
  | _ => rfl
@[simp] theorem wq_prop {c : Nat} {F : M Slot} {m : M D} {P : Slot → En → Prop} : wq (mProp c F m) e P = wq m e fun d e1 => match d with
    | .ins c' l => c' = c ∧ wq F [.fro (.ins c' l)] fun s _ => P s e1
    | _ => False := by
  unfold mProp; rw [wq_bind]
  refine wq_ext fun d e1 => ?_
  rw [wq_bind, wq_insD]
  cases d with
  | ins c' l => simp only [wq_noErr, wq_callV]; rfl
  | _ => rfl
@[simp] theorem wq_inv {c : Nat} {F : M Slot} {m : M D} {P : Slot → En → Prop} : wq (mInv c F m) e P = wq m e fun d e1 => match d with
    | .ins c' l => c' = c ∧ wq F [.fro (.ins c' l)] fun s _ => P s e1
    | _ => False := by
  unfold mInv; rw [wq_bind]
  refine wq_ext fun d e1 => ?_
  rw [wq_bind, wq_insD]
  cases d with
  | ins c' l => simp only [wq_callV]; rfl
  | _ => rfl
@[simp] theorem wq_binO {c : Nat} {F : M Slot} {m n : M D} {P : Slot → En → Prop} : wq (mBinO c F m n) e P = wq m e fun d e1 => wq n e1 fun d' e2 => wq (insD c d) e2 fun d e3 => wq (insD c d') e3 fun d' e4 => wq F [.fro d, .fro d'] fun s _ => P s e4 := by
  unfold mBinO; rw [wq_bind]
  refine wq_ext fun d e1 => ?_
  rw [wq_bind]
  refine wq_ext fun d' e2 => ?_
  rw [wq_bind]
  refine wq_ext fun d e3 => ?_
  rw [wq_bind]
  exact wq_ext fun d' e4 => wq_callV
@[simp] theorem wq_putF {c : Nat} {f : Str} {m : M D} {P : Fl → En → Prop} : wq (mPutF i c f m) e P = wq m e fun d e1 => match myOb i e1 with
    | some (.o c' fs) => (c' = c ∧ fs.length < 1000) ∧ P .nx (putOb i (.o c (putFD f d fs)) e1)
    | _ => False := by
  unfold mPutF; rw [wq_bind]
  refine wq_ext fun d e1 => ?_
  unfold wq
  dsimp only
  cases myOb i e1 with
  | none => rfl
  | some o =>
    cases o with
    | l l => rfl
    | o c' fs => simp only []; by_cases h : c' = c ∧ fs.length < 1000 <;> simp [h]
@[simp] theorem wq_getO {c : Nat} {f : Str} {P : D → En → Prop} : wq (mGetO i c f) e P = match myOb i e with
    | some (.o c' fs) => c' = c ∧ (match fs.lookup f with
      | some d => P d e
      | none => False)
    | _ => False := by
  unfold wq mGetO
  cases myOb i e with
  | none => rfl
  | some o =>
    cases o with
    | l l => rfl
    | o c' fs =>
      simp only []
      by_cases h : c' = c
      · simp only [h, if_true, true_and]; cases fs.lookup f <;> rfl
      · simp [h]
@[simp] theorem wq_callK0 {n2 : Nat} {F : M Slot} {bd : List D → List D} {k : M (List D)} {P : Slot → En → Prop} : wq (mCallK0 n2 F bd k) e P = wq k e fun es e1 => es.length = n2 ∧ wq F ((bd es).map .fro) fun s _ => P s e1 := by
  unfold mCallK0; rw [wq_bind]
  refine wq_ext fun es e1 => ?_
  by_cases h : es.length = n2
  · rw [if_pos h, wq_callV]; simp [h]
  · rw [if_neg h]; simp [h]
theorem wq_new {c : Nat} {names : List Str} {F : M Slot} {ds : List D} {P : D → En → Prop} : wq (mNew c names F ds) e P = wq F (.io (.o c []) :: ds.map .fro) fun s args => match s, args with
    | .fro .non, .io (.o c' fs) :: _ => (c' = c ∧ fs.map (·.1) = names) ∧ P (.ins c (fs.map (·.2))) e
    | _, _ => False := by
  unfold wq mNew
  cases F (.io (.o c []) :: ds.map .fro) with
  | ok s args =>
    cases s with
    | fro d =>
      cases d with
      | non =>
        cases args with
        | nil => rfl
        | cons a r =>
          cases a with
          | io o =>
            cases o with
            | l l => rfl
            | o c' fs =>
              dsimp only
              by_cases h : c' = c ∧ fs.map (·.1) = names
              · rw [if_pos h]; simp [h]
              · rw [if_neg h]; simp [h]
          | _ => rfl
      | _ => rfl
    | _ => rfl
  | _ => rfl
@[simp] theorem wq_makeKw {n1 n2 c : Nat} {names : List Str} {F : M Slot} {bd : List D → List D → List D} {m k : M (List D)} {P : D → En → Prop} : wq (mMakeKw n1 n2 c names F bd m k) e P = wq m e fun ds e1 => wq k e1 fun es e2 => (ds.length = n1 ∧ es.length = n2) ∧ wq (mNew c names F (bd ds es)) e2 P := by
  unfold mMakeKw; rw [wq_bind]
  refine wq_ext fun ds e1 => ?_
  rw [wq_bind]
  refine wq_ext fun es e2 => ?_
  by_cases h : ds.length = n1 ∧ es.length = n2
  · rw [if_pos h]; simp [h]
  · rw [if_neg h]; simp [h]
/-! rules for loops -/
theorem for_ruleQ {t : Tg} {body : M Fl} {xs : List D} {P : Fl → En → Prop} (I : Nat → En → Prop) (h0 : I 0 e)
    (hs : ∀ i d e, xs[i]? = some d → I i e → ∃ e1, t.set d e = some e1 ∧ wq body e1 fun f e2 => match f with
      | .nx => I (i + 1) e2
      | .ct => I (i + 1) e2
      | .bk => P .nx e2
      | .rt s => P (.rt s) e2) (hn : ∀ e, I xs.length e → P .nx e) : wq (forLoop t body xs) e P := by
  have key : ∀ (ys : List D) (k : Nat) (e : En), k ≤ xs.length → xs.drop k = ys → I k e → wq (forLoop t body ys) e P := by
    intro ys
    induction ys with
    | nil =>
      intro k e hl hd hi
      have hk : xs.length ≤ k := List.drop_eq_nil_iff.mp hd
      have : k = xs.length := by omega
      subst this
      exact hn e hi
    | cons d ys ih =>
      intro k e hl hd hi
      have hk : xs[k]? = some d := by
        have := congrArg (·[0]?) hd
        simpa using this
      have hlt : k < xs.length := by
        rcases Nat.lt_or_ge k xs.length with h | h
        · exact h
        · rw [List.getElem?_eq_none h] at hk; cases hk
      obtain ⟨e1, h1, h2⟩ := hs k d e hk hi
      have hd' : xs.drop (k + 1) = ys := by
        have := congrArg List.tail hd
        simpa using this
      obtain ⟨f, e2, h3, h4⟩ := wq_ok h2
      unfold wq
      simp only [forLoop, h1, h3]
      cases f with
      | nx => exact ih (k + 1) e2 hlt hd' h4
      | ct => exact ih (k + 1) e2 hlt hd' h4
      | bk => exact h4
      | rt s => exact h4
  exact key xs 0 e (Nat.zero_le _) rfl h0
theorem lc_ruleQ {vs : List Nat} {t : Tg} {mc : M Bool} {me : M D} {xs : List D} {P : List D → En → Prop} (I : Nat → List D → En → Prop) (h0 : I 0 [] e)
    (hs : ∀ i d acc e, xs[i]? = some d → I i acc e → ∃ e1, t.set d e = some e1 ∧ wq mc e1 fun b e2 => if b = true then wq me e2 fun y e3 => I (i + 1) (acc ++ [y]) (wipeE e3 vs) else I (i + 1) acc (wipeE e2 vs))
    (hn : ∀ acc e, I xs.length acc e → P acc e) : wq (lcLoop vs t mc me xs []) e P := by
  have key : ∀ (ys : List D) (k : Nat) (acc : List D) (e : En), k ≤ xs.length → xs.drop k = ys → I k acc e → wq (lcLoop vs t mc me ys acc) e P := by
    intro ys
    induction ys with
    | nil =>
      intro k acc e hl hd hi
      have hk : xs.length ≤ k := List.drop_eq_nil_iff.mp hd
      have : k = xs.length := by omega
      subst this
      exact hn acc e hi
    | cons d ys ih =>
      intro k acc e hl hd hi
      have hk : xs[k]? = some d := by
        have := congrArg (·[0]?) hd
        simpa using this
      have hlt : k < xs.length := by
        rcases Nat.lt_or_ge k xs.length with h | h
        · exact h
        · rw [List.getElem?_eq_none h] at hk; cases hk
      obtain ⟨e1, h1, h2⟩ := hs k d acc e hk hi
      have hd' : xs.drop (k + 1) = ys := by
        have := congrArg List.tail hd
        simpa using this
      obtain ⟨b, e2, h3, h4⟩ := wq_ok h2
      cases b with
      | true =>
        rw [if_pos rfl] at h4
        obtain ⟨y, e3, h5, h6⟩ := wq_ok h4
        unfold wq
        simp only [lcLoop, h1, h3, h5]
        exact ih (k + 1) _ _ hlt hd' h6
      | false =>
        unfold wq
        simp only [lcLoop, h1, h3]
        exact ih (k + 1) _ _ hlt hd' h4
  exact key xs 0 [] e (Nat.zero_le _) rfl h0
end
end Eng

end
section
set_option Elab.async false
set_option linter.all false
set_option autoImplicit false
set_option maxRecDepth 100000
set_option maxHeartbeats 2000000
namespace Eng
open PySem PySem.Spec L2
open PyProof.Rows hiding St
section
variable {α β : Type} {e : En} {i j : Int} {a b : Bool} {x y : Str} {l r : List D} {P : D → En → Prop} {S : Slot → En → Prop} {L : List D → En → Prop}
@[simp] theorem wq_sub : wq (dSub (.int i) (.int j)) e P = P (.int (i - j)) e := rfl
@[simp] theorem wq_lt : wq (dLt (.int i) (.int j)) e P = P (.bl (decide (i < j))) e := rfl
@[simp] theorem wq_le : wq (dLe (.int i) (.int j)) e P = P (.bl (decide (i ≤ j))) e := rfl
@[simp] theorem wq_gt : wq (dGt (.int i) (.int j)) e P = P (.bl (decide (j < i))) e := rfl
@[simp] theorem wq_ge : wq (dGe (.int i) (.int j)) e P = P (.bl (decide (j ≤ i))) e := rfl
theorem wq_iteBad {c : Bool} {m : M α} {P : α → En → Prop} : wq (if c = true then m else bad) e P = (c = true ∧ wq m e P) := by cases c <;> simp
@[simp] theorem wq_mod : wq (dMod (.int i) (.int j)) e P = (0 < j ∧ P (.int (i % j)) e) := by
  have := wq_iteBad (e := e) (P := P) (c := decide (0 < j)) (m := M.pure (.int (i % j)))
  rw [show dMod (.int i) (.int j) = if decide (0 < j) = true then M.pure (.int (i % j)) else bad from rfl, this]; simp
@[simp] theorem wq_fdiv : wq (dFdiv (.int i) (.int j)) e P = (cDiv j = true ∧ P (.int (i / j)) e) := by
  have := wq_iteBad (e := e) (P := P) (c := cDiv j) (m := M.pure (.int (i / j)))
  rw [show dFdiv (.int i) (.int j) = if cDiv j = true then M.pure (.int (i / j)) else bad from rfl, this]; simp
@[simp] theorem wq_pow : wq (dPow (.int i) (.int j)) e P = ((decide (0 ≤ j) && (decide (j ≤ 1000000) && cSmall i)) = true ∧ P (.int (i ^ j.toNat)) e) := by
  have := wq_iteBad (e := e) (P := P) (c := decide (0 ≤ j) && (decide (j ≤ 1000000) && cSmall i)) (m := M.pure (.int (i ^ j.toNat)))
  rw [show dPow (.int i) (.int j) = if (decide (0 ≤ j) && (decide (j ≤ 1000000) && cSmall i)) = true then M.pure (.int (i ^ j.toNat)) else bad from rfl, this]; simp
@[simp] theorem wq_addI : wq (dAdd (.int i) (.int j)) e S = S (.fro (.int (i + j))) e := rfl
@[simp] theorem wq_addL : wq (dAdd (.lst l) (.lst r)) e S = (szOk (l ++ r).length = true ∧ S (.own (.l (l ++ r))) e) := by
  rw [show dAdd (.lst l) (.lst r) = mkLst (l ++ r) from rfl, wq_mkLst]
@[simp] theorem wq_addT : wq (dAdd (.tup l) (.tup r)) e S = (szOk (l.length + r.length) = true ∧ S (.fro (.tup (l ++ r))) e) := by
  rw [show dAdd (.tup l) (.tup r) = if szOk (l.length + r.length) = true then M.pure (.fro (.tup (l ++ r))) else bad from rfl, wq_iteBad]; simp
@[simp] theorem wq_addS : wq (dAdd (.str x) (.str y)) e S = (szOk (x.length + y.length) = true ∧ S (.fro (.str (x ++ y))) e) := by
  rw [show dAdd (.str x) (.str y) = if szOk (x.length + y.length) = true then M.pure (.fro (.str (x ++ y))) else bad from rfl, wq_iteBad]; simp
@[simp] theorem wq_mulI : wq (dMul (.int i) (.int j)) e S = ((cSmall i || cSmall j) = true ∧ S (.fro (.int (i * j))) e) := by
  rw [show dMul (.int i) (.int j) = if (cSmall i || cSmall j) = true then M.pure (.fro (.int (i * j))) else bad from rfl, wq_iteBad]; simp
@[simp] theorem wq_mulL : wq (dMul (.lst l) (.int j)) e S = ((decide (-(2 ^ 63) ≤ j) && (decide (j < 2 ^ 63) && szOk (l.length * j.toNat))) = true ∧ szOk (List.replicate j.toNat l).flatten.length = true ∧ S (.own (.l (List.replicate j.toNat l).flatten)) e) := by
  rw [show dMul (.lst l) (.int j) = if (decide (-(2 ^ 63) ≤ j) && (decide (j < 2 ^ 63) && szOk (l.length * j.toNat))) = true then mkLst (List.replicate j.toNat l).flatten else bad from rfl, wq_iteBad, wq_mkLst]
@[simp] theorem wq_neg : wq (dNeg (.int i)) e P = P (.int (-i)) e := rfl
@[simp] theorem wq_eq {d f : D} : wq (dEq d f) e P = match dEqB d f with
    | some b => P (.bl b) e
    | none => False := by
  unfold dEq; cases dEqB d f <;> rfl
@[simp] theorem wq_ne {d f : D} : wq (dNe d f) e P = match dEqB d f with
    | some b => P (.bl (!b)) e
    | none => False := by
  unfold dNe; cases dEqB d f <;> rfl
@[simp] theorem eqB_int : dEqB (.int i) (.int j) = some (decide (i = j)) := rfl
@[simp] theorem eqB_bl : dEqB (.bl a) (.bl b) = some (decide (a = b)) := rfl
@[simp] theorem eqB_str : dEqB (.str x) (.str y) = some (decide (x = y)) := rfl
@[simp] theorem wq_in {d f : D} : wq (dIn d f) e P = match dInB d f with
    | some b => P (.bl b) e
    | none => False := by
  unfold dIn; cases dInB d f <;> rfl
@[simp] theorem wq_notIn {d f : D} : wq (dNotIn d f) e P = match dInB d f with
    | some b => P (.bl (!b)) e
    | none => False := by
  unfold dNotIn; cases dInB d f <;> rfl
@[simp] theorem wq_isN {d : D} : wq (dIs d .non) e P = P (.bl (dIsNon d)) e := by cases d <;> rfl
@[simp] theorem wq_isB : wq (dIs (.bl a) (.bl b)) e P = P (.bl (decide (a = b))) e := rfl
@[simp] theorem wq_isNotN {d : D} : wq (dIsNot d .non) e P = P (.bl (!dIsNon d)) e := by cases d <;> rfl
@[simp] theorem wq_isNotB : wq (dIsNot (.bl a) (.bl b)) e P = P (.bl (!decide (a = b))) e := rfl
@[simp] theorem wq_ixL : wq (dIx (.lst l) (.int i)) e P = match atI l i with
    | some d => P d e
    | none => False := by
  rw [show dIx (.lst l) (.int i) = match atI l i with | some d => M.pure d | none => bad from rfl]; cases atI l i <;> rfl
@[simp] theorem wq_ixT : wq (dIx (.tup l) (.int i)) e P = match atI l i with
    | some d => P d e
    | none => False := by
  rw [show dIx (.tup l) (.int i) = match atI l i with | some d => M.pure d | none => bad from rfl]; cases atI l i <;> rfl
@[simp] theorem wq_ixSt : wq (dIx (.stp l) (.int i)) e P = match atI l i with
    | some d => P d e
    | none => False := by
  rw [show dIx (.stp l) (.int i) = match atI l i with | some d => M.pure d | none => bad from rfl]; cases atI l i <;> rfl
@[simp] theorem wq_lenL : wq (dLen [.lst l]) e P = P (.int l.length) e := rfl
@[simp] theorem wq_lenT : wq (dLen [.tup l]) e P = P (.int l.length) e := rfl
@[simp] theorem wq_lenSt : wq (dLen [.stp l]) e P = P (.int l.length) e := rfl
@[simp] theorem wq_tupL : wq (dTuple [.lst l]) e P = P (.tup l) e := rfl
@[simp] theorem wq_tupT : wq (dTuple [.tup l]) e P = P (.tup l) e := rfl
@[simp] theorem wq_tupF : wq (dTupleF [.lst l]) e P = P (.stp l) e := rfl
@[simp] theorem wq_listL : wq (dList [.lst l]) e S = S (.own (.l l)) e := rfl
@[simp] theorem wq_listT : wq (dList [.tup l]) e S = S (.own (.l l)) e := rfl
@[simp] theorem wq_intI : wq (dInt [.int i]) e P = P (.int i) e := rfl
@[simp] theorem wq_intB : wq (dInt [.bl a]) e P = P (.int (if a then 1 else 0)) e := rfl
@[simp] theorem wq_all : wq (dAll [.lst l]) e P = match dBools l with
    | some bs => P (.bl (bs.all id)) e
    | none => False := by
  rw [show dAll [.lst l] = match dBools l with | some bs => M.pure (.bl (bs.all id)) | none => bad from rfl]; cases dBools l <;> rfl
@[simp] theorem wq_any : wq (dAny [.lst l]) e P = match dBools l with
    | some bs => P (.bl (bs.any id)) e
    | none => False := by
  rw [show dAny [.lst l] = match dBools l with | some bs => M.pure (.bl (bs.any id)) | none => bad from rfl]; cases dBools l <;> rfl
@[simp] theorem wq_min : wq (dMin2 [.int i, .int j]) e P = P (.int (if j < i then j else i)) e := rfl
@[simp] theorem wq_max : wq (dMax2 [.int i, .int j]) e P = P (.int (if j > i then j else i)) e := rfl
@[simp] theorem wq_isi {k : Ck} {m : M D} : wq (mIsi k m) e P = wq m e fun d e1 => P (.bl (dIsi k d)) e1 := wq_bind
@[simp] theorem wq_isis {k : List Ck} {m : M D} : wq (mIsis k m) e P = wq m e fun d e1 => P (.bl (k.any fun k => dIsi k d)) e1 := wq_bind
@[simp] theorem wq_rng1 : wq (dRng1 [.int i]) e L = (c62 i = true ∧ L (rangeD 0 i.toNat) e) := by
  rw [show dRng1 [.int i] = if c62 i = true then M.pure (rangeD 0 i.toNat) else bad from rfl, wq_iteBad]; simp
@[simp] theorem wq_rng2 : wq (dRng2 [.int i, .int j]) e L = ((c62 i && c62 j) = true ∧ L (rangeD i (j - i).toNat) e) := by
  rw [show dRng2 [.int i, .int j] = if (c62 i && c62 j) = true then M.pure (rangeD i (j - i).toNat) else bad from rfl, wq_iteBad]; simp
@[simp] theorem wq_part {m : M D} {O : Option Int → En → Prop} : wq (mPart m) e O = wq m e fun d e1 => match d with
    | .int i => O (some i) e1
    | _ => False := by
  unfold mPart; rw [wq_bind]
  refine wq_ext fun d e1 => ?_
  cases d <;> rfl
@[simp] theorem wq_noPart {O : Option Int → En → Prop} : wq mNoPart e O = O none e := rfl
@[simp] theorem wq_sl {m : M D} {n k : M (Option Int)} : wq (mSl m n k) e S = wq m e fun d e1 => wq n e1 fun lo e2 => wq k e2 fun hi e3 => match d with
    | .lst l => S (.own (.l (cutD l lo hi))) e3
    | .scr l => S (.own (.l (cutD (l.map D.int) lo hi))) e3
    | .tup l => S (.fro (.tup (cutD l lo hi))) e3
    | _ => False := by
  unfold mSl; rw [wq_bind]
  refine wq_ext fun d e1 => ?_
  rw [wq_bind]
  refine wq_ext fun lo e2 => ?_
  rw [wq_bind]
  refine wq_ext fun hi e3 => ?_
  cases d <;> rfl
@[simp] theorem wq_enum : wq (dEnum [.lst l]) e L = L (enumD l) e := rfl
@[simp] theorem wq_meth {f : D → List D → M D} {m : M D} {n : M (List D)} : wq (mMeth f m n) e P = wq m e fun d e1 => match d with
    | .lst l => wq n e1 fun ds e2 => wq (f (.lst l) ds) e2 P
    | _ => False := by
  unfold mMeth; rw [wq_bind]
  refine wq_ext fun d e1 => ?_
  cases d with
  | lst l => exact wq_bind
  | _ => rfl
@[simp] theorem wq_methT {f : D → List D → M D} {m : M D} {n : M (List D)} : wq (mMethT f m n) e P = wq m e fun d e1 => match d with
    | .stp l => wq n e1 fun ds e2 => wq (f (.stp l) ds) e2 P
    | _ => False := by
  unfold mMethT; rw [wq_bind]
  refine wq_ext fun d e1 => ?_
  cases d with
  | stp l => exact wq_bind
  | _ => rfl
@[simp] theorem wq_idx {d : D} : wq (dIdx (.lst l) [d]) e P = match dIdxL l d with
    | some k => P (.int (k : Nat)) e
    | none => False := by
  rw [show dIdx (.lst l) [d] = match dIdxL l d with | some j => M.pure (.int (j : Nat)) | none => bad from rfl]; cases dIdxL l d <;> rfl
@[simp] theorem wq_idxT {d : D} : wq (dIdxT (.stp l) [d]) e P = match dIdxL l d with
    | some k => P (.int (k : Nat)) e
    | none => False := by
  rw [show dIdxT (.stp l) [d] = match dIdxL l d with | some j => M.pure (.int (j : Nat)) | none => bad from rfl]; cases dIdxL l d <;> rfl
/-! slots and environments -/
@[simp] theorem restore_nil {e' : En} : restore e e' [] = e' := rfl
@[simp] theorem restore_cons {e' : En} {v : Nat} {vs : List Nat} : restore e e' (v :: vs) = match e[v]? with
    | some s => (restore e e' vs).set v s
    | none => restore e e' vs := rfl
@[simp] theorem wipeE_nil : wipeE e [] = e := rfl
@[simp] theorem wipeE_cons {v : Nat} {vs : List Nat} : wipeE e (v :: vs) = (wipeE e vs).set v .emp := rfl
@[simp] theorem tgset_nm {k : Nat} {d : D} : Tg.set (.nm k) d e = match e[k]? with
    | some s => if noIo s then some (e.set k (.fro d)) else none
    | none => none := by
  show setFros [k] [d] e = _
  unfold setFros
  cases e[k]? with
  | none => rfl
  | some s => rfl
@[simp] theorem lendF_nil {is : List Nat} {n : Nat} : lendF is n [] = [] := rfl
@[simp] theorem lendF_cons {is : List Nat} {n : Nat} {s : Slot} {r : En} : lendF is n (s :: r) = lend1 is n s :: lendF is (n + 1) r := rfl
@[simp] theorem noIo_emp : noIo .emp = true := rfl
@[simp] theorem noIo_fro {d : D} : noIo (.fro d) = true := rfl
@[simp] theorem noIo_own {d : Ob} : noIo (.own d) = true := rfl
theorem szOk_of {n : Nat} (h : n ≤ 16777216) : szOk n = true := decide_eq_true h
theorem rangeD_get {lo : Int} {n k : Nat} {d : D} (h : (rangeD lo n)[k]? = some d) : k < n ∧ d = .int (lo + k) := by
  unfold rangeD at h
  rw [List.getElem?_map] at h
  cases q : (List.range n)[k]? with
  | none => rw [q] at h; cases h
  | some m =>
    rw [q] at h
    have hk : k < n := by
      rcases Nat.lt_or_ge k n with z | z
      · exact z
      · rw [List.getElem?_eq_none (by simpa using z)] at q; cases q
    rw [List.getElem?_range hk] at q
    cases q; cases h
    exact ⟨hk, rfl⟩
end
end Eng

end
section
set_option Elab.async false
set_option linter.all false
set_option autoImplicit false
set_option maxRecDepth 100000
set_option maxHeartbeats 2000000
namespace Eng
open PySem PySem.Spec L2
open PyProof.Rows hiding St
@[irreducible] def wp {α : Type} (m : M α) (e : En) (P : α → En → Prop) (x : Hush m P := ⟨⟩) : Prop := wq m e P
theorem wp_is : @wp = @wq := by
  funext α m e P x
  unfold wp
  rfl
section
variable {α β : Type} {e : En} {i : Nat}
theorem wp_imp {m : M α} {P Q : α → En → Prop} (h : wp m e P) (k : ∀ a e', P a e' → Q a e') : wp m e Q := by
  have q := @wq_imp
  rw [← wp_is] at q
  exact q h k
theorem wp_ext {m : M α} {P Q : α → En → Prop} (h : ∀ a e', P a e' = Q a e') : wp m e P = wp m e Q := by
  have q := @wq_ext
  rw [← wp_is] at q
  exact q h
theorem wp_ok {m : M α} {P : α → En → Prop} (h : wp m e P) : ∃ a e', m e = .ok a e' ∧ P a e' := by
  have q := @wq_ok
  rw [← wp_is] at q
  exact q h
theorem wp_of {m : M α} {P : α → En → Prop} {a : α} {e' : En} (h : m e = .ok a e') (p : P a e') : wp m e P := by
  have q := @wq_of
  rw [← wp_is] at q
  exact q h p
@[simp] theorem wp_pure {a : α} {P : α → En → Prop} : wp (M.pure a) e P = P a e := by
  have q := @wq_pure
  rw [← wp_is] at q
  exact q 
@[simp] theorem wp_bad {P : α → En → Prop} : wp (bad : M α) e P = False := by
  have q := @wq_bad
  rw [← wp_is] at q
  exact q 
@[simp] theorem wp_bind {m : M α} {f : α → M β} {P : β → En → Prop} : wp (M.bind m f) e P = wp m e fun a e' => wp (f a) e' P := by
  have q := @wq_bind
  rw [← wp_is] at q
  exact q 
@[simp] theorem wp_var {P : D → En → Prop} : wp (mVar i) e P = match e[i]? with
    | some (.fro d) => P d e
    | some (.own (.l l)) => P (.lst l) (e.set i (.fro (.lst l)))
    | _ => False := by
  have q := @wq_var
  rw [← wp_is] at q
  exact q 
@[simp] theorem wp_fro {m : M D} {P : Slot → En → Prop} : wp (mFro m) e P = wp m e fun d e' => P (.fro d) e' := by
  have q := @wq_fro
  rw [← wp_is] at q
  exact q 
@[simp] theorem wp_frz {m : M Slot} {P : D → En → Prop} : wp (mFrz m) e P = wp m e fun s e' => match s with
    | .fro d => P d e'
    | .own (.l l) => P (.lst l) e'
    | _ => False := by
  have q := @wq_frz
  rw [← wp_is] at q
  exact q 
@[simp] theorem wp_bin {f : D → D → M α} {m n : M D} {P : α → En → Prop} : wp (mBin f m n) e P = wp m e fun x e1 => wp n e1 fun y e2 => wp (f x y) e2 P := by
  have q := @wq_bin
  rw [← wp_is] at q
  exact q 
@[simp] theorem wp_tst {m : M D} {P : Bool → En → Prop} : wp (mTst m) e P = wp m e fun d e' => match d with
    | .bl b => P b e'
    | _ => False := by
  have q := @wq_tst
  rw [← wp_is] at q
  exact q 
@[simp] theorem wp_tru {m : M D} {P : Bool → En → Prop} : wp (mTru m) e P = wp m e fun d e' => match dTru d with
    | some b => P b e'
    | none => False := by
  have q := @wq_tru
  rw [← wp_is] at q
  exact q 
@[simp] theorem wp_notB {m : M Bool} {P : Bool → En → Prop} : wp (mNotB m) e P = wp m e fun b e' => P (!b) e' := by
  have q := @wq_notB
  rw [← wp_is] at q
  exact q 
@[simp] theorem wp_andB {m n : M Bool} {P : Bool → En → Prop} : wp (mAndB m n) e P = wp m e fun b e' => if b = true then wp n e' P else P false e' := by
  have q := @wq_andB
  rw [← wp_is] at q
  exact q 
@[simp] theorem wp_orB {m n : M Bool} {P : Bool → En → Prop} : wp (mOrB m n) e P = wp m e fun b e' => if b = true then P true e' else wp n e' P := by
  have q := @wq_orB
  rw [← wp_is] at q
  exact q 
@[simp] theorem wp_dBl {d : D} {P : Bool → En → Prop} : wp (dBl d) e P = match d with
    | .bl b => P b e
    | _ => False := by
  have q := @wq_dBl
  rw [← wp_is] at q
  exact q 
@[simp] theorem wp_andV {m n : M D} {P : D → En → Prop} : wp (mAndV m n) e P = wp m e fun d e' => match d with
    | .bl b => if b = true then wp n e' P else P (.bl false) e'
    | _ => False := by
  have q := @wq_andV
  rw [← wp_is] at q
  exact q 
@[simp] theorem wp_orV {m n : M D} {P : D → En → Prop} : wp (mOrV m n) e P = wp m e fun d e' => match d with
    | .bl b => if b = true then P (.bl true) e' else wp n e' P
    | _ => False := by
  have q := @wq_orV
  rw [← wp_is] at q
  exact q 
@[simp] theorem wp_notV {m : M D} {P : D → En → Prop} : wp (mNotV m) e P = wp m e fun d e' => match d with
    | .bl b => P (.bl (!b)) e'
    | _ => False := by
  have q := @wq_notV
  rw [← wp_is] at q
  exact q 
@[simp] theorem wp_ifE {m : M Bool} {x y : M α} {P : α → En → Prop} : wp (mIfE m x y) e P = wp m e fun b e' => if b = true then wp x e' P else wp y e' P := by
  have q := @wq_ifE
  rw [← wp_is] at q
  exact q 
@[simp] theorem wp_nil {P : List D → En → Prop} : wp mNil e P = P [] e := by
  have q := @wq_nil
  rw [← wp_is] at q
  exact q 
@[simp] theorem wp_cons {m : M D} {n : M (List D)} {P : List D → En → Prop} : wp (mCons m n) e P = wp m e fun d e1 => wp n e1 fun ds e2 => P (d :: ds) e2 := by
  have q := @wq_cons
  rw [← wp_is] at q
  exact q 
@[simp] theorem wp_mkTup {ds : List D} {P : D → En → Prop} : wp (mkTup ds) e P = (szOk ds.length = true ∧ P (.tup ds) e) := by
  have q := @wq_mkTup
  rw [← wp_is] at q
  exact q 
@[simp] theorem wp_mkLst {ds : List D} {P : Slot → En → Prop} : wp (mkLst ds) e P = (szOk ds.length = true ∧ P (.own (.l ds)) e) := by
  have q := @wq_mkLst
  rw [← wp_is] at q
  exact q 
@[simp] theorem wp_chain {f g : D → D → M D} {m n k : M D} {P : D → En → Prop} : wp (mChain f g m n k) e P = wp m e fun x e1 => wp n e1 fun y e2 => wp (f x y) e2 fun z e3 => match z with
    | .bl b => if b = true then wp k e3 fun w e4 => wp (g y w) e4 P else P (.bl false) e3
    | _ => False := by
  have q := @wq_chain
  rw [← wp_is] at q
  exact q 
@[simp] theorem wp_seq {m n : M Fl} {P : Fl → En → Prop} : wp (mSeq m n) e P = wp m e fun f e' => match f with
    | .nx => wp n e' P
    | f => P f e' := by
  have q := @wq_seq
  rw [← wp_is] at q
  exact q 
@[simp] theorem wp_next {P : Fl → En → Prop} : wp mNext e P = P .nx e := by
  have q := @wq_next
  rw [← wp_is] at q
  exact q 
@[simp] theorem wp_ret {m : M Slot} {P : Fl → En → Prop} : wp (mRet m) e P = wp m e fun s e' => P (.rt s) e' := by
  have q := @wq_ret
  rw [← wp_is] at q
  exact q 
@[simp] theorem wp_retVar {P : Fl → En → Prop} : wp (mRetVar i) e P = match e[i]? with
    | some (.fro d) => P (.rt (.fro d)) e
    | some (.own l) => P (.rt (.own l)) (e.set i .emp)
    | _ => False := by
  have q := @wq_retVar
  rw [← wp_is] at q
  exact q 
@[simp] theorem wp_if {c : M Bool} {m n : M Fl} {P : Fl → En → Prop} : wp (mIf c m n) e P = wp c e fun b e' => if b = true then wp m e' P else wp n e' P := by
  have q := @wq_if
  rw [← wp_is] at q
  exact q 
@[simp] theorem wp_set {m : M Slot} {P : Fl → En → Prop} : wp (mSet i m) e P = wp m e fun s e' => match e'[i]? with
    | some s0 => noIo s0 = true ∧ (match s with
      | .fro d => P .nx (e'.set i (.fro d))
      | .own l => P .nx (e'.set i (.own l))
      | _ => False)
    | none => False := by
  have q := @wq_set
  rw [← wp_is] at q
  exact q 
@[simp] theorem wp_unp {t : Tg} {m : M D} {P : Fl → En → Prop} : wp (mUnp t m) e P = wp m e fun d e' => match t.set d e' with
    | some e2 => P .nx e2
    | none => False := by
  have q := @wq_unp
  rw [← wp_is] at q
  exact q 
@[simp] theorem wp_for {t : Tg} {mi : M (List D)} {body : M Fl} {P : Fl → En → Prop} : wp (mFor t mi body) e P = wp mi e fun xs e1 => wp (forLoop t body xs) e1 P := by
  have q := @wq_for
  rw [← wp_is] at q
  exact q 
@[simp] theorem wp_it {m : M D} {P : List D → En → Prop} : wp (mIt m) e P = wp m e fun d e' => match d with
    | .lst l => P l e'
    | .tup l => P l e'
    | .stp l => P l e'
    | _ => False := by
  have q := @wq_it
  rw [← wp_is] at q
  exact q 
@[simp] theorem wp_yes {P : Bool → En → Prop} : wp mYes e P = P true e := by
  have q := @wq_yes
  rw [← wp_is] at q
  exact q 
@[simp] theorem wp_lc {vs : List Nat} {t : Tg} {mi : M (List D)} {mc : M Bool} {me : M D} {P : Slot → En → Prop} : wp (mLc vs t mi mc me) e P = wp mi e fun xs e1 => szOk xs.length = true ∧ okC e1 vs = true ∧ wp (lcLoop vs t mc me xs []) (wipeE e1 vs) fun acc e' => P (.own (.l acc)) (restore e1 e' vs) := by
  have q := @wq_lc
  rw [← wp_is] at q
  exact q 
@[simp] theorem wp_mut {f : List D → List D → Option (List D × D)} {n : M (List D)} {P : D → En → Prop} : wp (mMut i f n) e P = ((myList i e).isSome = true ∧ wp n e fun ds e' => match myList i e' with
    | some l => (match f l ds with
      | some (l', d) => P d (putList i l' e')
      | none => False)
    | none => False) := by
  have q := @wq_mut
  rw [← wp_is] at q
  exact q 
@[simp] theorem wp_ixO {m : M D} {P : D → En → Prop} : wp (mIxO i m) e P = ((myList i e).isSome = true ∧ wp m e fun d e' => match d, myList i e' with
    | .int k, some l => (match atI l k with
      | some d => P d e'
      | none => False)
    | _, _ => False) := by
  have q := @wq_ixO
  rw [← wp_is] at q
  exact q 
@[simp] theorem wp_putO {m n : M D} {P : Fl → En → Prop} : wp (mPutO i m n) e P = wp m e fun d e1 => (myList i e1).isSome = true ∧ wp n e1 fun k e2 => match k, myList i e2 with
    | .int k, some l => (match ixN l.length k with
      | some j => P .nx (putList i (l.set j d) e2)
      | none => False)
    | _, _ => False := by
  have q := @wq_putO
  rw [← wp_is] at q
  exact q 
@[simp] theorem wp_lend {is : List Nat} {m : M D} {P : D → En → Prop} : wp (mLend is m) e P = wp m (lendF is 0 e) fun d _ => d.scal = true ∧ P d e := by
  have q := @wq_lend
  rw [← wp_is] at q
  exact q 
@[simp] theorem wp_fn {k : Nat} {m : M Fl} {P : Slot → En → Prop} : wp (mFn k m) e P = wp m (e ++ List.replicate k .emp) fun f e1 => (e1.length == e.length + k) = true ∧ match f with
    | .nx => P (.fro .non) (backArgs e e1)
    | .rt s => P s (backArgs e e1)
    | _ => False := by
  have q := @wq_fn
  rw [← wp_is] at q
  exact q 
@[simp] theorem wp_agNil {P : List Ag → En → Prop} : wp agNil e P = P [] e := by
  have q := @wq_agNil
  rw [← wp_is] at q
  exact q 
@[simp] theorem wp_agV {m : M D} {n : M (List Ag)} {P : List Ag → En → Prop} : wp (agV m n) e P = wp m e fun d e1 => wp n e1 fun as e2 => P (.v d :: as) e2 := by
  have q := @wq_agV
  rw [← wp_is] at q
  exact q 
@[simp] theorem wp_agIo {n : M (List Ag)} {P : List Ag → En → Prop} : wp (agIo i n) e P = ((myOb i e).isSome = true ∧ wp n e fun as e2 => P (.io i :: as) e2) := by
  have q := @wq_agIo
  rw [← wp_is] at q
  exact q 
@[simp] theorem wp_call {F : M Slot} {n : M (List Ag)} {P : Slot → En → Prop} : wp (mCall F n) e P = wp n e fun as e1 => decide (ioIxs as).Nodup = true ∧ match argSlots e1 as with
    | some args => wp F args fun s args' => P s (putArgs as args' e1)
    | none => False := by
  have q := @wq_call
  rw [← wp_is] at q
  exact q 
@[simp] theorem wp_callV {F : M Slot} {ds : List D} {P : Slot → En → Prop} : wp (mCallV F ds) e P = wp F (ds.map .fro) fun s _ => P s e := by
  have q := @wq_callV
  rw [← wp_is] at q
  exact q 
@[simp] theorem wp_noErr {m : M α} {P : α → En → Prop} : wp (noErr m) e P = wp m e P := by
  have q := @wq_noErr
  rw [← wp_is] at q
  exact q 
@[simp] theorem wp_insD {c : Nat} {d : D} {P : D → En → Prop} : wp (insD c d) e P = match d with
    | .ins c' l => c' = c ∧ P (.ins c' l) e
    | _ => False := by
  have q := @wq_insD
  rw [← wp_is] at q
  exact q 
@[simp] theorem wp_getF {c k : Nat} {d : D} {P : D → En → Prop} : wp (getF c k d) e P = match d with
    | .ins c' l => c' = c ∧ (match l[k]? with
      | some d => P d e
      | none => False)
    | _ => False := by
  have q := @wq_getF
  rw [← wp_is] at q
  exact q 
@[simp] theorem wp_prop {c : Nat} {F : M Slot} {m : M D} {P : Slot → En → Prop} : wp (mProp c F m) e P = wp m e fun d e1 => match d with
    | .ins c' l => c' = c ∧ wp F [.fro (.ins c' l)] fun s _ => P s e1
    | _ => False := by
  have q := @wq_prop
  rw [← wp_is] at q
  exact q 
@[simp] theorem wp_inv {c : Nat} {F : M Slot} {m : M D} {P : Slot → En → Prop} : wp (mInv c F m) e P = wp m e fun d e1 => match d with
    | .ins c' l => c' = c ∧ wp F [.fro (.ins c' l)] fun s _ => P s e1
    | _ => False := by
  have q := @wq_inv
  rw [← wp_is] at q
  exact q 
@[simp] theorem wp_binO {c : Nat} {F : M Slot} {m n : M D} {P : Slot → En → Prop} : wp (mBinO c F m n) e P = wp m e fun d e1 => wp n e1 fun d' e2 => wp (insD c d) e2 fun d e3 => wp (insD c d') e3 fun d' e4 => wp F [.fro d, .fro d'] fun s _ => P s e4 := by
  have q := @wq_binO
  rw [← wp_is] at q
  exact q 
@[simp] theorem wp_putF {c : Nat} {f : Str} {m : M D} {P : Fl → En → Prop} : wp (mPutF i c f m) e P = wp m e fun d e1 => match myOb i e1 with
    | some (.o c' fs) => (c' = c ∧ fs.length < 1000) ∧ P .nx (putOb i (.o c (putFD f d fs)) e1)
    | _ => False := by
  have q := @wq_putF
  rw [← wp_is] at q
  exact q 
@[simp] theorem wp_getO {c : Nat} {f : Str} {P : D → En → Prop} : wp (mGetO i c f) e P = match myOb i e with
    | some (.o c' fs) => c' = c ∧ (match fs.lookup f with
      | some d => P d e
      | none => False)
    | _ => False := by
  have q := @wq_getO
  rw [← wp_is] at q
  exact q 
@[simp] theorem wp_callK0 {n2 : Nat} {F : M Slot} {bd : List D → List D} {k : M (List D)} {P : Slot → En → Prop} : wp (mCallK0 n2 F bd k) e P = wp k e fun es e1 => es.length = n2 ∧ wp F ((bd es).map .fro) fun s _ => P s e1 := by
  have q := @wq_callK0
  rw [← wp_is] at q
  exact q 
theorem wp_new {c : Nat} {names : List Str} {F : M Slot} {ds : List D} {P : D → En → Prop} : wp (mNew c names F ds) e P = wp F (.io (.o c []) :: ds.map .fro) fun s args => match s, args with
    | .fro .non, .io (.o c' fs) :: _ => (c' = c ∧ fs.map (·.1) = names) ∧ P (.ins c (fs.map (·.2))) e
    | _, _ => False := by
  have q := @wq_new
  rw [← wp_is] at q
  exact q 
@[simp] theorem wp_makeKw {n1 n2 c : Nat} {names : List Str} {F : M Slot} {bd : List D → List D → List D} {m k : M (List D)} {P : D → En → Prop} : wp (mMakeKw n1 n2 c names F bd m k) e P = wp m e fun ds e1 => wp k e1 fun es e2 => (ds.length = n1 ∧ es.length = n2) ∧ wp (mNew c names F (bd ds es)) e2 P := by
  have q := @wq_makeKw
  rw [← wp_is] at q
  exact q 
theorem for_rule {t : Tg} {body : M Fl} {xs : List D} {P : Fl → En → Prop} (I : Nat → En → Prop) (h0 : I 0 e)
    (hs : ∀ i d e, xs[i]? = some d → I i e → ∃ e1, t.set d e = some e1 ∧ wp body e1 fun f e2 => match f with
      | .nx => I (i + 1) e2
      | .ct => I (i + 1) e2
      | .bk => P .nx e2
      | .rt s => P (.rt s) e2) (hn : ∀ e, I xs.length e → P .nx e) : wp (forLoop t body xs) e P := by
  have q := @for_ruleQ
  rw [← wp_is] at q
  exact q I h0 hs hn
theorem lc_rule {vs : List Nat} {t : Tg} {mc : M Bool} {me : M D} {xs : List D} {P : List D → En → Prop} (I : Nat → List D → En → Prop) (h0 : I 0 [] e)
    (hs : ∀ i d acc e, xs[i]? = some d → I i acc e → ∃ e1, t.set d e = some e1 ∧ wp mc e1 fun b e2 => if b = true then wp me e2 fun y e3 => I (i + 1) (acc ++ [y]) (wipeE e3 vs) else I (i + 1) acc (wipeE e2 vs))
    (hn : ∀ acc e, I xs.length acc e → P acc e) : wp (lcLoop vs t mc me xs []) e P := by
  have q := @lc_ruleQ
  rw [← wp_is] at q
  exact q I h0 hs hn
end
section
variable {α β : Type} {e : En} {i j : Int} {a b : Bool} {x y : Str} {l r : List D} {P : D → En → Prop} {S : Slot → En → Prop} {L : List D → En → Prop}
@[simp] theorem wp_sub : wp (dSub (.int i) (.int j)) e P = P (.int (i - j)) e := by
  have q := @wq_sub
  rw [← wp_is] at q
  exact q 
@[simp] theorem wp_lt : wp (dLt (.int i) (.int j)) e P = P (.bl (decide (i < j))) e := by
  have q := @wq_lt
  rw [← wp_is] at q
  exact q 
@[simp] theorem wp_le : wp (dLe (.int i) (.int j)) e P = P (.bl (decide (i ≤ j))) e := by
  have q := @wq_le
  rw [← wp_is] at q
  exact q 
@[simp] theorem wp_gt : wp (dGt (.int i) (.int j)) e P = P (.bl (decide (j < i))) e := by
  have q := @wq_gt
  rw [← wp_is] at q
  exact q 
@[simp] theorem wp_ge : wp (dGe (.int i) (.int j)) e P = P (.bl (decide (j ≤ i))) e := by
  have q := @wq_ge
  rw [← wp_is] at q
  exact q 
theorem wp_iteBad {c : Bool} {m : M α} {P : α → En → Prop} : wp (if c = true then m else bad) e P = (c = true ∧ wp m e P) := by
  have q := @wq_iteBad
  rw [← wp_is] at q
  exact q 
@[simp] theorem wp_mod : wp (dMod (.int i) (.int j)) e P = (0 < j ∧ P (.int (i % j)) e) := by
  have q := @wq_mod
  rw [← wp_is] at q
  exact q 
@[simp] theorem wp_fdiv : wp (dFdiv (.int i) (.int j)) e P = (cDiv j = true ∧ P (.int (i / j)) e) := by
  have q := @wq_fdiv
  rw [← wp_is] at q
  exact q 
@[simp] theorem wp_pow : wp (dPow (.int i) (.int j)) e P = ((decide (0 ≤ j) && (decide (j ≤ 1000000) && cSmall i)) = true ∧ P (.int (i ^ j.toNat)) e) := by
  have q := @wq_pow
  rw [← wp_is] at q
  exact q 
@[simp] theorem wp_addI : wp (dAdd (.int i) (.int j)) e S = S (.fro (.int (i + j))) e := by
  have q := @wq_addI
  rw [← wp_is] at q
  exact q 
@[simp] theorem wp_addL : wp (dAdd (.lst l) (.lst r)) e S = (szOk (l ++ r).length = true ∧ S (.own (.l (l ++ r))) e) := by
  have q := @wq_addL
  rw [← wp_is] at q
  exact q 
@[simp] theorem wp_addT : wp (dAdd (.tup l) (.tup r)) e S = (szOk (l.length + r.length) = true ∧ S (.fro (.tup (l ++ r))) e) := by
  have q := @wq_addT
  rw [← wp_is] at q
  exact q 
@[simp] theorem wp_addS : wp (dAdd (.str x) (.str y)) e S = (szOk (x.length + y.length) = true ∧ S (.fro (.str (x ++ y))) e) := by
  have q := @wq_addS
  rw [← wp_is] at q
  exact q 
@[simp] theorem wp_mulI : wp (dMul (.int i) (.int j)) e S = ((cSmall i || cSmall j) = true ∧ S (.fro (.int (i * j))) e) := by
  have q := @wq_mulI
  rw [← wp_is] at q
  exact q 
@[simp] theorem wp_mulL : wp (dMul (.lst l) (.int j)) e S = ((decide (-(2 ^ 63) ≤ j) && (decide (j < 2 ^ 63) && szOk (l.length * j.toNat))) = true ∧ szOk (List.replicate j.toNat l).flatten.length = true ∧ S (.own (.l (List.replicate j.toNat l).flatten)) e) := by
  have q := @wq_mulL
  rw [← wp_is] at q
  exact q 
@[simp] theorem wp_neg : wp (dNeg (.int i)) e P = P (.int (-i)) e := by
  have q := @wq_neg
  rw [← wp_is] at q
  exact q 
@[simp] theorem wp_eq {d f : D} : wp (dEq d f) e P = match dEqB d f with
    | some b => P (.bl b) e
    | none => False := by
  have q := @wq_eq
  rw [← wp_is] at q
  exact q 
@[simp] theorem wp_ne {d f : D} : wp (dNe d f) e P = match dEqB d f with
    | some b => P (.bl (!b)) e
    | none => False := by
  have q := @wq_ne
  rw [← wp_is] at q
  exact q 
@[simp] theorem wp_in {d f : D} : wp (dIn d f) e P = match dInB d f with
    | some b => P (.bl b) e
    | none => False := by
  have q := @wq_in
  rw [← wp_is] at q
  exact q 
@[simp] theorem wp_notIn {d f : D} : wp (dNotIn d f) e P = match dInB d f with
    | some b => P (.bl (!b)) e
    | none => False := by
  have q := @wq_notIn
  rw [← wp_is] at q
  exact q 
@[simp] theorem wp_isN {d : D} : wp (dIs d .non) e P = P (.bl (dIsNon d)) e := by
  have q := @wq_isN
  rw [← wp_is] at q
  exact q 
@[simp] theorem wp_isB : wp (dIs (.bl a) (.bl b)) e P = P (.bl (decide (a = b))) e := by
  have q := @wq_isB
  rw [← wp_is] at q
  exact q 
@[simp] theorem wp_isNotN {d : D} : wp (dIsNot d .non) e P = P (.bl (!dIsNon d)) e := by
  have q := @wq_isNotN
  rw [← wp_is] at q
  exact q 
@[simp] theorem wp_isNotB : wp (dIsNot (.bl a) (.bl b)) e P = P (.bl (!decide (a = b))) e := by
  have q := @wq_isNotB
  rw [← wp_is] at q
  exact q 
@[simp] theorem wp_ixL : wp (dIx (.lst l) (.int i)) e P = match atI l i with
    | some d => P d e
    | none => False := by
  have q := @wq_ixL
  rw [← wp_is] at q
  exact q 
@[simp] theorem wp_ixT : wp (dIx (.tup l) (.int i)) e P = match atI l i with
    | some d => P d e
    | none => False := by
  have q := @wq_ixT
  rw [← wp_is] at q
  exact q 
@[simp] theorem wp_ixSt : wp (dIx (.stp l) (.int i)) e P = match atI l i with
    | some d => P d e
    | none => False := by
  have q := @wq_ixSt
  rw [← wp_is] at q
  exact q 
@[simp] theorem wp_lenL : wp (dLen [.lst l]) e P = P (.int l.length) e := by
  have q := @wq_lenL
  rw [← wp_is] at q
  exact q 
@[simp] theorem wp_lenT : wp (dLen [.tup l]) e P = P (.int l.length) e := by
  have q := @wq_lenT
  rw [← wp_is] at q
  exact q 
@[simp] theorem wp_lenSt : wp (dLen [.stp l]) e P = P (.int l.length) e := by
  have q := @wq_lenSt
  rw [← wp_is] at q
  exact q 
@[simp] theorem wp_tupL : wp (dTuple [.lst l]) e P = P (.tup l) e := by
  have q := @wq_tupL
  rw [← wp_is] at q
  exact q 
@[simp] theorem wp_tupT : wp (dTuple [.tup l]) e P = P (.tup l) e := by
  have q := @wq_tupT
  rw [← wp_is] at q
  exact q 
@[simp] theorem wp_tupF : wp (dTupleF [.lst l]) e P = P (.stp l) e := by
  have q := @wq_tupF
  rw [← wp_is] at q
  exact q 
@[simp] theorem wp_listL : wp (dList [.lst l]) e S = S (.own (.l l)) e := by
  have q := @wq_listL
  rw [← wp_is] at q
  exact q 
@[simp] theorem wp_listT : wp (dList [.tup l]) e S = S (.own (.l l)) e := by
  have q := @wq_listT
  rw [← wp_is] at q
  exact q 
@[simp] theorem wp_intI : wp (dInt [.int i]) e P = P (.int i) e := by
  have q := @wq_intI
  rw [← wp_is] at q
  exact q 
@[simp] theorem wp_intB : wp (dInt [.bl a]) e P = P (.int (if a then 1 else 0)) e := by
  have q := @wq_intB
  rw [← wp_is] at q
  exact q 
@[simp] theorem wp_all : wp (dAll [.lst l]) e P = match dBools l with
    | some bs => P (.bl (bs.all id)) e
    | none => False := by
  have q := @wq_all
  rw [← wp_is] at q
  exact q 
@[simp] theorem wp_any : wp (dAny [.lst l]) e P = match dBools l with
    | some bs => P (.bl (bs.any id)) e
    | none => False := by
  have q := @wq_any
  rw [← wp_is] at q
  exact q 
@[simp] theorem wp_min : wp (dMin2 [.int i, .int j]) e P = P (.int (if j < i then j else i)) e := by
  have q := @wq_min
  rw [← wp_is] at q
  exact q 
@[simp] theorem wp_max : wp (dMax2 [.int i, .int j]) e P = P (.int (if j > i then j else i)) e := by
  have q := @wq_max
  rw [← wp_is] at q
  exact q 
@[simp] theorem wp_isi {k : Ck} {m : M D} : wp (mIsi k m) e P = wp m e fun d e1 => P (.bl (dIsi k d)) e1 := by
  have q := @wq_isi
  rw [← wp_is] at q
  exact q 
@[simp] theorem wp_isis {k : List Ck} {m : M D} : wp (mIsis k m) e P = wp m e fun d e1 => P (.bl (k.any fun k => dIsi k d)) e1 := by
  have q := @wq_isis
  rw [← wp_is] at q
  exact q 
@[simp] theorem wp_rng1 : wp (dRng1 [.int i]) e L = (c62 i = true ∧ L (rangeD 0 i.toNat) e) := by
  have q := @wq_rng1
  rw [← wp_is] at q
  exact q 
@[simp] theorem wp_rng2 : wp (dRng2 [.int i, .int j]) e L = ((c62 i && c62 j) = true ∧ L (rangeD i (j - i).toNat) e) := by
  have q := @wq_rng2
  rw [← wp_is] at q
  exact q 
@[simp] theorem wp_part {m : M D} {O : Option Int → En → Prop} : wp (mPart m) e O = wp m e fun d e1 => match d with
    | .int i => O (some i) e1
    | _ => False := by
  have q := @wq_part
  rw [← wp_is] at q
  exact q 
@[simp] theorem wp_noPart {O : Option Int → En → Prop} : wp mNoPart e O = O none e := by
  have q := @wq_noPart
  rw [← wp_is] at q
  exact q 
@[simp] theorem wp_sl {m : M D} {n k : M (Option Int)} : wp (mSl m n k) e S = wp m e fun d e1 => wp n e1 fun lo e2 => wp k e2 fun hi e3 => match d with
    | .lst l => S (.own (.l (cutD l lo hi))) e3
    | .scr l => S (.own (.l (cutD (l.map D.int) lo hi))) e3
    | .tup l => S (.fro (.tup (cutD l lo hi))) e3
    | _ => False := by
  have q := @wq_sl
  rw [← wp_is] at q
  exact q 
@[simp] theorem wp_enum : wp (dEnum [.lst l]) e L = L (enumD l) e := by
  have q := @wq_enum
  rw [← wp_is] at q
  exact q 
@[simp] theorem wp_meth {f : D → List D → M D} {m : M D} {n : M (List D)} : wp (mMeth f m n) e P = wp m e fun d e1 => match d with
    | .lst l => wp n e1 fun ds e2 => wp (f (.lst l) ds) e2 P
    | _ => False := by
  have q := @wq_meth
  rw [← wp_is] at q
  exact q 
@[simp] theorem wp_methT {f : D → List D → M D} {m : M D} {n : M (List D)} : wp (mMethT f m n) e P = wp m e fun d e1 => match d with
    | .stp l => wp n e1 fun ds e2 => wp (f (.stp l) ds) e2 P
    | _ => False := by
  have q := @wq_methT
  rw [← wp_is] at q
  exact q 
@[simp] theorem wp_idx {d : D} : wp (dIdx (.lst l) [d]) e P = match dIdxL l d with
    | some k => P (.int (k : Nat)) e
    | none => False := by
  have q := @wq_idx
  rw [← wp_is] at q
  exact q 
@[simp] theorem wp_idxT {d : D} : wp (dIdxT (.stp l) [d]) e P = match dIdxL l d with
    | some k => P (.int (k : Nat)) e
    | none => False := by
  have q := @wq_idxT
  rw [← wp_is] at q
  exact q 
end
end Eng

end
section
set_option Elab.async false
set_option linter.all false
set_option autoImplicit false
set_option maxRecDepth 100000
set_option maxHeartbeats 2000000
namespace Eng
open PySem PySem.Spec L2
open PyProof.Rows hiding St
/-! the store of draws -/
def Stor (l : List D) : Prop := ∃ (cs : List Int) (n : Nat) (a b c d f : Int), l = [.lst (cs.map .int), .int n, .int a, .int b, .int c, .int d, .int f]
@[simp] theorem stor_mk {cs : List Int} {n : Nat} {a b c d f : Int} : Stor [.lst (cs.map .int), .int n, .int a, .int b, .int c, .int d, .int f] = True := eq_true ⟨cs, n, a, b, c, d, f, rfl⟩
@[simp] theorem stor_mk1 {cs : List Int} {n : Nat} {a b c d f : Int} : Stor [.lst (cs.map .int), .int (n + 1), .int a, .int b, .int c, .int d, .int f] = True := eq_true ⟨cs, n + 1, a, b, c, d, f, rfl⟩
section
variable {e : En} {i : Nat}
@[simp] theorem myOb_eq : myOb i e = match e[i]? with
    | some (.own l) => some l
    | some (.io l) => some l
    | _ => none := rfl
@[simp] theorem myList_eq : myList i e = match myOb i e with
    | some (.l l) => some l
    | _ => none := rfl
@[simp] theorem putOb_eqn {l : Ob} : putOb i l e = match e[i]? with
    | some (.own _) => e.set i (.own l)
    | some (.io _) => e.set i (.io l)
    | _ => e := rfl
@[simp] theorem putList_eq {l : List D} : putList i l e = putOb i (.l l) e := rfl
@[simp] theorem ioIxs_nil : ioIxs [] = [] := rfl
@[simp] theorem ioIxs_v {d : D} {as : List Ag} : ioIxs (.v d :: as) = ioIxs as := rfl
@[simp] theorem ioIxs_io {as : List Ag} : ioIxs (.io i :: as) = i :: ioIxs as := rfl
@[simp] theorem argSlots_nil : argSlots e [] = some [] := rfl
@[simp] theorem argSlots_v {d : D} {as : List Ag} : argSlots e (.v d :: as) = (argSlots e as).map (.fro d :: ·) := rfl
@[simp] theorem argSlots_io {as : List Ag} : argSlots e (.io i :: as) = match myOb i e with
    | some l => (argSlots e as).map (.io l :: ·)
    | none => none := rfl
@[simp] theorem putArgs_nil {a : En} : putArgs [] a e = e := by cases a <;> rfl
@[simp] theorem putArgs_v {d : D} {as : List Ag} {s : Slot} {a : En} : putArgs (.v d :: as) (s :: a) e = putArgs as a e := rfl
@[simp] theorem putArgs_io {l : Ob} {as : List Ag} {a : En} : putArgs (.io i :: as) (.io l :: a) e = putArgs as a (putOb i l e) := rfl
@[simp] theorem backArgs_nil {a : En} : backArgs [] a = [] := rfl
@[simp] theorem backArgs_cons {s t : Slot} {a b : En} : backArgs (s :: a) (t :: b) = backArg s t :: backArgs a b := rfl
@[simp] theorem backArg_io {l : Ob} {t : Slot} : backArg (.io l) t = t := rfl
@[simp] theorem backArg_fro {l : D} {t : Slot} : backArg (.fro l) t = .fro l := rfl
@[simp] theorem lend1_l1 {is : List Nat} {j : Nat} {l : List D} : lend1 is j (.own (.l l)) = if j ∈ is then .fro (.lst l) else .emp := rfl
@[simp] theorem lend1_l2 {is : List Nat} {j : Nat} {l : List D} : lend1 is j (.io (.l l)) = if j ∈ is then .fro (.lst l) else .emp := rfl
@[simp] theorem lend1_o1 {is : List Nat} {j c : Nat} {f : List (Str × D)} : lend1 is j (.own (.o c f)) = .emp := rfl
@[simp] theorem lend1_o2 {is : List Nat} {j c : Nat} {f : List (Str × D)} : lend1 is j (.io (.o c f)) = .emp := rfl
@[simp] theorem lend1_f {is : List Nat} {j : Nat} {d : D} : lend1 is j (.fro d) = .fro d := rfl
@[simp] theorem lend1_e {is : List Nat} {j : Nat} : lend1 is j .emp = .emp := rfl
@[simp] theorem scal_bl {b : Bool} : D.scal (.bl b) = true := rfl
@[simp] theorem scal_int {b : Int} : D.scal (.int b) = true := rfl
@[simp] theorem scal_str {b : Str} : D.scal (.str b) = true := rfl
@[simp] theorem scal_non : D.scal .non = true := rfl
@[simp] theorem tru_bl {b : Bool} : dTru (.bl b) = some b := rfl
@[simp] theorem tru_int {b : Int} : dTru (.int b) = some (b != 0) := rfl
@[simp] theorem tru_lst {b : List D} : dTru (.lst b) = some (!b.isEmpty) := rfl
@[simp] theorem tru_tup {b : List D} : dTru (.tup b) = some (!b.isEmpty) := rfl
@[simp] theorem tru_non : dTru .non = some false := rfl
@[simp] theorem fAppend_eq {l : List D} {d : D} : fAppend l [d] = if szOk (l.length + 1) = true then some (l ++ [d], .non) else none := rfl
end
section
variable {α β : Type} {e : En}
@[simp] theorem atI_nat {l : List α} {k : Nat} : atI l (k : Int) = l[k]? := by
  unfold atI ixN
  have h0 : (0 : Int) ≤ k := Int.natCast_nonneg k
  rw [if_pos h0]
  by_cases h : (k : Int) < l.length
  · rw [if_pos h]; simp
  · rw [if_neg h]
    have : l.length ≤ k := by omega
    simp [List.getElem?_eq_none this]
@[simp] theorem atI_0 {l : List α} : atI l 0 = l[0]? := atI_nat (k := 0)
@[simp] theorem atI_1 {l : List α} : atI l 1 = l[1]? := atI_nat (k := 1)
@[simp] theorem atI_2 {l : List α} : atI l 2 = l[2]? := atI_nat (k := 2)
@[simp] theorem atI_3 {l : List α} : atI l 3 = l[3]? := atI_nat (k := 3)
@[simp] theorem atI_4 {l : List α} : atI l 4 = l[4]? := atI_nat (k := 4)
@[simp] theorem atI_5 {l : List α} : atI l 5 = l[5]? := atI_nat (k := 5)
@[simp] theorem atI_6 {l : List α} : atI l 6 = l[6]? := atI_nat (k := 6)
@[simp] theorem atI_7 {l : List α} : atI l 7 = l[7]? := atI_nat (k := 7)
@[simp] theorem ixN_nat {n k : Nat} : ixN n (k : Int) = if k < n then some k else none := by
  unfold ixN
  have h0 : (0 : Int) ≤ k := Int.natCast_nonneg k
  rw [if_pos h0]
  by_cases h : k < n
  · rw [if_pos h, if_pos (by omega)]; simp
  · rw [if_neg h, if_neg (by omega)]
@[simp] theorem ixN_0 {n : Nat} : ixN n 0 = if 0 < n then some 0 else none := ixN_nat (k := 0)
@[simp] theorem ixN_1 {n : Nat} : ixN n 1 = if 1 < n then some 1 else none := ixN_nat (k := 1)
@[simp] theorem ixN_2 {n : Nat} : ixN n 2 = if 2 < n then some 2 else none := ixN_nat (k := 2)
@[simp] theorem ixN_3 {n : Nat} : ixN n 3 = if 3 < n then some 3 else none := ixN_nat (k := 3)
@[simp] theorem ixN_4 {n : Nat} : ixN n 4 = if 4 < n then some 4 else none := ixN_nat (k := 4)
@[simp] theorem ixN_5 {n : Nat} : ixN n 5 = if 5 < n then some 5 else none := ixN_nat (k := 5)
@[simp] theorem ixN_6 {n : Nat} : ixN n 6 = if 6 < n then some 6 else none := ixN_nat (k := 6)
@[simp] theorem ixN_7 {n : Nat} : ixN n 7 = if 7 < n then some 7 else none := ixN_nat (k := 7)
end
end Eng

end
section
set_option Elab.async false
set_option linter.all false
set_option autoImplicit false
set_option maxRecDepth 100000
set_option maxHeartbeats 2000000
namespace Eng
open PySem PySem.Spec L2
open PyProof.Rows hiding St
section
variable {e : En} {v : Nat} {me : M D} {mc : M Bool} {xs : List D} {P : List D → En → Prop}
theorem set_emp (h : e[v]? = some .emp) : ∀ d : D, Tg.set (.nm v) d e = some (e.set v (.fro d)) := fun d => by simp [h]
/-- a comprehension of one name, without draws -/
theorem lc_filt (h : e[v]? = some .emp) (p : D → Bool) (g : D → D)
    (hs : ∀ d ∈ xs, wp mc (e.set v (.fro d)) fun b e2 => b = p d ∧ (if p d = true then wp me e2 fun y e3 => y = g d ∧ e3.set v .emp = e else e2.set v .emp = e)) (hn : P ((xs.filter p).map g) e) : wp (lcLoop [v] (.nm v) mc me xs []) e P := by
  refine lc_rule (fun i acc e' => acc = ((xs.take i).filter p).map g ∧ e' = e) ⟨by simp, rfl⟩ ?_ ?_
  · rintro i d acc e' hi ⟨rfl, rfl⟩
    refine ⟨_, set_emp h d, ?_⟩
    refine wp_imp (hs d (List.mem_of_getElem? hi)) ?_
    rintro b e2 ⟨rfl, h2⟩
    have ht : xs.take (i + 1) = xs.take i ++ [d] := by rw [List.take_add_one, hi]; rfl
    cases hp : p d with
    | true =>
      rw [if_pos rfl]
      rw [hp, if_pos rfl] at h2
      refine wp_imp h2 ?_
      rintro y e3 ⟨rfl, h3⟩
      refine ⟨?_, h3⟩
      rw [ht, List.filter_append, List.map_append]
      simp [hp]
    | false =>
      rw [if_neg (by simp)]
      rw [hp, if_neg (by simp)] at h2
      refine ⟨?_, h2⟩
      rw [ht, List.filter_append, List.map_append]
      simp [hp]
  · rintro acc e' ⟨rfl, rfl⟩
    rw [List.take_length]
    exact hn
theorem lc_map (h : e[v]? = some .emp) (g : D → D) (hs : ∀ d ∈ xs, wp me (e.set v (.fro d)) fun y e3 => y = g d ∧ e3.set v .emp = e) (hn : P (xs.map g) e) : wp (lcLoop [v] (.nm v) mYes me xs []) e P :=
  lc_filt h (fun _ => true) g (fun d hd => by simp only [wp_yes, if_true, true_and]; exact hs d hd) (by rw [List.filter_eq_self.mpr (fun _ _ => rfl)]; exact hn)
theorem lc_range {n : Nat} (h : e[v]? = some .emp) (g : Nat → D) (hs : ∀ i : Nat, i < n → wp me (e.set v (.fro (.int i))) fun y e3 => y = g i ∧ e3.set v .emp = e) (hn : P ((List.range n).map g) e) : wp (lcLoop [v] (.nm v) mYes me (rangeD 0 n) []) e P := by
  refine lc_map h (fun d => match d with | .int i => g i.toNat | d => d) ?_ ?_
  · intro d hd
    obtain ⟨i, hi, rfl⟩ := List.mem_map.mp hd
    have := hs i (List.mem_range.mp hi)
    have e0 : (0 + (i : Int)).toNat = i := by omega
    show wp me (e.set v (.fro (.int (0 + (i : Int))))) fun y e3 => y = g (0 + (i : Int)).toNat ∧ e3.set v .emp = e
    rw [e0, Int.zero_add]
    exact this
  · have : (rangeD 0 n).map (fun d => match d with | .int i => g i.toNat | d => d) = (List.range n).map g := by
      unfold rangeD; rw [List.map_map]; apply List.map_congr_left; intro i _; simp
    rw [this]; exact hn
theorem lc_rangeF {n : Nat} (h : e[v]? = some .emp) (p : Nat → Bool) (g : Nat → D) (hs : ∀ i : Nat, i < n → wp mc (e.set v (.fro (.int i))) fun b e2 => b = p i ∧ (if p i = true then wp me e2 fun y e3 => y = g i ∧ e3.set v .emp = e else e2.set v .emp = e)) (hn : P (((List.range n).filter p).map g) e) : wp (lcLoop [v] (.nm v) mc me (rangeD 0 n) []) e P := by
  refine lc_filt h (fun d => match d with | .int i => p i.toNat | d => false) (fun d => match d with | .int i => g i.toNat | d => d) ?_ ?_
  · intro d hd
    obtain ⟨i, hi, rfl⟩ := List.mem_map.mp hd
    have := hs i (List.mem_range.mp hi)
    have e0 : (0 + (i : Int)).toNat = i := by omega
    show wp mc (e.set v (.fro (.int (0 + (i : Int))))) fun b e2 => b = p (0 + (i : Int)).toNat ∧ (if p (0 + (i : Int)).toNat = true then wp me e2 fun y e3 => y = g (0 + (i : Int)).toNat ∧ e3.set v .emp = e else e2.set v .emp = e)
    rw [e0, Int.zero_add]
    exact this
  · have : ((rangeD 0 n).filter (fun d => match d with | .int i => p i.toNat | d => false)).map (fun d => match d with | .int i => g i.toNat | d => d) = ((List.range n).filter p).map g := by
      unfold rangeD; rw [List.filter_map, List.map_map]
      have e1 : ((fun d : D => match d with | .int i => p i.toNat | d => false) ∘ fun i : Nat => D.int (0 + i)) = p := by funext i; simp
      rw [e1]; apply List.map_congr_left; intro i _; simp
    rw [this]; exact hn
/-- a comprehension with draws: what holds of the slots, of what is given -/
theorem lc_inv (J : En → Prop) (Y : D → Prop) (h0 : J e) (hv : ∀ e, J e → e[v]? = some .emp)
    (hs : ∀ d ∈ xs, ∀ e, J e → wp mc (e.set v (.fro d)) fun b e2 => if b = true then wp me e2 fun y e3 => Y y ∧ J (e3.set v .emp) else J (e2.set v .emp))
    (hn : ∀ acc e, J e → acc.length ≤ xs.length → (∀ y ∈ acc, Y y) → P acc e) : wp (lcLoop [v] (.nm v) mc me xs []) e P := by
  refine lc_rule (fun i acc e' => J e' ∧ acc.length ≤ i ∧ ∀ y ∈ acc, Y y) ⟨h0, Nat.le_refl _, fun _ z => nomatch z⟩ ?_ ?_
  · rintro i d acc e' hi ⟨hj, hl, hy⟩
    refine ⟨_, set_emp (hv _ hj) d, ?_⟩
    refine wp_imp (hs d (List.mem_of_getElem? hi) e' hj) ?_
    intro b e2 h2
    cases b with
    | true =>
      rw [if_pos rfl] at h2 ⊢
      refine wp_imp h2 ?_
      rintro y e3 ⟨h3, h4⟩
      refine ⟨h4, by simp; exact hl, fun z hz => ?_⟩
      rcases List.mem_append.mp hz with q | q
      · exact hy z q
      · rw [List.mem_singleton.mp q]; exact h3
    | false =>
      rw [if_neg (by simp)] at h2 ⊢
      exact ⟨h2, by omega, hy⟩
  · rintro acc e' ⟨hj, hl, hy⟩
    exact hn acc e' hj hl hy
theorem lc_invA (J : En → Prop) (Y : D → Prop) (h0 : J e) (hv : ∀ e, J e → e[v]? = some .emp)
    (hs : ∀ d ∈ xs, ∀ e, J e → wp me (e.set v (.fro d)) fun y e3 => Y y ∧ J (e3.set v .emp))
    (hn : ∀ acc e, J e → acc.length = xs.length → (∀ y ∈ acc, Y y) → P acc e) : wp (lcLoop [v] (.nm v) mYes me xs []) e P := by
  refine lc_rule (fun i acc e' => J e' ∧ acc.length = i ∧ ∀ y ∈ acc, Y y) ⟨h0, rfl, fun _ z => nomatch z⟩ ?_ ?_
  · rintro i d acc e' hi ⟨hj, hl, hy⟩
    refine ⟨_, set_emp (hv _ hj) d, ?_⟩
    rw [wp_yes, if_pos rfl]
    refine wp_imp (hs d (List.mem_of_getElem? hi) e' hj) ?_
    rintro y e3 ⟨h3, h4⟩
    refine ⟨h4, by simp; exact hl, fun z hz => ?_⟩
    rcases List.mem_append.mp hz with q | q
    · exact hy z q
    · rw [List.mem_singleton.mp q]; exact h3
  · rintro acc e' ⟨hj, hl, hy⟩
    exact hn acc e' hj hl hy
end
theorem mem_range {lo : Int} {n : Nat} {d : D} (h : d ∈ rangeD lo n) : ∃ k : Nat, k < n ∧ d = .int (lo + k) := by
  obtain ⟨i, hi, rfl⟩ := List.mem_map.mp h
  exact ⟨i, List.mem_range.mp hi, rfl⟩

/-! ### shapes -/
def natsD (ks : List Nat) : List D := ks.map fun k => D.int (k : Nat)
def lotD (ks : List Nat) : D := .tup (natsD ks)
def IsLot (lim : Nat) (d : D) : Prop := ∃ ks : List Nat, d = lotD ks ∧ ks.length ≤ 1000 ∧ ∀ k ∈ ks, k < lim
theorem IsLot.mono {m n : Nat} {d : D} (h : IsLot m d) (hl : m ≤ n) : IsLot n d := by
  obtain ⟨ks, rfl, h1, h2⟩ := h
  exact ⟨ks, rfl, h1, fun k hk => Nat.lt_of_lt_of_le (h2 k hk) hl⟩
def rowD (w : Nat) (f : Nat → Bool) : D := .tup ((List.range w).map fun j => .bl (f j))
def rowsD (h w : Nat) (f : Nat → Nat → Bool) : List D := (List.range h).map fun i => rowD w (f i)
def gridD (h w : Nat) (f : Nat → Nat → Bool) : D := .tup [.str "table", .int h, .int w, .tup (rowsD h w f)]
def IsG (h w : Nat) (d : D) : Prop := ∃ f, d = gridD h w f
theorem rowD_congr {w : Nat} {f g : Nat → Bool} (h : ∀ j, j < w → f j = g j) : rowD w f = rowD w g := by
  unfold rowD; congr 1; apply List.map_congr_left; intro j hj; rw [h j (List.mem_range.mp hj)]
theorem rowsD_congr {h w : Nat} {f g : Nat → Nat → Bool} (k : ∀ i, i < h → ∀ j, j < w → f i j = g i j) : rowsD h w f = rowsD h w g := by
  unfold rowsD; apply List.map_congr_left; intro i hi; exact rowD_congr (k i (List.mem_range.mp hi))
theorem gridD_congr {h w : Nat} {f g : Nat → Nat → Bool} (k : ∀ i, i < h → ∀ j, j < w → f i j = g i j) : gridD h w f = gridD h w g := by
  unfold gridD; rw [rowsD_congr k]
theorem lot_nil {n : Nat} : IsLot n (.tup []) := ⟨[], rfl, by simp, fun _ h => nomatch h⟩
theorem lot_of {n : Nat} {l : List D} (hl : l.length ≤ 1000) (h : ∀ y ∈ l, ∃ k : Nat, k < n ∧ y = .int (k : Nat)) : IsLot n (.tup l) := by
  induction l with
  | nil => exact lot_nil
  | cons d l ih =>
    obtain ⟨ks, e, h1, h2⟩ := ih (by simp at hl; omega) fun y hy => h y (List.mem_cons_of_mem _ hy)
    obtain ⟨k, hk, rfl⟩ := h d List.mem_cons_self
    injection e with e
    refine ⟨k :: ks, by rw [e]; rfl, by rw [e] at hl; simp [natsD] at hl; simp; omega, fun z hz => ?_⟩
    rcases List.mem_cons.mp hz with rfl | hz
    · exact hk
    · exact h2 z hz
theorem nats_flat {ks : List Nat} : (natsD ks).all dFlat = true := by
  unfold natsD; rw [List.all_map]; exact List.all_eq_true.mpr fun _ _ => rfl
@[simp] theorem in_lot {k : Int} {ks : List Nat} : dInB (.int k) (lotD ks) = some (decide (k ∈ ks.map fun (i : Nat) => (i : Int))) := by
  show (if (dFlat (.int k) && (natsD ks).all dFlat) = true then some ((natsD ks).any fun z => dEqF z (.int k)) else none) = _
  rw [nats_flat]
  show some _ = some _
  congr 1
  unfold natsD
  rw [List.any_map]
  induction ks with
  | nil => simp
  | cons a r ih =>
    rw [List.any_cons, ih]
    show ((a : Int) == k || _) = _
    by_cases h : (a : Int) = k
    · simp [h]
    · have h' : ¬ k = (a : Int) := fun z => h z.symm
      simp [h, h']
end Eng

end
section
set_option Elab.async false
set_option linter.all false
set_option autoImplicit false
set_option maxRecDepth 100000
set_option maxHeartbeats 2000000
namespace Eng
open PySem PySem.Spec L2
open PyProof.Rows hiding St
@[simp] theorem szOk_iff {n : Nat} : (szOk n = true) = (n ≤ 16777216) := by unfold szOk; simp
@[simp] theorem c62_iff {n : Int} : (c62 n = true) = (-4611686018427387904 ≤ n ∧ n < 4611686018427387904) := by unfold c62; simp
@[simp] theorem cDiv_iff {n : Int} : (cDiv n = true) = (0 < n ∧ n < 18446744073709551616) := by unfold cDiv; simp
@[simp] theorem cSmall_iff {n : Int} : (cSmall n = true) = (-18446744073709551616 < n ∧ n < 18446744073709551616) := by unfold cSmall; simp
@[simp] theorem okC_nil {e : En} : okC e [] = true := rfl
@[simp] theorem okC_cons {e : En} {v : Nat} {vs : List Nat} : okC e (v :: vs) = ((match e[v]? with
    | some .emp => true
    | some (.fro _) => true
    | _ => false) && okC e vs) := rfl
@[simp] theorem rangeD_len' {lo : Int} {n : Nat} : (rangeD lo n).length = n := rangeD_len lo n
@[simp high] theorem wp_append {i : Nat} {n : M (List D)} {e : En} {P : D → En → Prop} : wp (mMut i fAppend n) e P = ((myList i e).isSome = true ∧ wp n e fun ds e' => match myList i e', ds with
    | some l, [d] => l.length + 1 ≤ 16777216 ∧ P .non (putList i (l ++ [d]) e')
    | _, _ => False) := by
  rw [wp_mut]
  congr 1
  refine wp_ext fun ds e' => ?_
  cases myList i e' with
  | none => rfl
  | some l =>
    dsimp only
    match ds with
    | [] => rfl
    | [d] =>
      rw [fAppend_eq]
      by_cases h : l.length + 1 ≤ 16777216
      · rw [if_pos (by rw [szOk_iff]; exact h)]; simp [h]
      · rw [if_neg (by rw [szOk_iff]; exact h)]; simp [h]
    | _ :: _ :: _ => rfl
theorem rng_get {n k : Nat} {d : D} (h : (rangeD 0 n)[k]? = some d) : k < n ∧ d = .int (k : Nat) := by
  obtain ⟨h1, h2⟩ := rangeD_get h
  rw [Int.zero_add] at h2
  exact ⟨h1, h2⟩
theorem rng_mem {n : Nat} {d : D} (h : d ∈ rangeD 0 n) : ∃ k : Nat, k < n ∧ d = .int (k : Nat) := by
  obtain ⟨k, h1, h2⟩ := mem_range h
  rw [Int.zero_add] at h2
  exact ⟨k, h1, h2⟩
theorem lot_filt {n : Nat} (p : Nat → Bool) (h : n ≤ 1000) : IsLot n (.tup (((List.range n).filter p).map fun i => .int (i : Nat))) :=
  lot_of (by rw [List.length_map]; exact Nat.le_trans (List.length_filter_le _ _) (by rw [List.length_range]; exact h)) fun y hy => by
    obtain ⟨k, hk, rfl⟩ := List.mem_map.mp hy
    exact ⟨k, List.mem_range.mp (List.mem_filter.mp hk).1, rfl⟩
theorem lot_range {n : Nat} (h : n ≤ 1000) : IsLot n (.tup ((List.range n).map fun i => .int (i : Nat))) :=
  lot_of (by rw [List.length_map, List.length_range]; exact h) fun y hy => by
    obtain ⟨k, hk, rfl⟩ := List.mem_map.mp hy
    exact ⟨k, List.mem_range.mp hk, rfl⟩
theorem forI {body : M Fl} {xs : List D} {P : Fl → En → Prop} {e : En} {v : Nat} (I : Nat → En → Prop) (h0 : I 0 e) (hv : ∀ i e, I i e → ∃ s, e[v]? = some s ∧ noIo s = true)
    (hs : ∀ i d e, xs[i]? = some d → I i e → wp body (e.set v (.fro d)) fun f e2 => f = .nx ∧ I (i + 1) e2) (hn : ∀ e, I xs.length e → P .nx e) : wp (forLoop (.nm v) body xs) e P := by
  refine for_rule I h0 (fun i d e hi hI => ?_) hn
  obtain ⟨s, h1, h2⟩ := hv i e hI
  refine ⟨e.set v (.fro d), by rw [tgset_nm, h1]; simp [h2], ?_⟩
  refine wp_imp (hs i d e hi hI) ?_
  rintro f e2 ⟨rfl, h⟩
  exact h
end Eng

end
section
set_option Elab.async false
set_option linter.all false
set_option autoImplicit false
set_option maxRecDepth 100000
set_option maxHeartbeats 2000000
namespace Eng
open PySem PySem.Spec L2
open PyProof.Rows hiding St
def inB (j : Nat) (d : D) : Bool := dInB (.int j) d == some true
def rowOf (w : Nat) (d : D) : D := rowD w fun j => inB j d
theorem in_of {lim : Nat} {d : D} (h : IsLot lim d) (j : Nat) : dInB (.int j) d = some (inB j d) := by
  obtain ⟨ks, rfl, _, _⟩ := h
  unfold inB
  rw [in_lot]
  cases decide ((j : Int) ∈ ks.map fun (i : Nat) => (i : Int)) <;> rfl
theorem inB_lt {lim j : Nat} {d : D} (h : IsLot lim d) (q : inB j d = true) : j < lim := by
  obtain ⟨ks, rfl, _, h2⟩ := h
  unfold inB at q
  rw [in_lot] at q
  have : (j : Int) ∈ ks.map fun (i : Nat) => (i : Int) := by simpa using q
  obtain ⟨i, hi, e⟩ := List.mem_map.mp this
  have : i = j := by omega
  exact this ▸ h2 i hi
theorem isG_of {h w : Nat} {rows : List D} (hl : rows.length = h) (hr : ∀ d ∈ rows, ∃ f, d = rowD w f) : ∃ f, rows = rowsD h w f := by
  have : ∀ i : Nat, ∃ f : Nat → Bool, i < h → rows[i]? = some (rowD w f) := fun i => by
    by_cases hi : i < h
    · have hi' : i < rows.length := by omega
      obtain ⟨f, e⟩ := hr rows[i] (List.getElem_mem hi')
      exact ⟨f, fun _ => by rw [List.getElem?_eq_getElem hi', e]⟩
    · exact ⟨fun _ => false, fun z => absurd z hi⟩
  refine ⟨fun i => Classical.choose (this i), ?_⟩
  apply List.ext_getElem?
  intro i
  unfold rowsD
  rw [List.getElem?_map]
  by_cases hi : i < h
  · rw [Classical.choose_spec (this i) hi, List.getElem?_range hi]; rfl
  · rw [List.getElem?_eq_none (by omega), List.getElem?_eq_none (by simp; omega)]; rfl
theorem isG_lots {h w : Nat} {lots : List D} (hl : lots.length = h) : IsG h w (.tup [.str "table", .int h, .int w, .tup (lots.map (rowOf w))]) := by
  obtain ⟨f, e⟩ := isG_of (h := h) (w := w) (rows := lots.map (rowOf w)) (by simp [hl]) fun d hd => by
    obtain ⟨x, _, rfl⟩ := List.mem_map.mp hd
    exact ⟨_, rfl⟩
  exact ⟨f, by unfold gridD; rw [e]⟩
@[simp] theorem dBools_map {α : Type} {l : List α} {p : α → Bool} : dBools (l.map fun a => .bl (p a)) = some (l.map p) := by
  induction l with
  | nil => rfl
  | cons a l ih => rw [List.map_cons, dBools, ih]; rfl
theorem rowsD_len {h w : Nat} {f : Nat → Nat → Bool} : (rowsD h w f).length = h := by simp [rowsD]
theorem mem_rows {h w : Nat} {f : Nat → Nat → Bool} {d : D} (hd : d ∈ rowsD h w f) : ∃ i, i < h ∧ d = rowD w (f i) := by
  obtain ⟨i, hi, rfl⟩ := List.mem_map.mp hd
  exact ⟨i, List.mem_range.mp hi, rfl⟩
theorem rowsD_get {h w i : Nat} {f : Nat → Nat → Bool} (hi : i < h) : (rowsD h w f)[i]? = some (rowD w (f i)) := by
  unfold rowsD; rw [List.getElem?_map, List.getElem?_range hi]; rfl
theorem rowsD_inv {h w i : Nat} {f : Nat → Nat → Bool} {d : D} (hi : (rowsD h w f)[i]? = some d) : i < h ∧ d = rowD w (f i) := by
  have hk : i < h := by
    rcases Nat.lt_or_ge i h with z | z
    · exact z
    · rw [List.getElem?_eq_none (by rw [rowsD_len]; exact z)] at hi; cases hi
  rw [rowsD_get hk] at hi
  cases hi
  exact ⟨hk, rfl⟩
theorem take_succ_get {α : Type} {l : List α} {i : Nat} {d : α} (h : l[i]? = some d) : l.take (i + 1) = l.take i ++ [d] := by rw [List.take_add_one, h]; rfl
end Eng

end
section
set_option Elab.async false
set_option linter.all false
set_option autoImplicit false
set_option maxRecDepth 100000
set_option maxHeartbeats 2000000
namespace Eng
open PySem PySem.Spec L2
open PyProof.Rows hiding St
theorem lc_lot {v n : Nat} {mc : M Bool} {e : En} {P : List D → En → Prop} (hn : n ≤ 1000) (J : En → Prop) (h0 : J e) (hv : ∀ e, J e → e[v]? = some .emp)
    (hmc : ∀ (k : Nat) e, k < n → J e → wp mc (e.set v (.fro (.int k))) fun _ e2 => J (e2.set v .emp) ∧ e2[v]? = some (.fro (.int k)))
    (hP : ∀ ys e, J e → IsLot n (.tup ys) → P ys e) : wp (lcLoop [v] (.nm v) mc (mVar v) (rangeD 0 n) []) e P := by
  refine lc_inv J (fun y => ∃ k : Nat, k < n ∧ y = .int (k : Nat)) h0 hv ?_ ?_
  · intro d hd e hJ
    obtain ⟨k, hk, he⟩ := rng_mem hd
    subst he
    refine wp_imp (hmc k e hk hJ) ?_
    rintro b e2 ⟨h1, h2⟩
    cases b with
    | true => rw [if_pos rfl, wp_var, h2]; exact ⟨⟨k, hk, rfl⟩, h1⟩
    | false => rw [if_neg (by simp)]; exact h1
  · intro acc e hJ hlen hy
    rw [rangeD_len] at hlen
    exact hP _ _ hJ (lot_of (by omega) hy)
theorem lots_snoc {n i : Nat} {acc : List D} {d : D} (ha : acc.length = i) (hy : ∀ d ∈ acc, IsLot n d) (hd : IsLot n d) : (acc ++ [d]).length = i + 1 ∧ ∀ y ∈ acc ++ [d], IsLot n y := by
  refine ⟨by simp [ha], fun z hz => ?_⟩
  rcases List.mem_append.mp hz with q | q
  · exact hy z q
  · have q2 : z = d := List.mem_singleton.mp q
    rw [q2]; exact hd
end Eng

end
section
set_option Elab.async false
set_option linter.all false
set_option autoImplicit false
set_option maxRecDepth 100000
set_option maxHeartbeats 2000000
namespace Eng
open PySem PySem.Spec L2
open PyProof.Rows hiding St
theorem pop_at {l : List D} {k : Nat} (hk : k < l.length) (hl : l.length ≤ 1000) : fPop l [.int (k : Nat)] = some (l.eraseIdx k, l[k]) := by
  have h1 : c62 (k : Int) = true := by simp; omega
  have h2 : seqIndex? (k : Int) l.length = some k := by
    unfold seqIndex?
    have a1 : ¬ ((k : Int) < 0) := by omega
    simp only [a1, if_false]
    have a2 : (decide (0 ≤ (k : Int)) && decide ((k : Int) < l.length)) = true := by simp; omega
    rw [if_pos a2]; simp
  simp only [fPop, h1, if_true, h2, List.getElem?_eq_getElem hk]
theorem perm_erase {α : Type} : ∀ {l : List α} {k : Nat} (hk : k < l.length), (l[k] :: l.eraseIdx k).Perm l
  | a :: l, 0, _ => .refl _
  | a :: l, k + 1, hk => by
    have h := perm_erase (l := l) (k := k) (by simpa using hk)
    exact (List.Perm.swap _ _ _).trans (h.cons a)
@[irreducible] def popP (l : List D) (d : D) (K : List D → D → Prop) : Prop := match fPop l [d] with
  | some (l', x) => K l' x
  | none => False
theorem popP_of {l a : List D} {d b : D} {K : List D → D → Prop} (e : fPop l [d] = some (a, b)) (h : K a b) : popP l d K := by
  unfold popP
  rw [e]
  exact h
theorem popP_nat {l : List D} {k : Nat} (hk : k < l.length) (hl : l.length ≤ 1000) {K : List D → D → Prop} (h : K (l.eraseIdx k) l[k]) : popP l (.int (k : Nat)) K := popP_of (pop_at hk hl) h
@[simp high] theorem wp_pop1 {i : Nat} {n : M (List D)} {e : En} {P : D → En → Prop} : wp (mMut i fPop1 n) e P = ((myList i e).isSome = true ∧ wp n e fun ds e' => match myList i e', ds with
    | some l, [d] => popP l d fun l' x => P x (putList i l' e')
    | _, _ => False) := by
  rw [wp_mut]
  congr 1
  refine wp_ext fun ds e' => ?_
  cases myList i e' with
  | none => rfl
  | some l =>
    dsimp only
    match ds with
    | [] => rfl
    | [d] =>
      have e1 : fPop1 l [d] = fPop l [d] := rfl
      rw [e1]
      dsimp only
      unfold popP
      cases fPop l [d] with
      | none => rfl
      | some p => cases p; rfl
    | _ :: _ :: _ => rfl
theorem nats_len {ks : List Nat} : (natsD ks).length = ks.length := by simp [natsD]
theorem idx_nat {ks : List Nat} {k : Nat} (hk : k ∈ ks) : ∃ i, dIdxL (natsD ks) (.int (k : Nat)) = some i ∧ i < ks.length := by
  have h0 : dIdxL (natsD ks) (.int (k : Nat)) = (natsD ks).findIdx? fun z => dEqF z (.int (k : Nat)) := by
    show (if (dFlat (.int (k : Nat)) && (natsD ks).all dFlat) = true then _ else none) = _
    rw [nats_flat]; rfl
  rw [h0]
  cases h : (natsD ks).findIdx? fun z => dEqF z (.int (k : Nat)) with
  | none =>
    rw [List.findIdx?_eq_none_iff] at h
    have := h (.int (k : Nat)) (List.mem_map.mpr ⟨k, hk, rfl⟩)
    simp [dEqF] at this
  | some i =>
    have := List.findIdx?_eq_some_iff_getElem.mp h
    obtain ⟨hi, _⟩ := this
    rw [nats_len] at hi
    exact ⟨i, rfl, hi⟩
theorem isG_inv {h w : Nat} {d : D} (x : IsG h w d) : ∃ f, d = gridD h w f := x
theorem lot_one {n k : Nat} (h : k < n) : IsLot n (.tup [.int (k : Nat)]) := ⟨[k], rfl, by simp, fun z hz => by rw [List.mem_singleton.mp hz]; exact h⟩
end Eng

end
section
set_option Elab.async false
set_option linter.all false
set_option autoImplicit false
set_option maxRecDepth 100000
set_option maxHeartbeats 2000000
namespace Eng
open PySem PySem.Spec L2
open PyProof.Rows hiding St
@[simp] theorem sne_cells_height : (Str.ofString "cells" = Str.ofString "height") = False := eq_false (by decide +kernel)
@[simp] theorem sbe_cells_height : (Str.ofString "cells" == Str.ofString "height") = false := by decide +kernel
@[simp] theorem sne_cells_width : (Str.ofString "cells" = Str.ofString "width") = False := eq_false (by decide +kernel)
@[simp] theorem sbe_cells_width : (Str.ofString "cells" == Str.ofString "width") = false := by decide +kernel
@[simp] theorem sne_cells_size : (Str.ofString "cells" = Str.ofString "size") = False := eq_false (by decide +kernel)
@[simp] theorem sbe_cells_size : (Str.ofString "cells" == Str.ofString "size") = false := by decide +kernel
@[simp] theorem sne_height_cells : (Str.ofString "height" = Str.ofString "cells") = False := eq_false (by decide +kernel)
@[simp] theorem sbe_height_cells : (Str.ofString "height" == Str.ofString "cells") = false := by decide +kernel
@[simp] theorem sne_height_width : (Str.ofString "height" = Str.ofString "width") = False := eq_false (by decide +kernel)
@[simp] theorem sbe_height_width : (Str.ofString "height" == Str.ofString "width") = false := by decide +kernel
@[simp] theorem sne_height_size : (Str.ofString "height" = Str.ofString "size") = False := eq_false (by decide +kernel)
@[simp] theorem sbe_height_size : (Str.ofString "height" == Str.ofString "size") = false := by decide +kernel
@[simp] theorem sne_width_cells : (Str.ofString "width" = Str.ofString "cells") = False := eq_false (by decide +kernel)
@[simp] theorem sbe_width_cells : (Str.ofString "width" == Str.ofString "cells") = false := by decide +kernel
@[simp] theorem sne_width_height : (Str.ofString "width" = Str.ofString "height") = False := eq_false (by decide +kernel)
@[simp] theorem sbe_width_height : (Str.ofString "width" == Str.ofString "height") = false := by decide +kernel
@[simp] theorem sne_width_size : (Str.ofString "width" = Str.ofString "size") = False := eq_false (by decide +kernel)
@[simp] theorem sbe_width_size : (Str.ofString "width" == Str.ofString "size") = false := by decide +kernel
@[simp] theorem sne_size_cells : (Str.ofString "size" = Str.ofString "cells") = False := eq_false (by decide +kernel)
@[simp] theorem sbe_size_cells : (Str.ofString "size" == Str.ofString "cells") = false := by decide +kernel
@[simp] theorem sne_size_height : (Str.ofString "size" = Str.ofString "height") = False := eq_false (by decide +kernel)
@[simp] theorem sbe_size_height : (Str.ofString "size" == Str.ofString "height") = false := by decide +kernel
@[simp] theorem sne_size_width : (Str.ofString "size" = Str.ofString "width") = False := eq_false (by decide +kernel)
@[simp] theorem sbe_size_width : (Str.ofString "size" == Str.ofString "width") = false := by decide +kernel
end Eng

end
section
set_option Elab.async false
set_option linter.all false
set_option autoImplicit false
set_option maxRecDepth 100000
set_option maxHeartbeats 2000000
namespace Eng
open PySem PySem.Spec L2
open PyProof.Rows hiding St
theorem toPs_map {α : Type} {l : List α} {g : α → D} {p : α → PyData} (h : ∀ a ∈ l, toP (g a) = some (p a)) : toPs (l.map g) = some (l.map p) := by
  induction l with
  | nil => rfl
  | cons a l ih =>
    rw [List.map_cons, List.map_cons, toPs, h a List.mem_cons_self, ih fun b hb => h b (List.mem_cons_of_mem _ hb)]
theorem eqvAll_refl : ∀ {xs : List PyData}, (∀ x ∈ xs, PyData.eqv x x = true) → PyData.eqvAll xs xs = true
  | [], _ => by simp [PyData.eqvAll]
  | x :: xs, h => by
    simp only [PyData.eqvAll, h x List.mem_cons_self, Bool.true_and]
    exact eqvAll_refl fun y hy => h y (List.mem_cons_of_mem _ hy)
theorem canAll : ∀ {xs : List PyData}, (∀ x ∈ xs, PyData.canLay0 x = true) → PyData.canLayAll0 xs = true
  | [], _ => by simp [PyData.canLayAll0]
  | x :: xs, h => by
    simp only [PyData.canLayAll0, h x List.mem_cons_self, Bool.true_and]
    exact canAll fun y hy => h y (List.mem_cons_of_mem _ hy)
theorem depthAll_le {n : Nat} : ∀ {xs : List PyData}, (∀ x ∈ xs, PyData.depth x ≤ n) → PyData.depthAll xs ≤ n
  | [], _ => by simp [PyData.depthAll]
  | x :: xs, h => by
    simp only [PyData.depthAll]
    exact Nat.max_le.mpr ⟨h x List.mem_cons_self, depthAll_le fun y hy => h y (List.mem_cons_of_mem _ hy)⟩
def rowP (w : Nat) (f : Nat → Bool) : PyData := .tuple ((List.range w).map fun j => .bool (f j))
theorem toP_row {w : Nat} {f : Nat → Bool} : toP (rowD w f) = some (rowP w f) := by
  unfold rowD rowP
  rw [toP, toPs_map (p := fun j => .bool (f j)) fun a _ => by rw [toP]]
  rfl
theorem rowP_eqv {w : Nat} {f : Nat → Bool} : PyData.eqv (rowP w f) (rowP w f) = true := by
  unfold rowP
  simp only [PyData.eqv]
  exact eqvAll_refl fun x hx => by
    obtain ⟨j, _, rfl⟩ := List.mem_map.mp hx
    simp [PyData.eqv]
theorem rowP_can {w : Nat} {f : Nat → Bool} : PyData.canLay0 (rowP w f) = true := by
  unfold rowP
  simp only [PyData.canLay0]
  exact canAll fun x hx => by
    obtain ⟨j, _, rfl⟩ := List.mem_map.mp hx
    simp [PyData.canLay0]
theorem rowP_depth {w : Nat} {f : Nat → Bool} : PyData.depth (rowP w f) ≤ 1 := by
  unfold rowP
  simp only [PyData.depth]
  exact Nat.succ_le_succ (depthAll_le fun x hx => by
    obtain ⟨j, _, rfl⟩ := List.mem_map.mp hx
    simp [PyData.depth])
theorem eqB_tup {a b : List D} : dEqB (.tup a) (.tup b) = pEq (.tup a) (.tup b) := by unfold dEqB; rfl
theorem pEq_rows {h w : Nat} {f : Nat → Nat → Bool} : dEqB (.tup (rowsD h w f)) (.tup (rowsD h w f)) = some true := by
  rw [eqB_tup]
  have e : toP (.tup (rowsD h w f)) = some (.tuple ((List.range h).map fun i => rowP w (f i))) := by
    unfold rowsD
    rw [toP, toPs_map (p := fun i => rowP w (f i)) fun a _ => toP_row]
    rfl
  have s : SeqAt.shaped (.tuple ((List.range h).map fun i => rowP w (f i))) = true := by
    unfold SeqAt.shaped
    refine Bool.and_eq_true_iff.mpr ⟨?_, decide_eq_true ?_⟩
    · simp only [PyData.canLay0]
      exact canAll fun x hx => by
        obtain ⟨j, _, rfl⟩ := List.mem_map.mp hx
        exact rowP_can
    · simp only [PyData.depth]
      have := depthAll_le (n := 1) (xs := (List.range h).map fun i => rowP w (f i)) fun x hx => by
        obtain ⟨j, _, rfl⟩ := List.mem_map.mp hx
        exact rowP_depth
      omega
  have q : PyData.eqv (.tuple ((List.range h).map fun i => rowP w (f i))) (.tuple ((List.range h).map fun i => rowP w (f i))) = true := by
    simp only [PyData.eqv]
    exact eqvAll_refl fun x hx => by
      obtain ⟨j, _, rfl⟩ := List.mem_map.mp hx
      exact rowP_eqv
  unfold pEq
  rw [e]
  simp only [s, Bool.and_self, if_true, q]
theorem pEq_two {h w : Int} : dEqB (.tup [.int h, .int w]) (.tup [.int h, .int w]) = some true := by
  rw [eqB_tup]
  have e : toP (.tup [.int h, .int w]) = some (.tuple [.int h, .int w]) := by simp [toP, toPs]
  unfold pEq
  rw [e]
  have s : SeqAt.shaped (.tuple [.int h, .int w]) = true := by
    unfold SeqAt.shaped
    simp [PyData.canLay0, PyData.canLayAll0, PyData.depth, PyData.depthAll]
  simp only [s, Bool.and_self, if_true]
  simp [PyData.eqv, PyData.eqvAll]
end Eng

end
section
set_option Elab.async false
set_option linter.all false
set_option autoImplicit false
set_option maxRecDepth 100000
set_option maxHeartbeats 2000000
namespace Eng
open PySem PySem.Spec L2
open PyProof.Rows hiding St
@[simp] theorem putArgs_1 {a : D} {args e : En} : putArgs [.v a] args e = e := agv_put (ds := [a])
@[simp] theorem putArgs_2 {a b : D} {args e : En} : putArgs [.v a, .v b] args e = e := agv_put (ds := [a, b])
@[simp] theorem putArgs_3 {a b c : D} {args e : En} : putArgs [.v a, .v b, .v c] args e = e := agv_put (ds := [a, b, c])
def IsI (c : Nat) (d : D) : Prop := ∃ l, d = .ins c l
@[simp] theorem isI_ins {c : Nat} {l : List D} : IsI c (.ins c l) = True := eq_true ⟨l, rfl⟩
@[simp high] theorem wp_inv2 {c : Nat} {F : M Slot} {m : M D} {e : En} {P : Slot → En → Prop} : wp (mInv c F m) e P = wp m e fun d e1 => IsI c d ∧ wp F [.fro d] fun s _ => P s e1 := by
  rw [wp_inv]
  refine wp_ext fun d e1 => ?_
  cases d with
  | ins c' l =>
    dsimp only
    by_cases h : c' = c
    · subst h; simp
    · have : ¬ IsI c (.ins c' l) := fun ⟨_, q⟩ => h (by injection q)
      simp [h, this]
  | _ => exact (eq_false fun q => by obtain ⟨⟨_, q⟩, _⟩ := q; cases q).symm
@[simp high] theorem wp_prop2 {c : Nat} {F : M Slot} {m : M D} {e : En} {P : Slot → En → Prop} : wp (mProp c F m) e P = wp m e fun d e1 => IsI c d ∧ wp F [.fro d] fun s _ => P s e1 := by
  rw [wp_prop, ← wp_inv2, wp_inv]
@[simp high] theorem wp_insD2 {c : Nat} {d : D} {e : En} {P : D → En → Prop} : wp (insD c d) e P = (IsI c d ∧ P d e) := by
  rw [wp_insD]
  cases d with
  | ins c' l =>
    dsimp only
    by_cases h : c' = c
    · subst h; simp
    · have : ¬ IsI c (.ins c' l) := fun ⟨_, q⟩ => h (by injection q)
      simp [h, this]
  | _ => exact (eq_false fun q => by obtain ⟨⟨_, q⟩, _⟩ := q; cases q).symm
end Eng

end
section
set_option Elab.async false
set_option linter.all false
set_option autoImplicit false
set_option maxRecDepth 100000
set_option maxHeartbeats 2000000
namespace Eng
open PySem PySem.Spec L2
open PyProof.Rows hiding St
/-- a law's end: exceptions by L2N.CX of the world -/
theorem walk_ofX {l : PySem.W.OpenLaw} {n k : Nat} {q : Program} {loose : List Str} {XP : (Str → Option Value) → Heap → Prop} {YP : World → Heap → Prop} {d : DefRec} {x : Str}
    (hn : l.most = some n) (hn2 : n ≤ sizeLine) (hdf : d.params.defaults = []) (hr : Room k callerA)
    (F : ∀ (w : World) (mg : Str → Option Value) (fa : Addr) (h : Heap), YP w h → h.Ns mainGlobals mg → mg d.name = some (.ref fa) →
      ∃ (K : PySem.W.Frag) (fd : FuncData) (sp : Sp), K.In h ∧ (∀ (s : Shared) (u : Value), BindsTo s fd ⟨[u], []⟩ [(x, u)]) ∧
        (∀ (H : Hp) (a : Addr) (ns : List Int), ns.length ≤ n → Only H → SqL K H a (ns.map V.int) → sp [.ref a] H (fun v _ => v = .bl true) fun _ _ _ => False) ∧
        ∀ base : Heap, K.In base → base.Ns mainGlobals mg → FnOk l.prog w K mg base (L2N.CX l.prog w) k fa fd [x] sp) :
    PySem.W.WalkO q loose XP YP l.row.toRowW d [] (fun f vs => PySem.call f vs) := by
  refine Att.attach_call hn hdf fun w s₀ s₁ mg mb fa o pm cd doc a vs ns G Y ho hd hcd hmg hobj hints hlen hg => ?_
  obtain ⟨K, fd, sp, KX, hb, hsp, hF⟩ := F w mg fa _ Y G.T.g hmg
  exact law_call KX G.T.g G.T.b G.T.builtins G.T.nolimit hg hobj hints (Nat.le_trans hlen hn2) hr hF hb (fun H hO hS => hsp H a ns hlen hO hS) fun H e s' => noexc
end Eng

end
section
set_option Elab.async false
set_option linter.all false
set_option autoImplicit false
set_option maxRecDepth 100000
set_option maxHeartbeats 2000000
namespace Eng
open PySem PySem.Spec L2
open PyProof.Rows hiding St
@[simp] theorem wp_zipL {e : En} {l r : List D} {P : List D → En → Prop} : wp (dZip [.lst l, .lst r]) e P = P (zipD l r) e := wp_pure
@[simp] theorem wp_zipT {e : En} {l r : List D} {P : List D → En → Prop} : wp (dZip [.tup l, .tup r]) e P = P (zipD l r) e := wp_pure
end Eng

end
section
set_option Elab.async false
set_option linter.all false
set_option autoImplicit false
set_option maxRecDepth 100000
set_option maxHeartbeats 2000000
namespace Eng
open PySem PySem.Spec L2
open PyProof.Rows hiding St
/-! ### what a mirror gives, errors too -/
def wx {α : Type} (E : Nat → List D → En → Prop) (m : M α) (e : En) (P : α → En → Prop) (x : Hush m P := ⟨⟩) : Prop := match m e with
  | .ok a e' => P a e'
  | .err c fs e' => E c fs e'
  | .bad => False
section
variable {α β : Type} {E : Nat → List D → En → Prop} {e : En} {i : Nat}
theorem wx_imp {m : M α} {P Q : α → En → Prop} {E' : Nat → List D → En → Prop} (h : wx E m e P) (k : ∀ a e', P a e' → Q a e') (k2 : ∀ c fs e', E c fs e' → E' c fs e') : wx E' m e Q := by
  unfold wx at *
  cases q : m e with
  | ok a e' => rw [q] at h; exact k a e' h
  | err c fs e' => rw [q] at h; exact k2 c fs e' h
  | bad => rw [q] at h; exact h
theorem wx_of_wq {m : M α} {P : α → En → Prop} (h : wq m e P) : wx E m e P := by
  unfold wx wq at *
  cases q : m e with
  | ok a e' => rw [q] at h; exact h
  | err c fs e' => rw [q] at h; exact h.elim
  | bad => rw [q] at h; exact h
theorem wx_ext {m : M α} {P Q : α → En → Prop} (h : ∀ a e', P a e' = Q a e') : wx E m e P = wx E m e Q := by
  have : P = Q := funext fun a => funext fun e' => h a e'
  rw [this]
@[simp] theorem wx_pure {a : α} {P : α → En → Prop} : wx E (M.pure a) e P = P a e := rfl
@[simp] theorem wx_bad {P : α → En → Prop} : wx E (bad : M α) e P = False := rfl
@[simp] theorem wx_bind {m : M α} {f : α → M β} {P : β → En → Prop} : wx E (M.bind m f) e P = wx E m e fun a e' => wx E (f a) e' P := by
  unfold wx M.bind
  cases m e <;> rfl
@[simp] theorem wx_var {P : D → En → Prop} : wx E (mVar i) e P = match e[i]? with
    | some (.fro d) => P d e
    | some (.own (.l l)) => P (.lst l) (e.set i (.fro (.lst l)))
    | _ => False := by
  unfold wx mVar
  cases e[i]? with
  | none => rfl
  | some s => cases s with
    | own l => cases l <;> rfl
    | _ => rfl
@[simp] theorem wx_fro {m : M D} {P : Slot → En → Prop} : wx E (mFro m) e P = wx E m e fun d e' => P (.fro d) e' := wx_bind
@[simp] theorem wx_frz {m : M Slot} {P : D → En → Prop} : wx E (mFrz m) e P = wx E m e fun s e' => match s with
    | .fro d => P d e'
    | .own (.l l) => P (.lst l) e'
    | _ => False := by
  unfold wx mFrz
  cases m e with
  | ok s e' => cases s with
    | own l => cases l <;> rfl
    | _ => rfl
  | _ => rfl
@[simp] theorem wx_bin {f : D → D → M α} {m n : M D} {P : α → En → Prop} : wx E (mBin f m n) e P = wx E m e fun x e1 => wx E n e1 fun y e2 => wx E (f x y) e2 P := by
  unfold mBin; rw [wx_bind]
  exact wx_ext fun x e1 => wx_bind
@[simp] theorem wx_tst {m : M D} {P : Bool → En → Prop} : wx E (mTst m) e P = wx E m e fun d e' => match d with
    | .bl b => P b e'
    | _ => False := by
  unfold mTst; rw [wx_bind]
  refine wx_ext fun d e' => ?_; cases d <;> rfl
@[simp] theorem wx_tru {m : M D} {P : Bool → En → Prop} : wx E (mTru m) e P = wx E m e fun d e' => match dTru d with
    | some b => P b e'
    | none => False := by
  unfold mTru; rw [wx_bind]
  refine wx_ext fun d e' => ?_; cases dTru d <;> rfl
@[simp] theorem wx_notB {m : M Bool} {P : Bool → En → Prop} : wx E (mNotB m) e P = wx E m e fun b e' => P (!b) e' := wx_bind
@[simp] theorem wx_andB {m n : M Bool} {P : Bool → En → Prop} : wx E (mAndB m n) e P = wx E m e fun b e' => if b = true then wx E n e' P else P false e' := by
  unfold mAndB; rw [wx_bind]
  refine wx_ext fun b e' => ?_; cases b <;> rfl
@[simp] theorem wx_orB {m n : M Bool} {P : Bool → En → Prop} : wx E (mOrB m n) e P = wx E m e fun b e' => if b = true then P true e' else wx E n e' P := by
  unfold mOrB; rw [wx_bind]
  refine wx_ext fun b e' => ?_; cases b <;> rfl
@[simp] theorem wx_dBl {d : D} {P : Bool → En → Prop} : wx E (dBl d) e P = match d with
    | .bl b => P b e
    | _ => False := by cases d <;> rfl
@[simp] theorem wx_andV {m n : M D} {P : D → En → Prop} : wx E (mAndV m n) e P = wx E m e fun d e' => match d with
    | .bl b => if b = true then wx E n e' P else P (.bl false) e'
    | _ => False := by
  unfold mAndV; rw [wx_bind]
  refine wx_ext fun d e' => ?_; rw [wx_bind]; cases d with
  | bl b => cases b <;> rfl
  | _ => rfl
@[simp] theorem wx_orV {m n : M D} {P : D → En → Prop} : wx E (mOrV m n) e P = wx E m e fun d e' => match d with
    | .bl b => if b = true then P (.bl true) e' else wx E n e' P
    | _ => False := by
  unfold mOrV; rw [wx_bind]
  refine wx_ext fun d e' => ?_; rw [wx_bind]; cases d with
  | bl b => cases b <;> rfl
  | _ => rfl
@[simp] theorem wx_notV {m : M D} {P : D → En → Prop} : wx E (mNotV m) e P = wx E m e fun d e' => match d with
    | .bl b => P (.bl (!b)) e'
    | _ => False := by
  unfold mNotV; rw [wx_bind]
  refine wx_ext fun d e' => ?_; rw [wx_bind]; cases d <;> rfl
@[simp] theorem wx_ifE {m : M Bool} {x y : M α} {P : α → En → Prop} : wx E (mIfE m x y) e P = wx E m e fun b e' => if b = true then wx E x e' P else wx E y e' P := by
  unfold mIfE; rw [wx_bind]
  refine wx_ext fun b e' => ?_; cases b <;> rfl
@[simp] theorem wx_nil {P : List D → En → Prop} : wx E mNil e P = P [] e := rfl
@[simp] theorem wx_cons {m : M D} {n : M (List D)} {P : List D → En → Prop} : wx E (mCons m n) e P = wx E m e fun d e1 => wx E n e1 fun ds e2 => P (d :: ds) e2 := by
  unfold mCons; rw [wx_bind]
  exact wx_ext fun x e1 => wx_bind
@[simp] theorem wx_mkTup {ds : List D} {P : D → En → Prop} : wx E (mkTup ds) e P = (szOk ds.length = true ∧ P (.tup ds) e) := by
  unfold mkTup; cases szOk ds.length <;> simp
@[simp] theorem wx_mkLst {ds : List D} {P : Slot → En → Prop} : wx E (mkLst ds) e P = (szOk ds.length = true ∧ P (.own (.l ds)) e) := by
  unfold mkLst; cases szOk ds.length <;> simp
@[simp] theorem wx_chain {f g : D → D → M D} {m n k : M D} {P : D → En → Prop} : wx E (mChain f g m n k) e P = wx E m e fun x e1 => wx E n e1 fun y e2 => wx E (f x y) e2 fun z e3 => match z with
    | .bl b => if b = true then wx E k e3 fun w e4 => wx E (g y w) e4 P else P (.bl false) e3
    | _ => False := by
  unfold mChain; rw [wx_bind]
  refine wx_ext fun x e1 => ?_
  rw [wx_bind]
  refine wx_ext fun y e2 => ?_
  rw [wx_bind]
  refine wx_ext fun z e3 => ?_
  rw [wx_bind, wx_dBl]
  cases z with
  | bl b => cases b <;> simp
  | _ => rfl
@[simp] theorem wx_seq {m n : M Fl} {P : Fl → En → Prop} : wx E (mSeq m n) e P = wx E m e fun f e' => match f with
    | .nx => wx E n e' P
    | f => P f e' := by
  unfold wx mSeq
  cases m e with
  | ok f e' => cases f <;> rfl
  | _ => rfl
@[simp] theorem wx_next {P : Fl → En → Prop} : wx E mNext e P = P .nx e := rfl
@[simp] theorem wx_ret {m : M Slot} {P : Fl → En → Prop} : wx E (mRet m) e P = wx E m e fun s e' => P (.rt s) e' := wx_bind
@[simp] theorem wx_retVar {P : Fl → En → Prop} : wx E (mRetVar i) e P = match e[i]? with
    | some (.fro d) => P (.rt (.fro d)) e
    | some (.own l) => P (.rt (.own l)) (e.set i .emp)
    | _ => False := by
  unfold wx mRetVar
  cases e[i]? with
  | none => rfl
  | some s => cases s <;> rfl
@[simp] theorem wx_if {c : M Bool} {m n : M Fl} {P : Fl → En → Prop} : wx E (mIf c m n) e P = wx E c e fun b e' => if b = true then wx E m e' P else wx E n e' P := by
  unfold wx mIf
  cases c e with
  | ok b e' => cases b <;> rfl
  | _ => rfl
@[simp] theorem wx_set {m : M Slot} {P : Fl → En → Prop} : wx E (mSet i m) e P = wx E m e fun s e' => match e'[i]? with
    | some s0 => noIo s0 = true ∧ (match s with
      | .fro d => P .nx (e'.set i (.fro d))
      | .own l => P .nx (e'.set i (.own l))
      | _ => False)
    | none => False := by
  unfold mSet; rw [wx_bind]
  refine wx_ext fun s e' => ?_
  unfold wx setSlot
  cases e'[i]? with
  | none => rfl
  | some s0 => cases h : noIo s0 <;> cases s <;> simp [h]
@[simp] theorem wx_unp {t : Tg} {m : M D} {P : Fl → En → Prop} : wx E (mUnp t m) e P = wx E m e fun d e' => match t.set d e' with
    | some e2 => P .nx e2
    | none => False := by
  unfold mUnp; rw [wx_bind]
  refine wx_ext fun d e' => ?_
  unfold wx
  dsimp only
  cases h : t.set d e' <;> rfl
@[simp] theorem wx_for {t : Tg} {mi : M (List D)} {body : M Fl} {P : Fl → En → Prop} : wx E (mFor t mi body) e P = wx E mi e fun xs e1 => wx E (forLoop t body xs) e1 P := by
  unfold wx mFor; cases mi e <;> rfl
@[simp] theorem wx_it {m : M D} {P : List D → En → Prop} : wx E (mIt m) e P = wx E m e fun d e' => match d with
    | .lst l => P l e'
    | .tup l => P l e'
    | .stp l => P l e'
    | _ => False := by
  unfold mIt; rw [wx_bind]
  refine wx_ext fun d e' => ?_; cases d <;> rfl
@[simp] theorem wx_yes {P : Bool → En → Prop} : wx E mYes e P = P true e := rfl
@[simp] theorem wx_mut {f : List D → List D → Option (List D × D)} {n : M (List D)} {P : D → En → Prop} : wx E (mMut i f n) e P = ((myList i e).isSome = true ∧ wx E n e fun ds e' => match myList i e' with
    | some l => (match f l ds with
      | some (l', d) => P d (putList i l' e')
      | none => False)
    | none => False) := by
  unfold wx mMut
  cases myList i e with
  | none => simp
  | some l0 =>
    simp only [Option.isSome_some, true_and]
    cases n e with
    | ok ds e' =>
      simp only []
      cases myList i e' with
      | none => rfl
      | some l => simp only []; cases f l ds <;> rfl
    | _ => rfl
@[simp] theorem wx_ixO {m : M D} {P : D → En → Prop} : wx E (mIxO i m) e P = ((myList i e).isSome = true ∧ wx E m e fun d e' => match d, myList i e' with
    | .int k, some l => (match atI l k with
      | some d => P d e'
      | none => False)
    | _, _ => False) := by
  unfold wx mIxO
  cases myList i e with
  | none => simp
  | some l0 =>
    simp only [Option.isSome_some, true_and]
    cases m e with
    | ok d e' =>
      cases d with
      | int k =>
        simp only []
        cases myList i e' with
        | none => rfl
        | some l => simp only []; cases atI l k <;> rfl
      | _ => simp
    | _ => rfl
@[simp] theorem wx_putO {m n : M D} {P : Fl → En → Prop} : wx E (mPutO i m n) e P = wx E m e fun d e1 => (myList i e1).isSome = true ∧ wx E n e1 fun k e2 => match k, myList i e2 with
    | .int k, some l => (match ixN l.length k with
      | some j => P .nx (putList i (l.set j d) e2)
      | none => False)
    | _, _ => False := by
  unfold wx mPutO
  cases m e with
  | ok d e1 =>
    simp only []
    cases myList i e1 with
    | none => simp
    | some l0 =>
      simp only [Option.isSome_some, true_and]
      cases n e1 with
      | ok k e2 =>
        cases k with
        | int k =>
          simp only []
          cases myList i e2 with
          | none => rfl
          | some l => simp only []; cases ixN l.length k <;> rfl
        | _ => simp
      | _ => rfl
  | _ => rfl
@[simp] theorem wx_agNil {P : List Ag → En → Prop} : wx E agNil e P = P [] e := rfl
@[simp] theorem wx_agV {m : M D} {n : M (List Ag)} {P : List Ag → En → Prop} : wx E (agV m n) e P = wx E m e fun d e1 => wx E n e1 fun as e2 => P (.v d :: as) e2 := by
  unfold agV; rw [wx_bind]
  exact wx_ext fun x e1 => wx_bind
@[simp] theorem wx_agIo {n : M (List Ag)} {P : List Ag → En → Prop} : wx E (agIo i n) e P = ((myOb i e).isSome = true ∧ wx E n e fun as e2 => P (.io i :: as) e2) := by
  have h : wx E (n.bind fun as => M.pure (.io i :: as)) e P = wx E n e fun as e2 => P (.io i :: as) e2 := wx_bind
  rw [← h]
  unfold wx agIo
  cases myOb i e <;> simp
@[simp] theorem wx_insD {c : Nat} {d : D} {P : D → En → Prop} : wx E (insD c d) e P = match d with
    | .ins c' l => c' = c ∧ P (.ins c' l) e
    | _ => False := by
  cases d with
  | ins c' l =>
    have e0 : insD c (.ins c' l) = if c' = c then M.pure (.ins c' l) else bad := rfl
    rw [e0]
    by_cases h : c' = c
    · subst h; rw [if_pos rfl]; simp
    · rw [if_neg h]; simp [h]
  | _ => rfl
@[simp] theorem wx_getF {c k : Nat} {d : D} {P : D → En → Prop} : wx E (getF c k d) e P = match d with
    | .ins c' l => c' = c ∧ (match l[k]? with
      | some d => P d e
      | none => False)
    | _ => False := by
  cases d with
  | ins c' l =>
    have e0 : getF c k (.ins c' l) = if c' = c then (match l[k]? with | some d => M.pure d | none => bad) else bad := rfl
    rw [e0]
    by_cases h : c' = c
    · subst h; rw [if_pos rfl]; simp only [true_and]; cases l[k]? <;> rfl
    · rw [if_neg h]; simp [h]
  | _ => rfl
@[simp] theorem wx_putF {c : Nat} {f : Str} {m : M D} {P : Fl → En → Prop} : wx E (mPutF i c f m) e P = wx E m e fun d e1 => match myOb i e1 with
    | some (.o c' fs) => (c' = c ∧ fs.length < 1000) ∧ P .nx (putOb i (.o c (putFD f d fs)) e1)
    | _ => False := by
  unfold mPutF; rw [wx_bind]
  refine wx_ext fun d e1 => ?_
  unfold wx
  dsimp only
  cases myOb i e1 with
  | none => rfl
  | some o =>
    cases o with
    | l l => rfl
    | o c' fs => simp only []; by_cases h : c' = c ∧ fs.length < 1000 <;> simp [h]
@[simp] theorem wx_getO {c : Nat} {f : Str} {P : D → En → Prop} : wx E (mGetO i c f) e P = match myOb i e with
    | some (.o c' fs) => c' = c ∧ (match fs.lookup f with
      | some d => P d e
      | none => False)
    | _ => False := by
  unfold wx mGetO
  cases myOb i e with
  | none => rfl
  | some o =>
    cases o with
    | l l => rfl
    | o c' fs =>
      simp only []
      by_cases h : c' = c
      · simp only [h, if_true, true_and]; cases fs.lookup f <;> rfl
      · simp [h]
@[simp] theorem wx_noErr {m : M α} {P : α → En → Prop} : wx E (noErr m) e P = wq m e P := by
  unfold wx wq noErr
  cases m e <;> rfl
@[simp] theorem wx_fn {k : Nat} {m : M Fl} {P : Slot → En → Prop} : wx E (mFn k m) e P = wx (fun c fs e1 => (e1.length == e.length + k) = true ∧ E c fs (backArgs e e1)) m (e ++ List.replicate k .emp) fun f e1 => (e1.length == e.length + k) = true ∧ match f with
    | .nx => P (.fro .non) (backArgs e e1)
    | .rt s => P s (backArgs e e1)
    | _ => False := by
  unfold wx mFn
  cases m (e ++ List.replicate k .emp) with
  | ok f e1 => simp only [finFn]; cases (e1.length == e.length + k) <;> cases f <;> simp
  | err c fs e1 => simp only [finFn]; cases (e1.length == e.length + k) <;> simp
  | bad => rfl
@[simp] theorem wx_call {F : M Slot} {n : M (List Ag)} {P : Slot → En → Prop} : wx E (mCall F n) e P = wx E n e fun as e1 => decide (ioIxs as).Nodup = true ∧ match argSlots e1 as with
    | some args => wx (fun c fs args' => E c fs (putArgs as args' e1)) F args fun s args' => P s (putArgs as args' e1)
    | none => False := by
  unfold mCall; rw [wx_bind]
  refine wx_ext fun as e1 => ?_
  unfold wx
  cases decide (ioIxs as).Nodup with
  | false => simp
  | true =>
    simp only [if_true, true_and]
    cases argSlots e1 as with
    | none => rfl
    | some args => simp only []; cases F args <;> rfl
@[simp] theorem wx_callV {F : M Slot} {ds : List D} {P : Slot → En → Prop} : wx E (mCallV F ds) e P = wx (fun c fs _ => E c fs e) F (ds.map .fro) fun s _ => P s e := by
  unfold wx mCallV
  cases F (ds.map .fro) <;> rfl
@[simp] theorem wx_callK0 {n2 : Nat} {F : M Slot} {bd : List D → List D} {k : M (List D)} {P : Slot → En → Prop} : wx E (mCallK0 n2 F bd k) e P = wx E k e fun es e1 => es.length = n2 ∧ wx (fun c fs _ => E c fs e1) F ((bd es).map .fro) fun s _ => P s e1 := by
  unfold mCallK0; rw [wx_bind]
  refine wx_ext fun es e1 => ?_
  by_cases h : es.length = n2
  · rw [if_pos h, wx_callV]; simp [h]
  · rw [if_neg h]; simp [h]
end
section
variable {α β : Type} {E : Nat → List D → En → Prop} {e : En} {i j : Int} {a b : Bool} {x y : Str} {l r : List D} {P : D → En → Prop} {S : Slot → En → Prop} {L : List D → En → Prop}
@[simp] theorem wx_sub : wx E (dSub (.int i) (.int j)) e P = P (.int (i - j)) e := rfl
@[simp] theorem wx_lt : wx E (dLt (.int i) (.int j)) e P = P (.bl (decide (i < j))) e := rfl
@[simp] theorem wx_le : wx E (dLe (.int i) (.int j)) e P = P (.bl (decide (i ≤ j))) e := rfl
@[simp] theorem wx_gt : wx E (dGt (.int i) (.int j)) e P = P (.bl (decide (j < i))) e := rfl
@[simp] theorem wx_ge : wx E (dGe (.int i) (.int j)) e P = P (.bl (decide (j ≤ i))) e := rfl
theorem wx_iteBad {c : Bool} {m : M α} {P : α → En → Prop} : wx E (if c = true then m else bad) e P = (c = true ∧ wx E m e P) := by cases c <;> simp
@[simp] theorem wx_mod : wx E (dMod (.int i) (.int j)) e P = (0 < j ∧ P (.int (i % j)) e) := by
  have := wx_iteBad (E := E) (e := e) (P := P) (c := decide (0 < j)) (m := M.pure (.int (i % j)))
  rw [show dMod (.int i) (.int j) = if decide (0 < j) = true then M.pure (.int (i % j)) else bad from rfl, this]; simp
@[simp] theorem wx_fdiv : wx E (dFdiv (.int i) (.int j)) e P = (cDiv j = true ∧ P (.int (i / j)) e) := by
  have := wx_iteBad (E := E) (e := e) (P := P) (c := cDiv j) (m := M.pure (.int (i / j)))
  rw [show dFdiv (.int i) (.int j) = if cDiv j = true then M.pure (.int (i / j)) else bad from rfl, this]; simp
@[simp] theorem wx_pow : wx E (dPow (.int i) (.int j)) e P = ((decide (0 ≤ j) && (decide (j ≤ 1000000) && cSmall i)) = true ∧ P (.int (i ^ j.toNat)) e) := by
  have := wx_iteBad (E := E) (e := e) (P := P) (c := decide (0 ≤ j) && (decide (j ≤ 1000000) && cSmall i)) (m := M.pure (.int (i ^ j.toNat)))
  rw [show dPow (.int i) (.int j) = if (decide (0 ≤ j) && (decide (j ≤ 1000000) && cSmall i)) = true then M.pure (.int (i ^ j.toNat)) else bad from rfl, this]; simp
@[simp] theorem wx_addI : wx E (dAdd (.int i) (.int j)) e S = S (.fro (.int (i + j))) e := rfl
@[simp] theorem wx_addL : wx E (dAdd (.lst l) (.lst r)) e S = (szOk (l ++ r).length = true ∧ S (.own (.l (l ++ r))) e) := by
  rw [show dAdd (.lst l) (.lst r) = mkLst (l ++ r) from rfl, wx_mkLst]
@[simp] theorem wx_addT : wx E (dAdd (.tup l) (.tup r)) e S = (szOk (l.length + r.length) = true ∧ S (.fro (.tup (l ++ r))) e) := by
  rw [show dAdd (.tup l) (.tup r) = if szOk (l.length + r.length) = true then M.pure (.fro (.tup (l ++ r))) else bad from rfl, wx_iteBad]; simp
@[simp] theorem wx_addS : wx E (dAdd (.str x) (.str y)) e S = (szOk (x.length + y.length) = true ∧ S (.fro (.str (x ++ y))) e) := by
  rw [show dAdd (.str x) (.str y) = if szOk (x.length + y.length) = true then M.pure (.fro (.str (x ++ y))) else bad from rfl, wx_iteBad]; simp
@[simp] theorem wx_mulI : wx E (dMul (.int i) (.int j)) e S = ((cSmall i || cSmall j) = true ∧ S (.fro (.int (i * j))) e) := by
  rw [show dMul (.int i) (.int j) = if (cSmall i || cSmall j) = true then M.pure (.fro (.int (i * j))) else bad from rfl, wx_iteBad]; simp
@[simp] theorem wx_mulL : wx E (dMul (.lst l) (.int j)) e S = ((decide (-(2 ^ 63) ≤ j) && (decide (j < 2 ^ 63) && szOk (l.length * j.toNat))) = true ∧ szOk (List.replicate j.toNat l).flatten.length = true ∧ S (.own (.l (List.replicate j.toNat l).flatten)) e) := by
  rw [show dMul (.lst l) (.int j) = if (decide (-(2 ^ 63) ≤ j) && (decide (j < 2 ^ 63) && szOk (l.length * j.toNat))) = true then mkLst (List.replicate j.toNat l).flatten else bad from rfl, wx_iteBad, wx_mkLst]
@[simp] theorem wx_neg : wx E (dNeg (.int i)) e P = P (.int (-i)) e := rfl
@[simp] theorem wx_eq {d f : D} : wx E (dEq d f) e P = match dEqB d f with
    | some b => P (.bl b) e
    | none => False := by
  unfold dEq; cases dEqB d f <;> rfl
@[simp] theorem wx_ne {d f : D} : wx E (dNe d f) e P = match dEqB d f with
    | some b => P (.bl (!b)) e
    | none => False := by
  unfold dNe; cases dEqB d f <;> rfl
@[simp] theorem wx_in {d f : D} : wx E (dIn d f) e P = match dInB d f with
    | some b => P (.bl b) e
    | none => False := by
  unfold dIn; cases dInB d f <;> rfl
@[simp] theorem wx_notIn {d f : D} : wx E (dNotIn d f) e P = match dInB d f with
    | some b => P (.bl (!b)) e
    | none => False := by
  unfold dNotIn; cases dInB d f <;> rfl
@[simp] theorem wx_isN {d : D} : wx E (dIs d .non) e P = P (.bl (dIsNon d)) e := by cases d <;> rfl
@[simp] theorem wx_isB : wx E (dIs (.bl a) (.bl b)) e P = P (.bl (decide (a = b))) e := rfl
@[simp] theorem wx_isNotN {d : D} : wx E (dIsNot d .non) e P = P (.bl (!dIsNon d)) e := by cases d <;> rfl
@[simp] theorem wx_isNotB : wx E (dIsNot (.bl a) (.bl b)) e P = P (.bl (!decide (a = b))) e := rfl
@[simp] theorem wx_ixL : wx E (dIx (.lst l) (.int i)) e P = match atI l i with
    | some d => P d e
    | none => False := by
  rw [show dIx (.lst l) (.int i) = match atI l i with | some d => M.pure d | none => bad from rfl]; cases atI l i <;> rfl
@[simp] theorem wx_ixT : wx E (dIx (.tup l) (.int i)) e P = match atI l i with
    | some d => P d e
    | none => False := by
  rw [show dIx (.tup l) (.int i) = match atI l i with | some d => M.pure d | none => bad from rfl]; cases atI l i <;> rfl
@[simp] theorem wx_ixSt : wx E (dIx (.stp l) (.int i)) e P = match atI l i with
    | some d => P d e
    | none => False := by
  rw [show dIx (.stp l) (.int i) = match atI l i with | some d => M.pure d | none => bad from rfl]; cases atI l i <;> rfl
@[simp] theorem wx_lenL : wx E (dLen [.lst l]) e P = P (.int l.length) e := rfl
@[simp] theorem wx_lenT : wx E (dLen [.tup l]) e P = P (.int l.length) e := rfl
@[simp] theorem wx_lenSt : wx E (dLen [.stp l]) e P = P (.int l.length) e := rfl
@[simp] theorem wx_tupL : wx E (dTuple [.lst l]) e P = P (.tup l) e := rfl
@[simp] theorem wx_tupT : wx E (dTuple [.tup l]) e P = P (.tup l) e := rfl
@[simp] theorem wx_tupF : wx E (dTupleF [.lst l]) e P = P (.stp l) e := rfl
@[simp] theorem wx_listL : wx E (dList [.lst l]) e S = S (.own (.l l)) e := rfl
@[simp] theorem wx_listT : wx E (dList [.tup l]) e S = S (.own (.l l)) e := rfl
@[simp] theorem wx_intI : wx E (dInt [.int i]) e P = P (.int i) e := rfl
@[simp] theorem wx_intB : wx E (dInt [.bl a]) e P = P (.int (if a then 1 else 0)) e := rfl
@[simp] theorem wx_all : wx E (dAll [.lst l]) e P = match dBools l with
    | some bs => P (.bl (bs.all id)) e
    | none => False := by
  rw [show dAll [.lst l] = match dBools l with | some bs => M.pure (.bl (bs.all id)) | none => bad from rfl]; cases dBools l <;> rfl
@[simp] theorem wx_any : wx E (dAny [.lst l]) e P = match dBools l with
    | some bs => P (.bl (bs.any id)) e
    | none => False := by
  rw [show dAny [.lst l] = match dBools l with | some bs => M.pure (.bl (bs.any id)) | none => bad from rfl]; cases dBools l <;> rfl
@[simp] theorem wx_min : wx E (dMin2 [.int i, .int j]) e P = P (.int (if j < i then j else i)) e := rfl
@[simp] theorem wx_max : wx E (dMax2 [.int i, .int j]) e P = P (.int (if j > i then j else i)) e := rfl
@[simp] theorem wx_isi {k : Ck} {m : M D} : wx E (mIsi k m) e P = wx E m e fun d e1 => P (.bl (dIsi k d)) e1 := wx_bind
@[simp] theorem wx_isis {k : List Ck} {m : M D} : wx E (mIsis k m) e P = wx E m e fun d e1 => P (.bl (k.any fun k => dIsi k d)) e1 := wx_bind
@[simp] theorem wx_rng1 : wx E (dRng1 [.int i]) e L = (c62 i = true ∧ L (rangeD 0 i.toNat) e) := by
  rw [show dRng1 [.int i] = if c62 i = true then M.pure (rangeD 0 i.toNat) else bad from rfl, wx_iteBad]; simp
@[simp] theorem wx_rng2 : wx E (dRng2 [.int i, .int j]) e L = ((c62 i && c62 j) = true ∧ L (rangeD i (j - i).toNat) e) := by
  rw [show dRng2 [.int i, .int j] = if (c62 i && c62 j) = true then M.pure (rangeD i (j - i).toNat) else bad from rfl, wx_iteBad]; simp
@[simp] theorem wx_part {m : M D} {O : Option Int → En → Prop} : wx E (mPart m) e O = wx E m e fun d e1 => match d with
    | .int i => O (some i) e1
    | _ => False := by
  unfold mPart; rw [wx_bind]
  refine wx_ext fun d e1 => ?_
  cases d <;> rfl
@[simp] theorem wx_noPart {O : Option Int → En → Prop} : wx E mNoPart e O = O none e := rfl
@[simp] theorem wx_sl {m : M D} {n k : M (Option Int)} : wx E (mSl m n k) e S = wx E m e fun d e1 => wx E n e1 fun lo e2 => wx E k e2 fun hi e3 => match d with
    | .lst l => S (.own (.l (cutD l lo hi))) e3
    | .scr l => S (.own (.l (cutD (l.map D.int) lo hi))) e3
    | .tup l => S (.fro (.tup (cutD l lo hi))) e3
    | _ => False := by
  unfold mSl; rw [wx_bind]
  refine wx_ext fun d e1 => ?_
  rw [wx_bind]
  refine wx_ext fun lo e2 => ?_
  rw [wx_bind]
  refine wx_ext fun hi e3 => ?_
  cases d <;> rfl
@[simp] theorem wx_enum : wx E (dEnum [.lst l]) e L = L (enumD l) e := rfl
@[simp] theorem wx_meth {f : D → List D → M D} {m : M D} {n : M (List D)} : wx E (mMeth f m n) e P = wx E m e fun d e1 => match d with
    | .lst l => wx E n e1 fun ds e2 => wx E (f (.lst l) ds) e2 P
    | _ => False := by
  unfold mMeth; rw [wx_bind]
  refine wx_ext fun d e1 => ?_
  cases d with
  | lst l => exact wx_bind
  | _ => rfl
@[simp] theorem wx_methT {f : D → List D → M D} {m : M D} {n : M (List D)} : wx E (mMethT f m n) e P = wx E m e fun d e1 => match d with
    | .stp l => wx E n e1 fun ds e2 => wx E (f (.stp l) ds) e2 P
    | _ => False := by
  unfold mMethT; rw [wx_bind]
  refine wx_ext fun d e1 => ?_
  cases d with
  | stp l => exact wx_bind
  | _ => rfl
@[simp] theorem wx_idx {d : D} : wx E (dIdx (.lst l) [d]) e P = match dIdxL l d with
    | some k => P (.int (k : Nat)) e
    | none => False := by
  rw [show dIdx (.lst l) [d] = match dIdxL l d with | some j => M.pure (.int (j : Nat)) | none => bad from rfl]; cases dIdxL l d <;> rfl
@[simp] theorem wx_idxT {d : D} : wx E (dIdxT (.stp l) [d]) e P = match dIdxL l d with
    | some k => P (.int (k : Nat)) e
    | none => False := by
  rw [show dIdxT (.stp l) [d] = match dIdxL l d with | some j => M.pure (.int (j : Nat)) | none => bad from rfl]; cases dIdxL l d <;> rfl
end
@[irreducible] def wy {α : Type} (E : Nat → List D → En → Prop) (m : M α) (e : En) (P : α → En → Prop) (x : Hush m P := ⟨⟩) : Prop := wx E m e P
theorem wy_is : @wy = @wx := by
  funext α E m e P x
  unfold wy
  rfl
section
variable {α β : Type} {E : Nat → List D → En → Prop} {e : En} {i : Nat}
theorem wy_imp {m : M α} {P Q : α → En → Prop} {E' : Nat → List D → En → Prop} (h : wy E m e P) (k : ∀ a e', P a e' → Q a e') (k2 : ∀ c fs e', E c fs e' → E' c fs e') : wy E' m e Q := by
  rw [wy_is] at h ⊢
  exact wx_imp h k k2
theorem wy_of_wp {m : M α} {P : α → En → Prop} (h : wp m e P) : wy E m e P := by
  rw [wp_is] at h
  rw [wy_is]
  exact wx_of_wq h
theorem wy_ext {m : M α} {P Q : α → En → Prop} (h : ∀ a e', P a e' = Q a e') : wy E m e P = wy E m e Q := by
  have q := @wx_ext
  rw [← wy_is] at q
  exact q h
@[simp] theorem wy_pure {a : α} {P : α → En → Prop} : wy E (M.pure a) e P = P a e := by
  have q := @wx_pure
  rw [← wy_is] at q
  exact q
@[simp] theorem wy_bad {P : α → En → Prop} : wy E (bad : M α) e P = False := by
  have q := @wx_bad
  rw [← wy_is] at q
  exact q
@[simp] theorem wy_bind {m : M α} {f : α → M β} {P : β → En → Prop} : wy E (M.bind m f) e P = wy E m e fun a e' => wy E (f a) e' P := by
  have q := @wx_bind
  rw [← wy_is] at q
  exact q
@[simp] theorem wy_var {P : D → En → Prop} : wy E (mVar i) e P = match e[i]? with
    | some (.fro d) => P d e
    | some (.own (.l l)) => P (.lst l) (e.set i (.fro (.lst l)))
    | _ => False := by
  have q := @wx_var
  rw [← wy_is] at q
  exact q
@[simp] theorem wy_fro {m : M D} {P : Slot → En → Prop} : wy E (mFro m) e P = wy E m e fun d e' => P (.fro d) e' := by
  have q := @wx_fro
  rw [← wy_is] at q
  exact q
@[simp] theorem wy_frz {m : M Slot} {P : D → En → Prop} : wy E (mFrz m) e P = wy E m e fun s e' => match s with
    | .fro d => P d e'
    | .own (.l l) => P (.lst l) e'
    | _ => False := by
  have q := @wx_frz
  rw [← wy_is] at q
  exact q
@[simp] theorem wy_bin {f : D → D → M α} {m n : M D} {P : α → En → Prop} : wy E (mBin f m n) e P = wy E m e fun x e1 => wy E n e1 fun y e2 => wy E (f x y) e2 P := by
  have q := @wx_bin
  rw [← wy_is] at q
  exact q
@[simp] theorem wy_tst {m : M D} {P : Bool → En → Prop} : wy E (mTst m) e P = wy E m e fun d e' => match d with
    | .bl b => P b e'
    | _ => False := by
  have q := @wx_tst
  rw [← wy_is] at q
  exact q
@[simp] theorem wy_tru {m : M D} {P : Bool → En → Prop} : wy E (mTru m) e P = wy E m e fun d e' => match dTru d with
    | some b => P b e'
    | none => False := by
  have q := @wx_tru
  rw [← wy_is] at q
  exact q
@[simp] theorem wy_notB {m : M Bool} {P : Bool → En → Prop} : wy E (mNotB m) e P = wy E m e fun b e' => P (!b) e' := by
  have q := @wx_notB
  rw [← wy_is] at q
  exact q
@[simp] theorem wy_andB {m n : M Bool} {P : Bool → En → Prop} : wy E (mAndB m n) e P = wy E m e fun b e' => if b = true then wy E n e' P else P false e' := by
  have q := @wx_andB
  rw [← wy_is] at q
  exact q
@[simp] theorem wy_orB {m n : M Bool} {P : Bool → En → Prop} : wy E (mOrB m n) e P = wy E m e fun b e' => if b = true then P true e' else wy E n e' P := by
  have q := @wx_orB
  rw [← wy_is] at q
  exact q
@[simp] theorem wy_dBl {d : D} {P : Bool → En → Prop} : wy E (dBl d) e P = match d with
    | .bl b => P b e
    | _ => False := by
  have q := @wx_dBl
  rw [← wy_is] at q
  exact q
@[simp] theorem wy_andV {m n : M D} {P : D → En → Prop} : wy E (mAndV m n) e P = wy E m e fun d e' => match d with
    | .bl b => if b = true then wy E n e' P else P (.bl false) e'
    | _ => False := by
  have q := @wx_andV
  rw [← wy_is] at q
  exact q
@[simp] theorem wy_orV {m n : M D} {P : D → En → Prop} : wy E (mOrV m n) e P = wy E m e fun d e' => match d with
    | .bl b => if b = true then P (.bl true) e' else wy E n e' P
    | _ => False := by
  have q := @wx_orV
  rw [← wy_is] at q
  exact q
@[simp] theorem wy_notV {m : M D} {P : D → En → Prop} : wy E (mNotV m) e P = wy E m e fun d e' => match d with
    | .bl b => P (.bl (!b)) e'
    | _ => False := by
  have q := @wx_notV
  rw [← wy_is] at q
  exact q
@[simp] theorem wy_ifE {m : M Bool} {x y : M α} {P : α → En → Prop} : wy E (mIfE m x y) e P = wy E m e fun b e' => if b = true then wy E x e' P else wy E y e' P := by
  have q := @wx_ifE
  rw [← wy_is] at q
  exact q
@[simp] theorem wy_nil {P : List D → En → Prop} : wy E mNil e P = P [] e := by
  have q := @wx_nil
  rw [← wy_is] at q
  exact q
@[simp] theorem wy_cons {m : M D} {n : M (List D)} {P : List D → En → Prop} : wy E (mCons m n) e P = wy E m e fun d e1 => wy E n e1 fun ds e2 => P (d :: ds) e2 := by
  have q := @wx_cons
  rw [← wy_is] at q
  exact q
@[simp] theorem wy_mkTup {ds : List D} {P : D → En → Prop} : wy E (mkTup ds) e P = (szOk ds.length = true ∧ P (.tup ds) e) := by
  have q := @wx_mkTup
  rw [← wy_is] at q
  exact q
@[simp] theorem wy_mkLst {ds : List D} {P : Slot → En → Prop} : wy E (mkLst ds) e P = (szOk ds.length = true ∧ P (.own (.l ds)) e) := by
  have q := @wx_mkLst
  rw [← wy_is] at q
  exact q
@[simp] theorem wy_chain {f g : D → D → M D} {m n k : M D} {P : D → En → Prop} : wy E (mChain f g m n k) e P = wy E m e fun x e1 => wy E n e1 fun y e2 => wy E (f x y) e2 fun z e3 => match z with
    | .bl b => if b = true then wy E k e3 fun w e4 => wy E (g y w) e4 P else P (.bl false) e3
    | _ => False := by
  have q := @wx_chain
  rw [← wy_is] at q
  exact q
@[simp] theorem wy_seq {m n : M Fl} {P : Fl → En → Prop} : wy E (mSeq m n) e P = wy E m e fun f e' => match f with
    | .nx => wy E n e' P
    | f => P f e' := by
  have q := @wx_seq
  rw [← wy_is] at q
  exact q
@[simp] theorem wy_next {P : Fl → En → Prop} : wy E mNext e P = P .nx e := by
  have q := @wx_next
  rw [← wy_is] at q
  exact q
@[simp] theorem wy_ret {m : M Slot} {P : Fl → En → Prop} : wy E (mRet m) e P = wy E m e fun s e' => P (.rt s) e' := by
  have q := @wx_ret
  rw [← wy_is] at q
  exact q
@[simp] theorem wy_retVar {P : Fl → En → Prop} : wy E (mRetVar i) e P = match e[i]? with
    | some (.fro d) => P (.rt (.fro d)) e
    | some (.own l) => P (.rt (.own l)) (e.set i .emp)
    | _ => False := by
  have q := @wx_retVar
  rw [← wy_is] at q
  exact q
@[simp] theorem wy_if {c : M Bool} {m n : M Fl} {P : Fl → En → Prop} : wy E (mIf c m n) e P = wy E c e fun b e' => if b = true then wy E m e' P else wy E n e' P := by
  have q := @wx_if
  rw [← wy_is] at q
  exact q
@[simp] theorem wy_set {m : M Slot} {P : Fl → En → Prop} : wy E (mSet i m) e P = wy E m e fun s e' => match e'[i]? with
    | some s0 => noIo s0 = true ∧ (match s with
      | .fro d => P .nx (e'.set i (.fro d))
      | .own l => P .nx (e'.set i (.own l))
      | _ => False)
    | none => False := by
  have q := @wx_set
  rw [← wy_is] at q
  exact q
@[simp] theorem wy_unp {t : Tg} {m : M D} {P : Fl → En → Prop} : wy E (mUnp t m) e P = wy E m e fun d e' => match t.set d e' with
    | some e2 => P .nx e2
    | none => False := by
  have q := @wx_unp
  rw [← wy_is] at q
  exact q
@[simp] theorem wy_for {t : Tg} {mi : M (List D)} {body : M Fl} {P : Fl → En → Prop} : wy E (mFor t mi body) e P = wy E mi e fun xs e1 => wy E (forLoop t body xs) e1 P := by
  have q := @wx_for
  rw [← wy_is] at q
  exact q
@[simp] theorem wy_it {m : M D} {P : List D → En → Prop} : wy E (mIt m) e P = wy E m e fun d e' => match d with
    | .lst l => P l e'
    | .tup l => P l e'
    | .stp l => P l e'
    | _ => False := by
  have q := @wx_it
  rw [← wy_is] at q
  exact q
@[simp] theorem wy_yes {P : Bool → En → Prop} : wy E mYes e P = P true e := by
  have q := @wx_yes
  rw [← wy_is] at q
  exact q
@[simp] theorem wy_mut {f : List D → List D → Option (List D × D)} {n : M (List D)} {P : D → En → Prop} : wy E (mMut i f n) e P = ((myList i e).isSome = true ∧ wy E n e fun ds e' => match myList i e' with
    | some l => (match f l ds with
      | some (l', d) => P d (putList i l' e')
      | none => False)
    | none => False) := by
  have q := @wx_mut
  rw [← wy_is] at q
  exact q
@[simp] theorem wy_ixO {m : M D} {P : D → En → Prop} : wy E (mIxO i m) e P = ((myList i e).isSome = true ∧ wy E m e fun d e' => match d, myList i e' with
    | .int k, some l => (match atI l k with
      | some d => P d e'
      | none => False)
    | _, _ => False) := by
  have q := @wx_ixO
  rw [← wy_is] at q
  exact q
@[simp] theorem wy_putO {m n : M D} {P : Fl → En → Prop} : wy E (mPutO i m n) e P = wy E m e fun d e1 => (myList i e1).isSome = true ∧ wy E n e1 fun k e2 => match k, myList i e2 with
    | .int k, some l => (match ixN l.length k with
      | some j => P .nx (putList i (l.set j d) e2)
      | none => False)
    | _, _ => False := by
  have q := @wx_putO
  rw [← wy_is] at q
  exact q
@[simp] theorem wy_agNil {P : List Ag → En → Prop} : wy E agNil e P = P [] e := by
  have q := @wx_agNil
  rw [← wy_is] at q
  exact q
@[simp] theorem wy_agV {m : M D} {n : M (List Ag)} {P : List Ag → En → Prop} : wy E (agV m n) e P = wy E m e fun d e1 => wy E n e1 fun as e2 => P (.v d :: as) e2 := by
  have q := @wx_agV
  rw [← wy_is] at q
  exact q
@[simp] theorem wy_agIo {n : M (List Ag)} {P : List Ag → En → Prop} : wy E (agIo i n) e P = ((myOb i e).isSome = true ∧ wy E n e fun as e2 => P (.io i :: as) e2) := by
  have q := @wx_agIo
  rw [← wy_is] at q
  exact q
@[simp] theorem wy_insD {c : Nat} {d : D} {P : D → En → Prop} : wy E (insD c d) e P = match d with
    | .ins c' l => c' = c ∧ P (.ins c' l) e
    | _ => False := by
  have q := @wx_insD
  rw [← wy_is] at q
  exact q
@[simp] theorem wy_getF {c k : Nat} {d : D} {P : D → En → Prop} : wy E (getF c k d) e P = match d with
    | .ins c' l => c' = c ∧ (match l[k]? with
      | some d => P d e
      | none => False)
    | _ => False := by
  have q := @wx_getF
  rw [← wy_is] at q
  exact q
@[simp] theorem wy_putF {c : Nat} {f : Str} {m : M D} {P : Fl → En → Prop} : wy E (mPutF i c f m) e P = wy E m e fun d e1 => match myOb i e1 with
    | some (.o c' fs) => (c' = c ∧ fs.length < 1000) ∧ P .nx (putOb i (.o c (putFD f d fs)) e1)
    | _ => False := by
  have q := @wx_putF
  rw [← wy_is] at q
  exact q
@[simp] theorem wy_getO {c : Nat} {f : Str} {P : D → En → Prop} : wy E (mGetO i c f) e P = match myOb i e with
    | some (.o c' fs) => c' = c ∧ (match fs.lookup f with
      | some d => P d e
      | none => False)
    | _ => False := by
  have q := @wx_getO
  rw [← wy_is] at q
  exact q
@[simp] theorem wy_fn {k : Nat} {m : M Fl} {P : Slot → En → Prop} : wy E (mFn k m) e P = wy (fun c fs e1 => (e1.length == e.length + k) = true ∧ E c fs (backArgs e e1)) m (e ++ List.replicate k .emp) fun f e1 => (e1.length == e.length + k) = true ∧ match f with
    | .nx => P (.fro .non) (backArgs e e1)
    | .rt s => P s (backArgs e e1)
    | _ => False := by
  rw [wy_is]
  exact wx_fn
@[simp] theorem wy_call {F : M Slot} {n : M (List Ag)} {P : Slot → En → Prop} : wy E (mCall F n) e P = wy E n e fun as e1 => decide (ioIxs as).Nodup = true ∧ match argSlots e1 as with
    | some args => wy (fun c fs args' => E c fs (putArgs as args' e1)) F args fun s args' => P s (putArgs as args' e1)
    | none => False := by
  rw [wy_is]
  exact wx_call
@[simp] theorem wy_callK0 {n2 : Nat} {F : M Slot} {bd : List D → List D} {k : M (List D)} {P : Slot → En → Prop} : wy E (mCallK0 n2 F bd k) e P = wy E k e fun es e1 => es.length = n2 ∧ wy (fun c fs _ => E c fs e1) F ((bd es).map .fro) fun s _ => P s e1 := by
  rw [wy_is]
  exact wx_callK0
@[simp] theorem wy_noErr {m : M α} {P : α → En → Prop} : wy E (noErr m) e P = wp m e P := by
  rw [wy_is, wp_is]
  exact wx_noErr
@[simp] theorem wy_prop {c : Nat} {F : M Slot} {m : M D} {P : Slot → En → Prop} : wy E (mProp c F m) e P = wy E m e fun d e1 => match d with
    | .ins c' l => c' = c ∧ wp F [.fro (.ins c' l)] fun s _ => P s e1
    | _ => False := by
  unfold mProp
  rw [wy_bind]
  refine wy_ext fun d e1 => ?_
  rw [wy_bind, wy_insD]
  cases d with
  | ins c' l => simp only [wy_noErr, wp_callV]; rfl
  | _ => rfl
/-! errors -/
@[simp] theorem wy_raise {c n : Nat} {m : M (List D)} {P : Fl → En → Prop} : wy E (mRaise c n m) e P = wy E m e fun ds e1 => (ds.length == n) = true ∧ E c ds.reverse e1 := by
  unfold mRaise
  rw [wy_bind]
  refine wy_ext fun ds e1 => ?_
  rw [wy_is]
  unfold wx
  cases ds.length == n <;> simp
/-- what the clauses give -/
def wH (P : Fl → En → Prop) (c' : Nat) (fs : List D) (e : En) : List MHd → Prop
  | [] => False
  | h :: l => if subE c' h.c = true then (match begH c' fs e h.nm with
      | some e2 => wp h.m e2 fun f e3 => (match h.nm with
        | none => P f e3
        | some i => match e3[i]? with
          | some s => s.mine = false ∧ P f (e3.set i .emp)
          | none => False)
      | none => False) else wH P c' fs e l
theorem wH_of {P : Fl → En → Prop} {c' : Nat} {fs : List D} {e1 : En} : ∀ {l : List MHd}, wH P c' fs e1 l → ∃ f e2, mHds c' fs e1 l = .ok f e2 ∧ P f e2
  | [], h => h.elim
  | h :: l, w => by
    unfold wH at w
    unfold mHds
    cases hs : subE c' h.c with
    | false =>
      rw [hs] at w
      simp only [Bool.false_eq_true, if_false] at w ⊢
      exact wH_of w
    | true =>
      rw [hs] at w
      simp only [if_true] at w ⊢
      cases eb : begH c' fs e1 h.nm with
      | none => rw [eb] at w; exact w.elim
      | some e2 =>
        rw [eb] at w
        dsimp only at w ⊢
        obtain ⟨f, e3, q1, q2⟩ := wp_ok w
        rw [q1]
        cases hn : h.nm with
        | none => rw [hn] at q2; exact ⟨f, e3, rfl, q2⟩
        | some i =>
          rw [hn] at q2
          dsimp only at q2
          simp only [finH]
          cases q : e3[i]? with
          | none => rw [q] at q2; exact q2.elim
          | some s =>
            rw [q] at q2
            obtain ⟨m1, m2⟩ := q2
            exact ⟨f, _, by simp [m1], m2⟩
theorem wp_try {mb : M Fl} {l : List MHd} {P : Fl → En → Prop} (h : wy (fun c fs e1 => wH P c fs e1 l) mb e P) : wp (mTry mb l) e P := by
  rw [wy_is] at h
  unfold wx at h
  cases q : mb e with
  | ok f e1 => rw [q] at h; exact wp_of (a := f) (e' := e1) (by unfold mTry; rw [q]) h
  | err c fs e1 =>
    rw [q] at h
    obtain ⟨f, e2, h1, h2⟩ := wH_of h
    exact wp_of (a := f) (e' := e2) (by unfold mTry; rw [q]; exact h1) h2
  | bad => rw [q] at h; exact h.elim
@[simp] theorem wp_getX {tb : List (Nat × Nat)} {c : Nat} {l : List D} {P : D → En → Prop} : wp (getX tb (.exc c l)) e P = match tb.lookup c with
    | some k => (match l[k]? with
      | some d => P d e
      | none => False)
    | none => False := by
  have e0 : getX tb (.exc c l) = match tb.lookup c with
    | some k => (match l[k]? with
      | some d => M.pure d
      | none => bad)
    | none => bad := rfl
  rw [e0]
  cases tb.lookup c with
  | none => simp
  | some k =>
    dsimp only
    cases l[k]? <;> simp
end
section
variable {α β : Type} {E : Nat → List D → En → Prop} {e : En} {i j : Int} {a b : Bool} {x y : Str} {l r : List D} {P : D → En → Prop} {S : Slot → En → Prop} {L : List D → En → Prop}
@[simp] theorem wy_sub : wy E (dSub (.int i) (.int j)) e P = P (.int (i - j)) e := by
  have q := @wx_sub
  rw [← wy_is] at q
  exact q
@[simp] theorem wy_lt : wy E (dLt (.int i) (.int j)) e P = P (.bl (decide (i < j))) e := by
  have q := @wx_lt
  rw [← wy_is] at q
  exact q
@[simp] theorem wy_le : wy E (dLe (.int i) (.int j)) e P = P (.bl (decide (i ≤ j))) e := by
  have q := @wx_le
  rw [← wy_is] at q
  exact q
@[simp] theorem wy_gt : wy E (dGt (.int i) (.int j)) e P = P (.bl (decide (j < i))) e := by
  have q := @wx_gt
  rw [← wy_is] at q
  exact q
@[simp] theorem wy_ge : wy E (dGe (.int i) (.int j)) e P = P (.bl (decide (j ≤ i))) e := by
  have q := @wx_ge
  rw [← wy_is] at q
  exact q
theorem wy_iteBad {c : Bool} {m : M α} {P : α → En → Prop} : wy E (if c = true then m else bad) e P = (c = true ∧ wy E m e P) := by
  have q := @wx_iteBad
  rw [← wy_is] at q
  exact q
@[simp] theorem wy_mod : wy E (dMod (.int i) (.int j)) e P = (0 < j ∧ P (.int (i % j)) e) := by
  have q := @wx_mod
  rw [← wy_is] at q
  exact q
@[simp] theorem wy_fdiv : wy E (dFdiv (.int i) (.int j)) e P = (cDiv j = true ∧ P (.int (i / j)) e) := by
  have q := @wx_fdiv
  rw [← wy_is] at q
  exact q
@[simp] theorem wy_pow : wy E (dPow (.int i) (.int j)) e P = ((decide (0 ≤ j) && (decide (j ≤ 1000000) && cSmall i)) = true ∧ P (.int (i ^ j.toNat)) e) := by
  have q := @wx_pow
  rw [← wy_is] at q
  exact q
@[simp] theorem wy_addI : wy E (dAdd (.int i) (.int j)) e S = S (.fro (.int (i + j))) e := by
  have q := @wx_addI
  rw [← wy_is] at q
  exact q
@[simp] theorem wy_addL : wy E (dAdd (.lst l) (.lst r)) e S = (szOk (l ++ r).length = true ∧ S (.own (.l (l ++ r))) e) := by
  have q := @wx_addL
  rw [← wy_is] at q
  exact q
@[simp] theorem wy_addT : wy E (dAdd (.tup l) (.tup r)) e S = (szOk (l.length + r.length) = true ∧ S (.fro (.tup (l ++ r))) e) := by
  have q := @wx_addT
  rw [← wy_is] at q
  exact q
@[simp] theorem wy_addS : wy E (dAdd (.str x) (.str y)) e S = (szOk (x.length + y.length) = true ∧ S (.fro (.str (x ++ y))) e) := by
  have q := @wx_addS
  rw [← wy_is] at q
  exact q
@[simp] theorem wy_mulI : wy E (dMul (.int i) (.int j)) e S = ((cSmall i || cSmall j) = true ∧ S (.fro (.int (i * j))) e) := by
  have q := @wx_mulI
  rw [← wy_is] at q
  exact q
@[simp] theorem wy_mulL : wy E (dMul (.lst l) (.int j)) e S = ((decide (-(2 ^ 63) ≤ j) && (decide (j < 2 ^ 63) && szOk (l.length * j.toNat))) = true ∧ szOk (List.replicate j.toNat l).flatten.length = true ∧ S (.own (.l (List.replicate j.toNat l).flatten)) e) := by
  have q := @wx_mulL
  rw [← wy_is] at q
  exact q
@[simp] theorem wy_neg : wy E (dNeg (.int i)) e P = P (.int (-i)) e := by
  have q := @wx_neg
  rw [← wy_is] at q
  exact q
@[simp] theorem wy_eq {d f : D} : wy E (dEq d f) e P = match dEqB d f with
    | some b => P (.bl b) e
    | none => False := by
  have q := @wx_eq
  rw [← wy_is] at q
  exact q
@[simp] theorem wy_ne {d f : D} : wy E (dNe d f) e P = match dEqB d f with
    | some b => P (.bl (!b)) e
    | none => False := by
  have q := @wx_ne
  rw [← wy_is] at q
  exact q
@[simp] theorem wy_in {d f : D} : wy E (dIn d f) e P = match dInB d f with
    | some b => P (.bl b) e
    | none => False := by
  have q := @wx_in
  rw [← wy_is] at q
  exact q
@[simp] theorem wy_notIn {d f : D} : wy E (dNotIn d f) e P = match dInB d f with
    | some b => P (.bl (!b)) e
    | none => False := by
  have q := @wx_notIn
  rw [← wy_is] at q
  exact q
@[simp] theorem wy_isN {d : D} : wy E (dIs d .non) e P = P (.bl (dIsNon d)) e := by
  have q := @wx_isN
  rw [← wy_is] at q
  exact q
@[simp] theorem wy_isB : wy E (dIs (.bl a) (.bl b)) e P = P (.bl (decide (a = b))) e := by
  have q := @wx_isB
  rw [← wy_is] at q
  exact q
@[simp] theorem wy_isNotN {d : D} : wy E (dIsNot d .non) e P = P (.bl (!dIsNon d)) e := by
  have q := @wx_isNotN
  rw [← wy_is] at q
  exact q
@[simp] theorem wy_isNotB : wy E (dIsNot (.bl a) (.bl b)) e P = P (.bl (!decide (a = b))) e := by
  have q := @wx_isNotB
  rw [← wy_is] at q
  exact q
@[simp] theorem wy_ixL : wy E (dIx (.lst l) (.int i)) e P = match atI l i with
    | some d => P d e
    | none => False := by
  have q := @wx_ixL
  rw [← wy_is] at q
  exact q
@[simp] theorem wy_ixT : wy E (dIx (.tup l) (.int i)) e P = match atI l i with
    | some d => P d e
    | none => False := by
  have q := @wx_ixT
  rw [← wy_is] at q
  exact q
@[simp] theorem wy_ixSt : wy E (dIx (.stp l) (.int i)) e P = match atI l i with
    | some d => P d e
    | none => False := by
  have q := @wx_ixSt
  rw [← wy_is] at q
  exact q
@[simp] theorem wy_lenL : wy E (dLen [.lst l]) e P = P (.int l.length) e := by
  have q := @wx_lenL
  rw [← wy_is] at q
  exact q
@[simp] theorem wy_lenT : wy E (dLen [.tup l]) e P = P (.int l.length) e := by
  have q := @wx_lenT
  rw [← wy_is] at q
  exact q
@[simp] theorem wy_lenSt : wy E (dLen [.stp l]) e P = P (.int l.length) e := by
  have q := @wx_lenSt
  rw [← wy_is] at q
  exact q
@[simp] theorem wy_tupL : wy E (dTuple [.lst l]) e P = P (.tup l) e := by
  have q := @wx_tupL
  rw [← wy_is] at q
  exact q
@[simp] theorem wy_tupT : wy E (dTuple [.tup l]) e P = P (.tup l) e := by
  have q := @wx_tupT
  rw [← wy_is] at q
  exact q
@[simp] theorem wy_tupF : wy E (dTupleF [.lst l]) e P = P (.stp l) e := by
  have q := @wx_tupF
  rw [← wy_is] at q
  exact q
@[simp] theorem wy_listL : wy E (dList [.lst l]) e S = S (.own (.l l)) e := by
  have q := @wx_listL
  rw [← wy_is] at q
  exact q
@[simp] theorem wy_listT : wy E (dList [.tup l]) e S = S (.own (.l l)) e := by
  have q := @wx_listT
  rw [← wy_is] at q
  exact q
@[simp] theorem wy_intI : wy E (dInt [.int i]) e P = P (.int i) e := by
  have q := @wx_intI
  rw [← wy_is] at q
  exact q
@[simp] theorem wy_intB : wy E (dInt [.bl a]) e P = P (.int (if a then 1 else 0)) e := by
  have q := @wx_intB
  rw [← wy_is] at q
  exact q
@[simp] theorem wy_all : wy E (dAll [.lst l]) e P = match dBools l with
    | some bs => P (.bl (bs.all id)) e
    | none => False := by
  have q := @wx_all
  rw [← wy_is] at q
  exact q
@[simp] theorem wy_any : wy E (dAny [.lst l]) e P = match dBools l with
    | some bs => P (.bl (bs.any id)) e
    | none => False := by
  have q := @wx_any
  rw [← wy_is] at q
  exact q
@[simp] theorem wy_min : wy E (dMin2 [.int i, .int j]) e P = P (.int (if j < i then j else i)) e := by
  have q := @wx_min
  rw [← wy_is] at q
  exact q
@[simp] theorem wy_max : wy E (dMax2 [.int i, .int j]) e P = P (.int (if j > i then j else i)) e := by
  have q := @wx_max
  rw [← wy_is] at q
  exact q
@[simp] theorem wy_isi {k : Ck} {m : M D} : wy E (mIsi k m) e P = wy E m e fun d e1 => P (.bl (dIsi k d)) e1 := by
  have q := @wx_isi
  rw [← wy_is] at q
  exact q
@[simp] theorem wy_isis {k : List Ck} {m : M D} : wy E (mIsis k m) e P = wy E m e fun d e1 => P (.bl (k.any fun k => dIsi k d)) e1 := by
  have q := @wx_isis
  rw [← wy_is] at q
  exact q
@[simp] theorem wy_rng1 : wy E (dRng1 [.int i]) e L = (c62 i = true ∧ L (rangeD 0 i.toNat) e) := by
  have q := @wx_rng1
  rw [← wy_is] at q
  exact q
@[simp] theorem wy_rng2 : wy E (dRng2 [.int i, .int j]) e L = ((c62 i && c62 j) = true ∧ L (rangeD i (j - i).toNat) e) := by
  have q := @wx_rng2
  rw [← wy_is] at q
  exact q
@[simp] theorem wy_part {m : M D} {O : Option Int → En → Prop} : wy E (mPart m) e O = wy E m e fun d e1 => match d with
    | .int i => O (some i) e1
    | _ => False := by
  have q := @wx_part
  rw [← wy_is] at q
  exact q
@[simp] theorem wy_noPart {O : Option Int → En → Prop} : wy E mNoPart e O = O none e := by
  have q := @wx_noPart
  rw [← wy_is] at q
  exact q
@[simp] theorem wy_sl {m : M D} {n k : M (Option Int)} : wy E (mSl m n k) e S = wy E m e fun d e1 => wy E n e1 fun lo e2 => wy E k e2 fun hi e3 => match d with
    | .lst l => S (.own (.l (cutD l lo hi))) e3
    | .scr l => S (.own (.l (cutD (l.map D.int) lo hi))) e3
    | .tup l => S (.fro (.tup (cutD l lo hi))) e3
    | _ => False := by
  have q := @wx_sl
  rw [← wy_is] at q
  exact q
@[simp] theorem wy_enum : wy E (dEnum [.lst l]) e L = L (enumD l) e := by
  have q := @wx_enum
  rw [← wy_is] at q
  exact q
@[simp] theorem wy_meth {f : D → List D → M D} {m : M D} {n : M (List D)} : wy E (mMeth f m n) e P = wy E m e fun d e1 => match d with
    | .lst l => wy E n e1 fun ds e2 => wy E (f (.lst l) ds) e2 P
    | _ => False := by
  have q := @wx_meth
  rw [← wy_is] at q
  exact q
@[simp] theorem wy_methT {f : D → List D → M D} {m : M D} {n : M (List D)} : wy E (mMethT f m n) e P = wy E m e fun d e1 => match d with
    | .stp l => wy E n e1 fun ds e2 => wy E (f (.stp l) ds) e2 P
    | _ => False := by
  have q := @wx_methT
  rw [← wy_is] at q
  exact q
@[simp] theorem wy_idx {d : D} : wy E (dIdx (.lst l) [d]) e P = match dIdxL l d with
    | some k => P (.int (k : Nat)) e
    | none => False := by
  have q := @wx_idx
  rw [← wy_is] at q
  exact q
@[simp] theorem wy_idxT {d : D} : wy E (dIdxT (.stp l) [d]) e P = match dIdxL l d with
    | some k => P (.int (k : Nat)) e
    | none => False := by
  have q := @wx_idxT
  rw [← wy_is] at q
  exact q
end
end Eng

end
section
set_option Elab.async false
set_option linter.all false
set_option autoImplicit false
set_option maxRecDepth 100000
set_option maxHeartbeats 2000000
namespace Eng
open PySem PySem.Spec L2
open PyProof.Rows hiding St
theorem eqB_pair {a b c d : Int} : dEqB (.tup [.int a, .int b]) (.tup [.int c, .int d]) = some (decide (a = c) && decide (b = d)) := by
  have e : ∀ h w : Int, toP (.tup [.int h, .int w]) = some (.tuple [.int h, .int w]) := fun h w => by simp [toP, toPs]
  have s : ∀ h w : Int, SeqAt.shaped (.tuple [.int h, .int w]) = true := fun h w => by
    unfold SeqAt.shaped
    simp [PyData.canLay0, PyData.canLayAll0, PyData.depth, PyData.depthAll]
  have e0 : dEqB (.tup [.int a, .int b]) (.tup [.int c, .int d]) = pEq (.tup [.int a, .int b]) (.tup [.int c, .int d]) := by unfold dEqB; rfl
  rw [e0]
  unfold pEq
  rw [e, e]
  simp only [s, Bool.and_self, if_true]
  by_cases h1 : a = c <;> by_cases h2 : b = d <;> simp [PyData.eqv, PyData.eqvAll, h1, h2]
@[simp 2000] theorem wp_callP {F : M Slot} {n : M (List Ag)} {e : En} {P : Slot → En → Prop} : wp (mCall F n) e P = wp n e fun as e1 => (ioIxs as).Nodup ∧ match argSlots e1 as with
    | some args => wp F args fun s args' => P s (putArgs as args' e1)
    | none => False := by
  rw [wp_call]
  exact wp_ext fun as e1 => by rw [decide_eq_true_eq] <;> rfl
@[simp 2000] theorem wy_callP {E : Nat → List D → En → Prop} {F : M Slot} {n : M (List Ag)} {e : En} {P : Slot → En → Prop} : wy E (mCall F n) e P = wy E n e fun as e1 => (ioIxs as).Nodup ∧ match argSlots e1 as with
    | some args => wy (fun c fs args' => E c fs (putArgs as args' e1)) F args fun s args' => P s (putArgs as args' e1)
    | none => False := by
  rw [wy_call]
  exact wy_ext fun as e1 => by rw [decide_eq_true_eq] <;> rfl
theorem set_tp2 {i j : Nat} {a b : D} {e : En} {s t : Slot} (h1 : e[i]? = some s) (h2 : noIo s = true) (h3 : (e.set i (.fro a))[j]? = some t) (h4 : noIo t = true) : (Tg.tp [i, j]).set (.tup [a, b]) e = some ((e.set i (.fro a)).set j (.fro b)) := by
  simp only [Tg.set, setFros, h1, h2, h3, h4, if_true]
/-! ### the first place of a table of bools -/
def firstF (w : Nat) (p : Nat → Nat → Bool) (i : Nat) : Option (Nat × Nat) := ((List.range w).find? (p i)).map fun k => (i, k)
def firstP (h w : Nat) (p : Nat → Nat → Bool) : Option (Nat × Nat) := (List.range h).findSome? (firstF w p)
def cellsP (h w : Nat) (p : Nat → Nat → Bool) : List (Nat × Nat) := (List.range h).flatMap fun i => ((List.range w).filter (p i)).map fun k => (i, k)
theorem cells_head {h w : Nat} {p : Nat → Nat → Bool} : (cellsP h w p).head? = firstP h w p := by
  unfold cellsP firstP
  rw [List.head?_flatMap]
  congr 1
  funext i
  unfold firstF
  rw [List.head?_map, List.head?_filter]
theorem cells_filter {h w : Nat} {p q : Nat → Nat → Bool} : (cellsP h w p).filter (fun x => q x.1 x.2) = cellsP h w fun i k => p i k && q i k := by
  unfold cellsP
  rw [List.filter_flatMap]
  congr 1
  funext i
  rw [List.filter_map, List.filter_filter]
  congr 1
  congr 1
  funext k
  simp [Function.comp, Bool.and_comm]
theorem firstP_none {h w : Nat} {p : Nat → Nat → Bool} (hn : ∀ i, i < h → ∀ k, k < w → p i k = false) : firstP h w p = none := by
  unfold firstP
  rw [List.findSome?_eq_none_iff]
  intro i hi
  unfold firstF
  rw [List.find?_eq_none.mpr fun k hk => by rw [hn i (List.mem_range.mp hi) k (List.mem_range.mp hk)]; simp]
  rfl
theorem range_cut {h i : Nat} (hi : i < h) : List.range h = List.range i ++ i :: (List.range (h - i - 1)).map fun j => i + 1 + j := by
  apply List.ext_getElem?
  intro j
  rcases Nat.lt_trichotomy j i with z | z | z
  · rw [List.getElem?_append_left (by simpa using z), List.getElem?_range z, List.getElem?_range (by omega)]
  · subst z
    rw [List.getElem?_append_right (by simp), List.getElem?_range hi]
    simp
  · rw [List.getElem?_append_right (by simp; omega)]
    obtain ⟨m, rfl⟩ : ∃ m, j = i + 1 + m := ⟨j - i - 1, by omega⟩
    rw [show i + 1 + m - (List.range i).length = m + 1 by simp; omega, List.getElem?_cons_succ, List.getElem?_map]
    by_cases q : i + 1 + m < h
    · rw [List.getElem?_range q, List.getElem?_range (by omega)]; rfl
    · rw [List.getElem?_eq_none (by simpa using q), List.getElem?_eq_none (l := List.range (h - i - 1)) (by simp; omega)]; rfl
theorem firstP_some {h w i k : Nat} {p : Nat → Nat → Bool} (hi : i < h) (hk : k < w) (hp : p i k = true) (h1 : ∀ j, j < i → ∀ m, m < w → p j m = false) (h2 : ∀ m, m < k → p i m = false) : firstP h w p = some (i, k) := by
  unfold firstP
  rw [range_cut hi, List.findSome?_append]
  have e1 : (List.range i).findSome? (firstF w p) = none := firstP_none h1
  have e2 : firstF w p i = some (i, k) := by
    unfold firstF
    rw [range_cut hk, List.find?_append]
    have e3 : (List.range k).find? (p i) = none := List.find?_eq_none.mpr fun m hm => by rw [h2 m (List.mem_range.mp hm)]; simp
    rw [e3]
    simp [List.find?_cons, hp]
  rw [e1, List.findSome?_cons, e2]
  rfl
end Eng

end
section
set_option Elab.async false
set_option linter.all false
set_option autoImplicit false
set_option maxRecDepth 100000
set_option maxHeartbeats 2000000
namespace Eng
open PySem PySem.Spec L2
open PyProof.Rows hiding St
@[simp] theorem wp_makeD {n1 c : Nat} {names : List Str} {F : M Slot} {dds : List D} {m : M (List D)} {e : En} {P : D → En → Prop} : wp (mMakeD n1 c names F dds m) e P = wp m e fun ds e1 => ds.length = n1 ∧ wp (mNew c names F (ds ++ dds)) e1 P := by
  unfold mMakeD
  rw [wp_bind]
  refine wp_ext fun ds e1 => ?_
  by_cases h : ds.length = n1
  · rw [if_pos h]; simp [h]
  · rw [if_neg h]; simp [h]
/-- a law's end behind the word k_head -/
theorem walk_ofXK {l : PySem.W.OpenLaw} {n k : Nat} {q : Program} {loose : List Str} {XP : (Str → Option Value) → Heap → Prop} {d : DefRec} {x : Str} {K : PySem.Params → PySem.W.Frag} {as : List Addr} {e : ∀ P, as = (K P).map (·.1)}
    (fa : List He.Fa) (fn : List DefX) (ex : PySem.W.Frag → Bool)
    (hn : l.most = some n) (hn2 : n ≤ sizeLine) (hdf : d.params.defaults = []) (hr : Room k callerA) (S : ∀ P, SaysX fa fn ex (K P))
    (F : ∀ (w : World) (mg : Str → Option Value) (f : Addr) (h : Heap), (∃ K : PySem.W.Frag, K.In h ∧ SaysX fa fn ex K) → h.Ns mainGlobals mg → mg d.name = some (.ref f) →
      ∃ (K : PySem.W.Frag) (fd : FuncData) (sp : Sp), K.In h ∧ (∀ (s : Shared) (u : Value), BindsTo s fd ⟨[u], []⟩ [(x, u)]) ∧
        (∀ (H : Hp) (a : Addr) (ns : List Int), ns.length ≤ n → Only H → SqL K H a (ns.map V.int) → sp [.ref a] H (fun v _ => v = .bl true) fun _ _ _ => False) ∧
        ∀ base : Heap, K.In base → base.Ns mainGlobals mg → FnOk l.prog w K mg base (L2N.CX l.prog w) k f fd [x] sp) :
    PySem.W.WalkO q loose XP (PySem.W.kHook K as e).says l.row.toRowW d [] (fun f vs => PySem.call f vs) :=
  walk_ofX hn hn2 hdf hr fun w mg f h Y => F w mg f h ⟨_, PySem.W.kIn_of Y, S _⟩
end Eng

end
section
set_option Elab.async false
set_option linter.all false
set_option autoImplicit false
set_option maxRecDepth 100000
set_option maxHeartbeats 2000000
namespace Eng
open PySem PySem.Spec L2
open PyProof.Rows hiding St
section
variable {e : En} {l : List D} {L : List D → En → Prop} {E : Nat → List D → En → Prop}
@[simp] theorem wp_enumL : wp (dEnum2 [.lst l]) e L = L (enumD l) e := by
  show wp (M.pure (enumD l)) e L = _
  rw [wp_pure]
@[simp] theorem wp_enumT : wp (dEnum2 [.tup l]) e L = L (enumD l) e := by
  show wp (M.pure (enumD l)) e L = _
  rw [wp_pure]
@[simp] theorem wp_enumS : wp (dEnum2 [.stp l]) e L = L (enumD l) e := by
  show wp (M.pure (enumD l)) e L = _
  rw [wp_pure]
@[simp] theorem wy_enumL : wy E (dEnum2 [.lst l]) e L = L (enumD l) e := by
  show wy E (M.pure (enumD l)) e L = _
  rw [wy_pure]
@[simp] theorem wy_enumT : wy E (dEnum2 [.tup l]) e L = L (enumD l) e := by
  show wy E (M.pure (enumD l)) e L = _
  rw [wy_pure]
end
theorem wp_at {α : Type} {m m2 : M α} {e : En} {P : α → En → Prop} (h : m e = m2 e) : wp m e P = wp m2 e P := by
  rw [wp_is]
  unfold wq
  rw [h]
theorem wy_at {α : Type} {E : Nat → List D → En → Prop} {m m2 : M α} {e : En} {P : α → En → Prop} (h : m e = m2 e) : wy E m e P = wy E m2 e P := by
  rw [wy_is]
  unfold wx
  rw [h]
theorem ixB_fro {i : Nat} {m : M D} {e : En} (h : isFro i e = true) : mIxB i m e = mBin dIx (mVar i) m e := by
  unfold mIxB
  rw [if_pos h]
theorem ixB_own {i : Nat} {m : M D} {e : En} (h : ¬ isFro i e = true) : mIxB i m e = mIxO i m e := by
  unfold mIxB
  rw [if_neg h]
@[simp] theorem wp_ixB {i : Nat} {m : M D} {e : En} {P : D → En → Prop} : wp (mIxB i m) e P = if isFro i e = true then wp (mBin dIx (mVar i) m) e P else wp (mIxO i m) e P := by
  split
  · rename_i h; exact wp_at (ixB_fro h)
  · rename_i h; exact wp_at (ixB_own h)
@[simp] theorem wy_ixB {E : Nat → List D → En → Prop} {i : Nat} {m : M D} {e : En} {P : D → En → Prop} : wy E (mIxB i m) e P = if isFro i e = true then wy E (mBin dIx (mVar i) m) e P else wy E (mIxO i m) e P := by
  split
  · rename_i h; exact wy_at (ixB_fro h)
  · rename_i h; exact wy_at (ixB_own h)
@[simp] theorem isFro_z {s : Slot} {e : En} : isFro 0 (s :: e) = (match s with
    | .fro _ => true
    | _ => false) := by cases s <;> rfl
@[simp] theorem isFro_s {i : Nat} {s : Slot} {e : En} : isFro (i + 1) (s :: e) = isFro i e := rfl
/-- a loop that returns at the first thing that is told -/
theorem for_first {α : Type} {t : Tg} {body : M Fl} {xs : List D} {e : En} {P : Fl → En → Prop} (I : En → Prop) (ks : List α) (c : α → D) (r : α → Option D) (hx : xs = ks.map c) (h0 : I e)
    (hs : ∀ k e, k ∈ ks → I e → ∃ e1, t.set (c k) e = some e1 ∧ wp body e1 fun f e2 => I e2 ∧ f = match r k with
      | some v => .rt (.fro v)
      | none => .nx)
    (hn : ∀ e2, I e2 → P (match ks.findSome? r with
      | some v => .rt (.fro v)
      | none => .nx) e2) : wp (forLoop t body xs) e P := by
  subst hx
  refine for_rule (fun i e => I e ∧ (ks.take i).findSome? r = none) ⟨h0, rfl⟩ ?_ ?_
  · rintro i d e hi ⟨he, hq⟩
    rw [List.getElem?_map] at hi
    cases hk : ks[i]? with
    | none => rw [hk] at hi; cases hi
    | some k =>
      rw [hk] at hi
      obtain rfl := Option.some.inj hi
      obtain ⟨e1, h1, h2⟩ := hs k e (List.mem_of_getElem? hk) he
      refine ⟨e1, h1, wp_imp h2 ?_⟩
      rintro f e2 ⟨he2, rfl⟩
      have ht : ks.take (i + 1) = ks.take i ++ [k] := by rw [List.take_add_one, hk]; rfl
      cases hr : r k with
      | none =>
        refine ⟨he2, ?_⟩
        rw [ht, List.findSome?_append, hq]
        simp [hr]
      | some v =>
        have hv : ks.findSome? r = some v := by
          have hx : ks = ks.take i ++ ks.drop i := (List.take_append_drop i ks).symm
          have hd : ks.drop i = k :: ks.drop (i + 1) := by
            obtain ⟨hl, hg⟩ := List.getElem?_eq_some_iff.mp hk
            rw [List.drop_eq_getElem_cons hl, hg]
          rw [hx, List.findSome?_append, hq, hd]
          simp [hr]
        have := hn e2 he2
        rw [hv] at this
        exact this
  · rintro e ⟨he, hq⟩
    rw [List.length_map, List.take_length] at hq
    have := hn e he
    rw [hq] at this
    exact this
/-- a comprehension of two names over pairs, without draws -/
theorem lc_tp2 {a b : Nat} {e : En} {mc : M Bool} {me : M D} {P : List D → En → Prop} {ps : List (D × D)} (ha : e[a]? = some .emp) (hb : e[b]? = some .emp) (hne : a ≠ b) (p : D × D → Bool) (g : D × D → D)
    (hs : ∀ q ∈ ps, wp mc ((e.set a (.fro q.1)).set b (.fro q.2)) fun z e2 => z = p q ∧ (if p q = true then wp me e2 fun y e3 => y = g q ∧ (e3.set b .emp).set a .emp = e else (e2.set b .emp).set a .emp = e))
    (hn : P ((ps.filter p).map g) e) : wp (lcLoop [a, b] (.tp [a, b]) mc me (ps.map fun q => .tup [q.1, q.2]) []) e P := by
  refine lc_rule (fun i acc e' => acc = ((ps.take i).filter p).map g ∧ e' = e) ⟨by simp, rfl⟩ ?_ ?_
  · rintro i d acc e' hi ⟨rfl, rfl⟩
    rw [List.getElem?_map] at hi
    cases hq : ps[i]? with
    | none => rw [hq] at hi; cases hi
    | some q =>
      rw [hq] at hi
      obtain rfl := Option.some.inj hi
      refine ⟨_, set_tp2 ha rfl (by rw [List.getElem?_set_ne hne]; exact hb) rfl, ?_⟩
      refine wp_imp (hs q (List.mem_of_getElem? hq)) ?_
      rintro z e2 ⟨rfl, h2⟩
      have ht : ps.take (i + 1) = ps.take i ++ [q] := by rw [List.take_add_one, hq]; rfl
      cases hp : p q with
      | true =>
        rw [if_pos rfl]
        rw [hp, if_pos rfl] at h2
        refine wp_imp h2 ?_
        rintro y e3 ⟨rfl, h3⟩
        refine ⟨?_, h3⟩
        rw [ht, List.filter_append, List.map_append]
        simp [hp]
      | false =>
        rw [if_neg (by simp)]
        rw [hp, if_neg (by simp)] at h2
        refine ⟨?_, h2⟩
        rw [ht, List.filter_append, List.map_append]
        simp [hp]
  · rintro acc e' ⟨rfl, rfl⟩
    rw [List.length_map, List.take_length]
    exact hn
/-- a comprehension of one name, exact, the slots change -/
theorem lc_mapJ {α : Type} {v : Nat} {e : En} {me : M D} {xs : List D} {P : List D → En → Prop} (J : En → Prop) (ks : List α) (c g : α → D) (hx : xs = ks.map c) (h0 : J e) (hv : ∀ e, J e → e[v]? = some .emp)
    (hs : ∀ k ∈ ks, ∀ e, J e → wp me (e.set v (.fro (c k))) fun y e3 => y = g k ∧ J (e3.set v .emp)) (hn : ∀ e, J e → P (ks.map g) e) : wp (lcLoop [v] (.nm v) mYes me xs []) e P := by
  subst hx
  refine lc_rule (fun i acc e' => J e' ∧ acc = (ks.take i).map g) ⟨h0, by simp⟩ ?_ ?_
  · rintro i d acc e' hi ⟨hj, rfl⟩
    rw [List.getElem?_map] at hi
    cases hk : ks[i]? with
    | none => rw [hk] at hi; cases hi
    | some k =>
      rw [hk] at hi
      obtain rfl := Option.some.inj hi
      refine ⟨_, set_emp (hv _ hj) _, ?_⟩
      rw [wp_yes, if_pos rfl]
      refine wp_imp (hs k (List.mem_of_getElem? hk) e' hj) ?_
      rintro y e3 ⟨rfl, h4⟩
      refine ⟨h4, ?_⟩
      have ht : ks.take (i + 1) = ks.take i ++ [k] := by rw [List.take_add_one, hk]; rfl
      rw [ht, List.map_append]
      rfl
  · rintro acc e' ⟨hj, rfl⟩
    rw [List.length_map, List.take_length]
    exact hn e' hj
/-- a comprehension of two names over pairs, exact, the slots change -/
theorem lc_tp2J {α : Type} {a b : Nat} {e : En} {mc : M Bool} {me : M D} {xs : List D} {P : List D → En → Prop} (J : En → Prop) (ks : List α) (c1 c2 : α → D) (p : α → Bool) (g : α → D) (hx : xs = ks.map fun k => .tup [c1 k, c2 k]) (h0 : J e)
    (hv : ∀ e, J e → e[a]? = some .emp ∧ e[b]? = some .emp) (hne : a ≠ b)
    (hs : ∀ k ∈ ks, ∀ e, J e → wp mc ((e.set a (.fro (c1 k))).set b (.fro (c2 k))) fun z e2 => z = p k ∧ (if p k = true then wp me e2 fun y e3 => y = g k ∧ J ((e3.set b .emp).set a .emp) else J ((e2.set b .emp).set a .emp)))
    (hn : ∀ e, J e → P ((ks.filter p).map g) e) : wp (lcLoop [a, b] (.tp [a, b]) mc me xs []) e P := by
  subst hx
  refine lc_rule (fun i acc e' => J e' ∧ acc = ((ks.take i).filter p).map g) ⟨h0, by simp⟩ ?_ ?_
  · rintro i d acc e' hi ⟨hj, rfl⟩
    rw [List.getElem?_map] at hi
    cases hq : ks[i]? with
    | none => rw [hq] at hi; cases hi
    | some q =>
      rw [hq] at hi
      obtain rfl := Option.some.inj hi
      obtain ⟨ha, hb⟩ := hv _ hj
      refine ⟨_, set_tp2 ha rfl (by rw [List.getElem?_set_ne hne]; exact hb) rfl, ?_⟩
      refine wp_imp (hs q (List.mem_of_getElem? hq) e' hj) ?_
      rintro z e2 ⟨rfl, h2⟩
      have ht : ks.take (i + 1) = ks.take i ++ [q] := by rw [List.take_add_one, hq]; rfl
      cases hp : p q with
      | true =>
        rw [if_pos rfl]
        rw [hp, if_pos rfl] at h2
        refine wp_imp h2 ?_
        rintro y e3 ⟨rfl, h3⟩
        refine ⟨h3, ?_⟩
        rw [ht, List.filter_append, List.map_append]
        simp [hp]
      | false =>
        rw [if_neg (by simp)]
        rw [hp, if_neg (by simp)] at h2
        refine ⟨h2, ?_⟩
        rw [ht, List.filter_append, List.map_append]
        simp [hp]
  · rintro acc e' ⟨hj, rfl⟩
    rw [List.length_map, List.take_length]
    exact hn e' hj
end Eng

end
section
set_option Elab.async false
set_option linter.all false
set_option autoImplicit false
set_option maxRecDepth 100000
set_option maxHeartbeats 2000000
namespace Eng
open PySem PySem.Spec L2
open PyProof.Rows hiding St
section
variable {e : En} {E : Nat → List D → En → Prop}
theorem wy_callV2 {F : M Slot} {ds : List D} {P : Slot → En → Prop} : wy E (mCallV F ds) e P = wy (fun c fs _ => E c fs e) F (ds.map .fro) fun s _ => P s e := by
  rw [wy_is]
  unfold wx mCallV
  cases F (ds.map .fro) <;> rfl
@[simp] theorem wp_callKw {n1 n2 : Nat} {F : M Slot} {bd : List D → List D → List D} {m k : M (List D)} {P : Slot → En → Prop} : wp (mCallKw n1 n2 F bd m k) e P = wp m e fun ds e1 => wp k e1 fun es e2 => (ds.length = n1 ∧ es.length = n2) ∧ wp F ((bd ds es).map .fro) fun s _ => P s e2 := by
  unfold mCallKw
  rw [wp_bind]
  refine wp_ext fun ds e1 => ?_
  rw [wp_bind]
  refine wp_ext fun es e2 => ?_
  by_cases h : ds.length = n1 ∧ es.length = n2
  · rw [if_pos h]; simp [h]
  · rw [if_neg h]; simp [h]
@[simp] theorem wy_callKw {n1 n2 : Nat} {F : M Slot} {bd : List D → List D → List D} {m k : M (List D)} {P : Slot → En → Prop} : wy E (mCallKw n1 n2 F bd m k) e P = wy E m e fun ds e1 => wy E k e1 fun es e2 => (ds.length = n1 ∧ es.length = n2) ∧ wy (fun c fs _ => E c fs e2) F ((bd ds es).map .fro) fun s _ => P s e2 := by
  unfold mCallKw
  rw [wy_bind]
  refine wy_ext fun ds e1 => ?_
  rw [wy_bind]
  refine wy_ext fun es e2 => ?_
  by_cases h : ds.length = n1 ∧ es.length = n2
  · rw [if_pos h, wy_callV2]; simp [h]
  · rw [if_neg h]; simp [h]
@[simp] theorem wp_str {i : Int} {P : D → En → Prop} : wp (dStr [.int i]) e P = (cStr i = true ∧ P (.str (strN i)) e) := by
  show wp (if cStr i = true then M.pure (.str (strN i)) else bad) e P = _
  by_cases h : cStr i = true
  · rw [if_pos h]; simp [h]
  · rw [if_neg h]; simp [h]
end
/-- small numbers -/
theorem cStr_small {i : Int} (h0 : -1000000 ≤ i) (h1 : i ≤ 1000000) : cStr i = true := by
  unfold cStr
  rw [Bool.and_eq_true_iff]
  refine ⟨by simp [c62]; omega, ?_⟩
  rw [decide_eq_true_eq]
  have a : i.natAbs ≤ 1000000 := by omega
  by_cases z : i.natAbs = 0
  · rw [z]; decide
  · have q := (Nat.log2_lt z (k := 20)).mpr (by omega)
    omega
end Eng

end
section
set_option Elab.async false
set_option linter.all false
set_option autoImplicit false
set_option maxRecDepth 100000
set_option maxHeartbeats 2000000
namespace Eng
open PySem PySem.Spec L2
open PyProof.Rows hiding St
/-! ### what simp leaves alone -/
structure HushP (p : Prop) : Type where
@[irreducible] def Kp (p : Prop) (x : HushP p := ⟨⟩) : Prop := p
theorem kp {p : Prop} (h : p) : Kp p := by unfold Kp; exact h
theorem kp_out {p : Prop} (h : Kp p) : p := by unfold Kp at h; exact h
theorem wp_kp {α : Type} {m : M α} {e : En} {P : α → En → Prop} (h : wp m e fun a e => Kp (P a e)) : wp m e P := wp_imp h fun _ _ => kp_out
theorem wp_det {α : Type} {m : M α} {e : En} {P : α → En → Prop} {r : α} {e2 : En} (h : wp m e fun s e => s = r ∧ e = e2) : wp m e P = P r e2 := by
  refine propext ⟨fun q => ?_, fun q => wp_imp h fun s e k => by obtain ⟨rfl, rfl⟩ := k; exact q⟩
  obtain ⟨a, e1, h1, rfl, rfl⟩ := wp_ok h
  obtain ⟨a, e3, h2, h3⟩ := wp_ok q
  rw [h1] at h2
  cases h2
  exact h3
section
variable {body : M Fl} {xs : List D} {e : En} {P : Fl → En → Prop} {t : Tg}
/-- a loop that may return -/
theorem forR (I : Nat → En → Prop) (h0 : I 0 e)
    (hs : ∀ i d e, xs[i]? = some d → I i e → ∃ e1, t.set d e = some e1 ∧ wp body e1 fun f e2 => match f with
      | .nx => Kp (I (i + 1) e2)
      | .ct => Kp (I (i + 1) e2)
      | .bk => P .nx e2
      | .rt s => P (.rt s) e2) (hn : ∀ e, I xs.length e → P .nx e) : wp (forLoop t body xs) e P := by
  refine for_rule I h0 (fun i d e hi hI => ?_) hn
  obtain ⟨e1, h1, h2⟩ := hs i d e hi hI
  refine ⟨e1, h1, wp_imp h2 fun f e2 h => ?_⟩
  cases f with
  | nx => exact kp_out h
  | ct => exact kp_out h
  | bk => exact h
  | rt s => exact h
theorem forRv {v : Nat} (I : Nat → En → Prop) (h0 : I 0 e) (hv : ∀ i e, I i e → ∃ s, e[v]? = some s ∧ noIo s = true)
    (hs : ∀ i d e, xs[i]? = some d → I i e → wp body (e.set v (.fro d)) fun f e2 => match f with
      | .nx => Kp (I (i + 1) e2)
      | .ct => Kp (I (i + 1) e2)
      | .bk => P .nx e2
      | .rt s => P (.rt s) e2) (hn : ∀ e, I xs.length e → P .nx e) : wp (forLoop (.nm v) body xs) e P := by
  refine forR I h0 (fun i d e hi hI => ?_) hn
  obtain ⟨s, h1, h2⟩ := hv i e hI
  exact ⟨e.set v (.fro d), by rw [tgset_nm, h1]; simp [h2], hs i d e hi hI⟩
theorem forK {v : Nat} (I : Nat → En → Prop) (h0 : I 0 e) (hv : ∀ i e, I i e → ∃ s, e[v]? = some s ∧ noIo s = true)
    (hs : ∀ i d e, xs[i]? = some d → I i e → wp body (e.set v (.fro d)) fun f e2 => f = .nx ∧ Kp (I (i + 1) e2)) (hn : ∀ e, I xs.length e → P .nx e) : wp (forLoop (.nm v) body xs) e P :=
  forI I h0 hv (fun i d e hi hI => wp_imp (hs i d e hi hI) fun f e2 h => ⟨h.1, kp_out h.2⟩) hn
theorem rangeD_nat {n : Nat} : rangeD 0 n = (List.range n).map fun i => .int (i : Nat) := by
  unfold rangeD
  apply List.map_congr_left
  intro i hi
  rw [Int.zero_add]
theorem rangeD_up {a m : Nat} : rangeD ((a : Int) + 1) m = ((List.range m).map fun j => a + 1 + j).map fun i => D.int (i : Nat) := by
  unfold rangeD
  rw [List.map_map]
  apply List.map_congr_left
  intro i hi
  show D.int _ = D.int _
  congr 1
theorem rangeD_len0 {n : Nat} : (rangeD 0 n).length = n := rangeD_len 0 n
/-- loops over range(n) -/
theorem forKn {v n : Nat} (I : Nat → En → Prop) (h0 : I 0 e) (hv : ∀ i e, I i e → ∃ s, e[v]? = some s ∧ noIo s = true)
    (hs : ∀ i e, i < n → I i e → wp body (e.set v (.fro (.int (i : Nat)))) fun f e2 => f = .nx ∧ Kp (I (i + 1) e2)) (hn : ∀ e, I n e → P .nx e) : wp (forLoop (.nm v) body (rangeD 0 n)) e P :=
  forK I h0 hv (fun i d e hi hI => by obtain ⟨h1, rfl⟩ := rng_get hi; exact hs i e h1 hI) fun e h => hn e (by rw [rangeD_len0] at h; exact h)
theorem forRn {v n : Nat} (I : Nat → En → Prop) (h0 : I 0 e) (hv : ∀ i e, I i e → ∃ s, e[v]? = some s ∧ noIo s = true)
    (hs : ∀ i e, i < n → I i e → wp body (e.set v (.fro (.int (i : Nat)))) fun f e2 => match f with
      | .nx => Kp (I (i + 1) e2)
      | .ct => Kp (I (i + 1) e2)
      | .bk => P .nx e2
      | .rt s => P (.rt s) e2) (hn : ∀ e, I n e → P .nx e) : wp (forLoop (.nm v) body (rangeD 0 n)) e P :=
  forRv I h0 hv (fun i d e hi hI => by obtain ⟨h1, rfl⟩ := rng_get hi; exact hs i e h1 hI) fun e h => hn e (by rw [rangeD_len0] at h; exact h)
end
/-- a comprehension over range(n) that draws -/
theorem lc_rangeK {v n : Nat} {e : En} {me : M D} {P : List D → En → Prop} (J : En → Prop) (Y : Nat → D → Prop) (h0 : J e) (hv : ∀ e, J e → e[v]? = some .emp)
    (hs : ∀ (i : Nat) e, i < n → J e → wp me (e.set v (.fro (.int (i : Nat)))) fun y e3 => Kp (Y i y ∧ J (e3.set v .emp)))
    (hn : ∀ acc e, J e → acc.length = n → (∀ i d, acc[i]? = some d → Y i d) → P acc e) : wp (lcLoop [v] (.nm v) mYes me (rangeD 0 n) []) e P := by
  refine lc_rule (fun i acc e' => J e' ∧ acc.length = i ∧ ∀ k d, acc[k]? = some d → Y k d) ⟨h0, rfl, fun k d z => by simp at z⟩ ?_ ?_
  · rintro i d acc e' hi ⟨hj, hl, hy⟩
    obtain ⟨h1, rfl⟩ := rng_get hi
    refine ⟨_, set_emp (hv _ hj) _, ?_⟩
    rw [wp_yes, if_pos rfl]
    refine wp_imp (hs i e' h1 hj) ?_
    intro y e3 h
    obtain ⟨h3, h4⟩ := kp_out h
    refine ⟨h4, by simp; exact hl, fun k d z => ?_⟩
    by_cases q : k < acc.length
    · rw [List.getElem?_append_left q] at z; exact hy k d z
    · rw [List.getElem?_append_right (by omega)] at z
      have e0 : k - acc.length = 0 := by
        obtain ⟨h5, _⟩ := List.getElem?_eq_some_iff.mp z
        simp at h5; omega
      rw [e0] at z
      have e2 : y = d := by simpa using z
      have e3 : k = i := by omega
      rw [← e2, e3]; exact h3
  · rintro acc e' ⟨hj, hl, hy⟩
    rw [rangeD_len0] at hl
    exact hn acc e' hj hl hy
@[simp] theorem mine_fro {d : D} : Slot.mine (.fro d) = false := rfl
@[simp] theorem mine_emp : Slot.mine .emp = false := rfl
@[simp] theorem mine_own {l : Ob} : Slot.mine (.own l) = true := rfl
@[simp] theorem mine_io {l : Ob} : Slot.mine (.io l) = true := rfl
@[simp] theorem putArgs_4 {a b c d : D} {args e : En} : putArgs [.v a, .v b, .v c, .v d] args e = e := agv_put (ds := [a, b, c, d])
@[simp] theorem putArgs_5 {a b c d f : D} {args e : En} : putArgs [.v a, .v b, .v c, .v d, .v f] args e = e := agv_put (ds := [a, b, c, d, f])
@[simp] theorem putArgs_6 {a b c d f g : D} {args e : En} : putArgs [.v a, .v b, .v c, .v d, .v f, .v g] args e = e := agv_put (ds := [a, b, c, d, f, g])
theorem find_none {α β : Type} {l : List α} : (l.findSome? fun _ => (none : Option β)) = none := by
  induction l with
  | nil => rfl
  | cons a l ih => simp
theorem enum_map {α : Type} {n : Nat} {g : Nat → D} : enumD ((List.range n).map g) = (List.range n).map fun i => .tup [.int (i : Nat), g i] := by
  unfold enumD
  apply List.ext_getElem?
  intro i
  rw [List.getElem?_mapIdx, List.getElem?_map, List.getElem?_map]
  by_cases q : i < n
  · rw [List.getElem?_range q]; rfl
  · rw [List.getElem?_eq_none (by simp; omega)]; rfl
@[simp] theorem atI_8 {α : Type} {l : List α} : atI l 8 = l[8]? := atI_nat (k := 8)
@[simp] theorem atI_9 {α : Type} {l : List α} : atI l 9 = l[9]? := atI_nat (k := 9)
@[simp] theorem atI_10 {α : Type} {l : List α} : atI l 10 = l[10]? := atI_nat (k := 10)
@[simp] theorem atI_11 {α : Type} {l : List α} : atI l 11 = l[11]? := atI_nat (k := 11)
@[simp] theorem atI_12 {α : Type} {l : List α} : atI l 12 = l[12]? := atI_nat (k := 12)
@[simp] theorem atI_13 {α : Type} {l : List α} : atI l 13 = l[13]? := atI_nat (k := 13)
@[simp] theorem atI_14 {α : Type} {l : List α} : atI l 14 = l[14]? := atI_nat (k := 14)
@[simp] theorem atI_15 {α : Type} {l : List α} : atI l 15 = l[15]? := atI_nat (k := 15)
end Eng

end
section
set_option Elab.async false
set_option linter.all false
set_option maxRecDepth 100000
set_option maxHeartbeats 4000000
namespace L36
open PySem PySem.Spec L2 Eng
open PyProof.Rows hiding St
theorem mix_spec (a b : Int) : wp m_law_mix [.fro (.int a), .fro (.int b)] fun s e => (∃ k : Int, s = .fro (.int k)) ∧ e = [.fro (.int a), .fro (.int b)] := by
  unfold m_law_mix b_law_mix
  simp [cDiv, cSmall]
  constructor <;> omega
theorem take_spec {l : List D} (h : Stor l) (m : Int) (hm : m < 2 ^ 64) : wp m_law_take [.io (.l l), .fro (.int m)] fun s e => ∃ (k : Int) (l' : List D), s = .fro (.int k) ∧ e = [.io (.l l'), .fro (.int m)] ∧ Stor l' ∧ 0 ≤ k ∧ (k < m ∨ m < 2 ∧ k = 0) := by
  unfold m_law_take b_law_take
  have hc : cDiv m = true ∨ m < 2 := by simp [cDiv]; omega
  rw [wp_fn]
  by_cases h2 : m < 2
  · obtain ⟨cs, n, a, b, c, d, f, rfl⟩ := h
    simp [cDiv, cSmall, h2]
  have hc : cDiv m = true := hc.resolve_right h2
  have hp : 0 < m := by omega
  rw [wp_seq]
  have e1 : ∀ P : Fl → En → Prop, P .nx [.io (.l l), .fro (.int m), .emp, .emp] → wp (mIf (mTst (mBin dLt (mVar 1) (M.pure (.int 2)))) (mRet (mFro (M.pure (.int 0)))) mNext) [.io (.l l), .fro (.int m), .emp, .emp] P := fun P h => by simp [h2]; exact h
  refine e1 _ ?_
  dsimp only
  rw [wp_seq]
  refine wp_imp (P := fun f e => f = .nx ∧ ∃ (l' : List D) (s : Slot), e = [.io (.l l'), .fro (.int m), s, .emp] ∧ Stor l') ?_ ?_
  · obtain ⟨cs, n, a, b, c, d, f, rfl⟩ := h
    simp
    by_cases q1 : a < 1
    · by_cases q2 : c < 1
      · by_cases q3 : n < cs.length
        · simp [q1, q2, q3]
          refine wp_imp (mix_spec _ _) ?_
          rintro s e ⟨⟨k, rfl⟩, rfl⟩
          simp [cSmall]
        · simp [q1, q2, q3]
      · simp [q1, q2]
    · simp [q1]
  · rintro f e ⟨rfl, l', s, rfl, h⟩
    obtain ⟨cs, n, a, b, c, d, f, rfl⟩ := h
    have m1 := fun z => Int.emod_nonneg z (show m ≠ 0 by omega)
    have m2 := fun z => Int.emod_lt_of_pos z hp
    by_cases q1 : 0 < a
    · simp [q1, hp, hc, m1, m2]
    · by_cases q2 : 0 < c
      · simp [q1, q2]
        refine wp_imp (mix_spec _ _) ?_
        rintro s e ⟨⟨k, rfl⟩, rfl⟩
        simp [hp, cDiv, m1, m2]
      · simp [q1, q2]
        refine wp_imp (mix_spec _ _) ?_
        rintro s e ⟨⟨k, rfl⟩, rfl⟩
        simp [hp, cDiv, m1, m2]
end L36

end
section
set_option Elab.async false
set_option linter.all false
set_option maxRecDepth 100000
set_option maxHeartbeats 4000000
namespace L36
open PySem PySem.Spec L2 Eng
open PyProof.Rows hiding St
theorem store_spec (ns : List Int) (hl : ns.length ≤ 63) : wp m_law_store [.fro (.scr ns)] fun s e => ∃ l, (s = .own (.l l) ∧ e = [.fro (.scr ns)]) ∧ Stor l := by
  unfold m_law_store b_law_store
  have e0 : Eng.cutD (List.map D.int ns) none (some 63) = ns.map D.int := by
    unfold Eng.cutD
    have h2 : HT.sIx (ns.map D.int).length (ns.map D.int).length (some 63) = min 63 (ns.map D.int).length := HT.sIx_nat _ _ 63
    rw [h2, HT.sIx_none]
    simp [List.take_of_length_le, hl]
  simp
  rw [e0]
  refine ⟨by simp; omega, lc_map rfl (fun d => d) (fun d hd => ?_) ?_⟩
  · obtain ⟨i, hi, rfl⟩ := List.mem_map.mp hd
    simp
  · simp
    exact ⟨ns, 0, 0, 0, 0, _, 0, rfl⟩
theorem side_spec {l : List D} (hl : Stor l) (m : Int) (hm : 0 ≤ m ∧ m ≤ 100) : wp m_law_side [.io (.l l), .fro (.int m)] fun s e => ∃ (k : Nat) (l' : List D), s = .fro (.int k) ∧ e = [.io (.l l'), .fro (.int m)] ∧ Stor l' ∧ k ≤ m := by
  unfold m_law_side b_law_side
  simp
  refine wp_imp (take_spec hl _ (by decide)) ?_
  rintro s e ⟨k, l', rfl, rfl, hl', h0, h1⟩
  simp
  by_cases q1 : k = 0
  · simp [q1, hl']
    exact ⟨m.toNat, by omega, by omega⟩
  · by_cases q2 : k = 1
    · simp [q2, hl']
      refine wp_imp (take_spec hl' _ (by omega)) ?_
      rintro s e ⟨k, l', rfl, rfl, hl', h0, h1⟩
      simp [hl']
      exact ⟨k.toNat, by omega, by omega⟩
    · simp [q1, q2]
      refine wp_imp (take_spec hl' _ (by split <;> omega)) ?_
      rintro s e ⟨k, l', rfl, rfl, hl', h0, h1⟩
      simp [hl']
      exact ⟨k.toNat, by omega, by split at h1 <;> omega⟩
theorem sizes_spec {l : List D} (hl : Stor l) (m n : Int) (hm : 0 ≤ m ∧ m ≤ 100) (hn : 0 ≤ n ∧ n ≤ 100) : wp m_law_sizes [.io (.l l), .fro (.int m), .fro (.int n)] fun s e => ∃ (a b : Nat) (l' : List D), s = .own (.l [.int a, .int b]) ∧ e = [.io (.l l'), .fro (.int m), .fro (.int n)] ∧ Stor l' ∧ a ≤ m ∧ b ≤ n := by
  unfold m_law_sizes b_law_sizes
  simp
  refine wp_imp (side_spec hl m hm) ?_
  rintro s e ⟨k, l', rfl, rfl, hl', hk⟩
  simp
  refine wp_imp (take_spec hl' _ (by decide)) ?_
  rintro s e ⟨z, l', rfl, rfl, hl', h0, h1⟩
  simp
  by_cases q1 : z = 0
  · simp [q1, hl']
    exact ⟨min k n.toNat, min k n.toNat, by constructor <;> split <;> omega, by omega, by omega⟩
  · simp [q1]
    refine wp_imp (side_spec hl' n hn) ?_
    rintro s e ⟨k2, l', rfl, rfl, hl', hk2⟩
    simp [hl']
    exact ⟨k, k2, ⟨rfl, rfl⟩, hk, hk2⟩
theorem pick_spec {l : List D} (hl : Stor l) (xs : List D) (hx : xs ≠ []) (hb : xs.length ≤ 1000) : wp m_law_pick [.io (.l l), .fro (.lst xs)] fun s e => ∃ (d : D) (l' : List D), s = .fro d ∧ e = [.io (.l l'), .fro (.lst xs)] ∧ Stor l' ∧ d ∈ xs := by
  unfold m_law_pick b_law_pick
  simp [hx]
  refine wp_imp (take_spec hl _ (by omega)) ?_
  rintro s e ⟨z, l', rfl, rfl, hl', h0, h1⟩
  obtain ⟨k, rfl⟩ := Int.eq_ofNat_of_zero_le h0
  have hk : k < xs.length := by
    have := List.length_pos_iff.mpr hx
    omega
  simp [hk, hl']
theorem between_spec {l : List D} (hl : Stor l) (a b : Int) (hm : 0 ≤ a ∧ a ≤ b ∧ b ≤ 100) : wp m_law_between [.io (.l l), .fro (.int a), .fro (.int b)] fun s e => ∃ (k : Nat) (l' : List D), s = .fro (.int k) ∧ e = [.io (.l l'), .fro (.int a), .fro (.int b)] ∧ Stor l' ∧ a ≤ k ∧ k ≤ b := by
  unfold m_law_between b_law_between
  simp
  by_cases q : b ≤ a
  · simp [q, hl]
    exact ⟨a.toNat, by omega, by omega, by omega⟩
  · simp [q]
    refine wp_imp (take_spec hl _ (by decide)) ?_
    rintro s e ⟨k, l', rfl, rfl, hl', h0, h1⟩
    simp
    by_cases q1 : k = 0
    · simp [q1, hl']
      exact ⟨a.toNat, by omega, by omega, by omega⟩
    · by_cases q2 : k = 1
      · simp [q2, hl']
        exact ⟨b.toNat, by omega, by omega, by omega⟩
      · simp [q1, q2]
        refine wp_imp (take_spec hl' _ (by omega)) ?_
        rintro s e ⟨k, l', rfl, rfl, hl', h0, h1⟩
        simp [hl']
        exact ⟨(a + k).toNat, by omega, by omega, by omega⟩
end L36

end
section
set_option Elab.async false
set_option linter.all false
set_option maxRecDepth 100000
set_option maxHeartbeats 4000000
namespace L36
open PySem PySem.Spec L2 Eng
open PyProof.Rows hiding St
theorem lot_spec {l : List D} (hl : Stor l) (m : Nat) (hm : m ≤ 100) : wp m_law_lot [.io (.l l), .fro (.int m)] fun s e => ∃ (d : D) (l' : List D), s = .fro d ∧ e = [.io (.l l'), .fro (.int m)] ∧ Stor l' ∧ IsLot m d := by
  unfold m_law_lot b_law_lot
  simp
  refine wp_imp (take_spec hl _ (by decide)) ?_
  rintro s e ⟨z, l', rfl, rfl, hl', h0, h1⟩
  simp
  by_cases q1 : z = 0
  · simp [q1, hl', lot_nil]
  · by_cases q2 : z = 1
    · simp [q2]
      refine ⟨by omega, by omega, lc_range rfl (fun i => .int i) (fun i hi => ?_) ?_⟩
      · simp
      · simp [hl']
        exact lot_range (by omega)
    · by_cases q3 : z = 2
      · subst q3
        simp
        refine wp_imp (take_spec hl' _ (by omega)) ?_
        rintro s e ⟨sp, l', rfl, rfl, hl', h0, h1⟩
        simp
        refine ⟨by omega, by omega, lc_rangeF rfl (fun i => decide ((i : Int) = sp)) (fun i => .int i) (fun i hi => ?_) ?_⟩
        · simp
        · simp [hl']
          exact lot_filt (n := m) (fun i => decide ((i : Int) = sp)) (by omega)
      · by_cases q4 : z = 3
        · subst q4
          simp
          refine wp_imp (take_spec hl' _ (by omega)) ?_
          rintro s e ⟨sp, l', rfl, rfl, hl', h0, h1⟩
          simp
          refine ⟨by omega, by omega, lc_rangeF rfl (fun i => !decide ((i : Int) = sp)) (fun i => .int i) (fun i hi => ?_) ?_⟩
          · simp
          · simp [hl']
            exact lot_filt (n := m) (fun i => !decide ((i : Int) = sp)) (by omega)
        · have q5 : ¬ z < 4 := by omega
          simp [q1, q2, q3, q4, q5]
          refine ⟨by omega, by omega, lc_inv (fun e => ∃ l', e = [.io (.l l'), .fro (.int m), .fro (.int z), .fro (.int 0), .emp] ∧ Stor l') (fun y => ∃ k : Nat, k < m ∧ y = .int (k : Nat)) ⟨_, rfl, hl'⟩ ?_ ?_ ?_⟩
          · rintro e ⟨l', rfl, _⟩; rfl
          · rintro d hd e ⟨l', rfl, hl'⟩
            obtain ⟨k, hk, rfl⟩ := mem_range hd
            simp
            refine wp_imp (take_spec hl' _ (by decide)) ?_
            rintro s e ⟨z, l', rfl, rfl, hl', h0, h1⟩
            simp
            split
            · simp [hl']; exact ⟨k, by omega, rfl⟩
            · exact hl'
          · rintro acc e ⟨l', rfl, hl'⟩ hlen hy
            simp [hl']
            exact lot_of (by simp at hlen; omega) hy
end L36

end
section
set_option Elab.async false
set_option linter.all false
set_option maxRecDepth 100000
set_option maxHeartbeats 4000000
namespace L36
open PySem PySem.Spec L2 Eng
open PyProof.Rows hiding St
theorem of_spec (lots : List D) (w lim : Nat) (hw : w ≤ 100) (hn : lots.length ≤ 1000) (hl : ∀ d ∈ lots, IsLot lim d) : wp m_law_of [.fro (.lst lots), .fro (.int w)] fun s e => s = .fro (.tup [.str "table", .int lots.length, .int w, .tup (lots.map (rowOf w))]) ∧ e = [.fro (.lst lots), .fro (.int w)] := by
  unfold m_law_of b_law_of
  simp
  refine forI (fun i e => ∃ (s : Slot), noIo s = true ∧ e = [.fro (.lst lots), .fro (.int w), .own (.l ((lots.take i).map (rowOf w))), s, .emp]) ⟨.emp, rfl, rfl⟩ ?_ ?_ ?_
  · rintro i e ⟨s, h, rfl⟩; exact ⟨s, rfl, h⟩
  · rintro i d e hi ⟨s, h, rfl⟩
    simp
    refine ⟨by omega, by omega, lc_range rfl (fun j => .bl (inB j d)) (fun j hj => ?_) ?_⟩
    · simp
      rw [in_of (hl d (List.mem_of_getElem? hi))]
    · simp
      refine ⟨by omega, ?_⟩
      have e1 : (lots.map (rowOf w)).take (i + 1) = (lots.take i).map (rowOf w) ++ [rowOf w d] := by rw [← List.map_take, take_succ_get hi, List.map_append]; rfl
      rw [e1]
      simp [rowOf, rowD]
  · rintro e ⟨s, h, rfl⟩
    simp
theorem join_spec (lots : List D) (lim : Nat) (hn : lots.length ≤ 100000) (hl : ∀ d ∈ lots, IsLot lim d) : wp m_law_join [.fro (.lst lots)] fun s e => ∃ d, s = .fro d ∧ e = [.fro (.lst lots)] ∧ IsLot lim d := by
  unfold m_law_join b_law_join
  simp
  refine forI (fun i e => ∃ (s : Slot) (acc : List D), noIo s = true ∧ e = [.fro (.lst lots), .own (.l acc), s, .emp] ∧ acc.length ≤ i ∧ ∀ y ∈ acc, ∃ k : Nat, k < lim ∧ y = .int (k : Nat)) ⟨.emp, [], rfl, rfl, by simp, fun _ z => nomatch z⟩ ?_ ?_ ?_
  · rintro i e ⟨s, acc, h, rfl, _⟩; exact ⟨s, rfl, h⟩
  · rintro i d e hi ⟨s, acc, h, rfl, ha, hy⟩
    obtain ⟨hk, rfl⟩ := rangeD_get hi
    simp
    refine ⟨by omega, lc_map rfl (fun d => .bl (inB i d)) (fun d hd => ?_) ?_⟩
    · simp
      rw [in_of (hl d hd)]
    · simp
      split
      · rename_i hb
        obtain ⟨d, hd, hp⟩ := hb
        refine ⟨by omega, .fro (.int i), rfl, acc ++ [.int i], ⟨rfl, rfl⟩, by simp; omega, fun y hy2 => ?_⟩
        rcases List.mem_append.mp hy2 with q | q
        · exact hy y q
        · exact ⟨i, inB_lt (hl d hd) hp, List.mem_singleton.mp q⟩
      · exact ⟨.fro (.int i), rfl, acc, ⟨rfl, rfl⟩, by omega, hy⟩
  · rintro e ⟨s, acc, h, rfl, ha, hy⟩
    simp at ha
    simp
    exact lot_of (by omega) hy
theorem turn_spec (h w : Nat) (f : Nat → Nat → Bool) (hh : h ≤ 100) (hw : w ≤ 100) : wp m_law_turn [.fro (gridD h w f)] fun s e => s = .fro (gridD w h fun i j => f j i) ∧ e = [.fro (gridD h w f)] := by
  unfold m_law_turn b_law_turn gridD
  simp
  refine ⟨by omega, forI (fun i e => ∃ (s : Slot), noIo s = true ∧ e = [.fro (gridD h w f), .own (.l (rowsD i h fun i j => f j i)), s, .emp]) ⟨.emp, rfl, rfl⟩ ?_ ?_ ?_⟩
  · rintro i e ⟨s, h, rfl⟩; exact ⟨s, rfl, h⟩
  · rintro i d e hi ⟨s, h, rfl⟩
    obtain ⟨hk, rfl⟩ := rangeD_get hi
    unfold gridD
    simp [rowsD_len]
    refine ⟨by omega, lc_map rfl (fun d => match d with | .tup l => (l[i]?).getD .non | _ => .non) (fun d hd => ?_) ?_⟩
    · obtain ⟨r, hr, rfl⟩ := mem_rows hd
      unfold rowD
      simp [hk]
    · simp [rowsD_len]
      refine ⟨by omega, ?_⟩
      unfold rowsD
      rw [List.range_succ, List.map_append]
      simp [rowD, hk]
  · rintro e ⟨s, h, rfl⟩
    unfold gridD
    simp
theorem lots_spec (h w : Nat) (f : Nat → Nat → Bool) (hh : h ≤ 100) (hw : w ≤ 100) : wp m_law_lots [.fro (gridD h w f)] fun s e => ∃ lots, s = .own (.l lots) ∧ e = [.fro (gridD h w f)] ∧ lots.length = h ∧ ∀ d ∈ lots, IsLot w d := by
  unfold m_law_lots b_law_lots gridD
  simp
  refine forI (fun i e => ∃ (s : Slot) (acc : List D), noIo s = true ∧ e = [.fro (gridD h w f), .own (.l acc), s, .emp] ∧ acc.length = i ∧ ∀ d ∈ acc, IsLot w d) ⟨.emp, [], rfl, rfl, rfl, fun _ z => nomatch z⟩ ?_ ?_ ?_
  · rintro i e ⟨s, acc, h, rfl, _⟩; exact ⟨s, rfl, h⟩
  · intro i d e hi hI
    obtain ⟨s, acc, hs, he, hl, hy⟩ := hI
    subst he
    have hr := (rowsD_inv hi).1
    have he := (rowsD_inv hi).2
    subst he
    unfold gridD rowD
    simp
    refine ⟨by omega, by omega, lc_rangeF rfl (fun j => f i j) (fun j => .int j) (fun j hj => ?_) ?_⟩
    · simp [hj]
    · simp
      refine ⟨by omega, .fro (rowD w (f i)), rfl, acc ++ [.tup (((List.range w).filter fun j => f i j).map fun j => .int (j : Nat))], ⟨rfl, rfl⟩, by simp [hl], fun z hz => ?_⟩
      rcases List.mem_append.mp hz with q | q
      · exact hy z q
      · rw [List.mem_singleton.mp q]; exact lot_filt _ (by omega)
  · rintro e ⟨s, acc, h, rfl, hl, hy⟩
    simp [rowsD_len] at hl
    unfold gridD
    simp [hl]
    exact hy
theorem not_spec (hh0 w : Nat) (f : Nat → Nat → Bool) (hh : hh0 ≤ 100) (hw : w ≤ 100) : wp m_law_not [.fro (gridD hh0 w f)] fun s e => s = .fro (gridD hh0 w fun i j => !f i j) ∧ e = [.fro (gridD hh0 w f)] := by
  unfold m_law_not b_law_not gridD
  simp
  refine forI (fun i e => ∃ (s : Slot), noIo s = true ∧ e = [.fro (gridD hh0 w f), .own (.l (rowsD i w fun i j => !f i j)), s, .emp]) ⟨.emp, rfl, rfl⟩ ?_ ?_ ?_
  · rintro i e ⟨s, h, rfl⟩; exact ⟨s, rfl, h⟩
  · rintro i d e hi ⟨s, h, rfl⟩
    have hk := (rowsD_inv hi).1
    have he := (rowsD_inv hi).2
    subst he
    unfold gridD rowD
    simp
    refine ⟨by omega, lc_map rfl (fun d => match d with | .bl b => .bl (!b) | d => d) (fun d hd => ?_) ?_⟩
    · obtain ⟨j, hj, rfl⟩ := List.mem_map.mp hd
      simp
    · simp [rowsD_len]
      refine ⟨by omega, ?_⟩
      unfold rowsD
      rw [List.range_succ, List.map_append]
      simp [rowD]
  · rintro e ⟨s, h, rfl⟩
    unfold gridD
    simp [rowsD_len]
end L36

end
section
set_option Elab.async false
set_option linter.all false
set_option maxRecDepth 100000
set_option maxHeartbeats 4000000
namespace L36
open PySem PySem.Spec L2 Eng
open PyProof.Rows hiding St
theorem free_spec {l : List D} (hl : Stor l) (h w : Nat) (hh : h ≤ 100) (hw : w ≤ 100) : wp m_law_free [.io (.l l), .fro (.int h), .fro (.int w)] fun s e => ∃ (d : D) (l' : List D), s = .fro d ∧ e = [.io (.l l'), .fro (.int h), .fro (.int w)] ∧ Stor l' ∧ IsG h w d := by
  unfold m_law_free b_law_free
  simp
  refine wp_imp (take_spec hl _ (by decide)) ?_
  rintro s e ⟨z, l', rfl, rfl, hl', h0, h1⟩
  simp
  refine ⟨by omega, forI (fun i e => ∃ (l' : List D) (s : Slot) (acc : List D), e = [.io (.l l'), .fro (.int h), .fro (.int w), .fro (.int z), .own (.l acc), s, .emp] ∧ Stor l' ∧ noIo s = true ∧ acc.length = i ∧ ∀ d ∈ acc, IsLot w d) ⟨l', .emp, [], rfl, hl', rfl, rfl, fun _ z => nomatch z⟩ ?_ ?_ ?_⟩
  · rintro i e ⟨_, s, acc, rfl, _, h, _⟩; exact ⟨s, rfl, h⟩
  · intro i d e hi hI
    obtain ⟨l', s, acc, he, hl', hs, ha, hy⟩ := hI
    subst he
    obtain ⟨hk, he⟩ := rng_get hi
    subst he
    have step : ∀ (mc : M Bool), (∀ l' (k : Nat), Stor l' → wp mc [.io (.l l'), .fro (.int h), .fro (.int w), .fro (.int z), .own (.l acc), .fro (.int i), .fro (.int k)] fun _ e => ∃ l', e = [.io (.l l'), .fro (.int h), .fro (.int w), .fro (.int z), .own (.l acc), .fro (.int i), .fro (.int k)] ∧ Stor l') →
        ∀ P : Slot → En → Prop, (∀ l' ys, Stor l' → IsLot w (.tup ys) → P (.own (.l ys)) [.io (.l l'), .fro (.int h), .fro (.int w), .fro (.int z), .own (.l acc), .fro (.int i), .emp]) →
        wp (mLc [6] (.nm 6) ((mCons (mVar 2) mNil).bind dRng1) mc (mVar 6)) [.io (.l l'), .fro (.int h), .fro (.int w), .fro (.int z), .own (.l acc), .fro (.int i), .emp] P := by
      intro mc hmc P hP
      simp
      refine ⟨by omega, by omega, lc_inv (fun e => ∃ l', e = [.io (.l l'), .fro (.int h), .fro (.int w), .fro (.int z), .own (.l acc), .fro (.int i), .emp] ∧ Stor l') (fun y => ∃ k : Nat, k < w ∧ y = .int (k : Nat)) ⟨_, rfl, hl'⟩ ?_ ?_ ?_⟩
      · rintro e ⟨l', rfl, _⟩; rfl
      · intro d hd e hJ
        obtain ⟨l', he, hl'⟩ := hJ
        subst he
        obtain ⟨k, hk, he⟩ := rng_mem hd
        subst he
        simp
        refine wp_imp (hmc l' k hl') ?_
        rintro b e ⟨l', rfl, hl'⟩
        cases b with
        | true => simp [hl']; exact ⟨k, hk, rfl⟩
        | false => simp [hl']
      · intro ys e hJ hlen hy
        obtain ⟨l', he, hl'⟩ := hJ
        subst he
        simp
        exact hP _ _ hl' (lot_of (by simp at hlen; omega) hy)
    have tk : ∀ (m : Int) (g : D → D → M D), m < 2 ^ 64 → (∀ (x : Int) (e : En) (P : D → En → Prop), (∀ b, P (.bl b) e) → wp (g (.int x) (.int 1)) e P) → ∀ l' (k : Nat), Stor l' → wp (mTst (mBin g (mFrz (mCall m_law_take (agIo 0 (agV (M.pure (.int m)) agNil)))) (M.pure (.int 1)))) [.io (.l l'), .fro (.int h), .fro (.int w), .fro (.int z), .own (.l acc), .fro (.int i), .fro (.int k)] fun _ e => ∃ l', e = [.io (.l l'), .fro (.int h), .fro (.int w), .fro (.int z), .own (.l acc), .fro (.int i), .fro (.int k)] ∧ Stor l' := by
      intro m g hm hg l' k hl'
      simp
      refine wp_imp (take_spec hl' _ hm) ?_
      rintro s e ⟨z, l', rfl, rfl, hl', h0, h1⟩
      simp
      refine hg _ _ _ fun b => ?_
      simp [hl']
    have g1 : ∀ (x : Int) (e : En) (P : D → En → Prop), (∀ b, P (.bl b) e) → wp (dEq (.int x) (.int 1)) e P := fun x e P h => by simp; exact h _
    have g2 : ∀ (x : Int) (e : En) (P : D → En → Prop), (∀ b, P (.bl b) e) → wp (dNe (.int x) (.int 1)) e P := fun x e P h => by simp; exact h _
    have fin : ∀ (l' ys : List D), Stor l' → IsLot w (.tup ys) → acc.length + 1 ≤ 16777216 ∧ ∃ (l'' : List D) (s : Slot) (acc' : List D), [Slot.io (.l l'), .fro (.int h), .fro (.int w), .fro (.int z), .own (.l (acc ++ [.tup ys])), .fro (.int i), .emp] = [.io (.l l''), .fro (.int h), .fro (.int w), .fro (.int z), .own (.l acc'), s, .emp] ∧ Stor l'' ∧ noIo s = true ∧ acc'.length = i + 1 ∧ ∀ d ∈ acc', IsLot w d := by
      intro l' ys hl' hys
      refine ⟨by omega, l', _, _, rfl, hl', rfl, by simp [ha], fun d hd => ?_⟩
      rcases List.mem_append.mp hd with q | q
      · exact hy d q
      · rw [List.mem_singleton.mp q]; exact hys
    have wrap : ∀ (mc : M Bool), (∀ l' (k : Nat), Stor l' → wp mc [.io (.l l'), .fro (.int h), .fro (.int w), .fro (.int z), .own (.l acc), .fro (.int i), .fro (.int k)] fun _ e => ∃ l', e = [.io (.l l'), .fro (.int h), .fro (.int w), .fro (.int z), .own (.l acc), .fro (.int i), .fro (.int k)] ∧ Stor l') →
        wp ((mMut 4 fAppend (mCons ((mCons (mFrz (mLc [6] (.nm 6) ((mCons (mVar 2) mNil).bind dRng1) mc (mVar 6))) mNil).bind dTuple) mNil)).bind fun _ => mNext) [.io (.l l'), .fro (.int h), .fro (.int w), .fro (.int z), .own (.l acc), .fro (.int i), .emp] fun f e2 => f = .nx ∧ ∃ (l' : List D) (s : Slot) (acc : List D), e2 = [.io (.l l'), .fro (.int h), .fro (.int w), .fro (.int z), .own (.l acc), s, .emp] ∧ Stor l' ∧ noIo s = true ∧ acc.length = i + 1 ∧ ∀ d ∈ acc, IsLot w d := by
      intro mc hmc
      rw [wp_bind, wp_append]
      refine ⟨rfl, ?_⟩
      rw [wp_cons, wp_bind, wp_cons, wp_frz]
      refine step mc hmc _ ?_
      intro l' ys hl' hys
      simp only [wp_nil, wp_tupL, myList_eq, myOb_eq, List.getElem?_cons_zero, List.getElem?_cons_succ, putList_eq, putOb_eqn, List.set_cons_zero, List.set_cons_succ, wp_next, true_and]
      exact fin l' ys hl' hys
    simp only [wp_if, wp_tst, wp_bin, wp_var, wp_pure, List.getElem?_cons_zero, List.getElem?_cons_succ, List.set_cons_zero, List.set_cons_succ, wp_eq, eqB_int]
    split
    · exact wrap _ (tk 4 dEq (by decide) g1)
    · split
      · exact wrap _ (tk 4 dNe (by decide) g2)
      · exact wrap _ (tk 2 dEq (by decide) g1)
  · intro e hI
    obtain ⟨l', s, acc, he, hl', hs, ha, hy⟩ := hI
    subst he
    rw [rangeD_len] at ha
    simp
    refine wp_imp (of_spec acc w w hw (by omega) hy) ?_
    rintro s e ⟨rfl, rfl⟩
    simp [hl']
    subst ha
    exact isG_lots rfl
end L36

end
section
set_option Elab.async false
set_option linter.all false
set_option maxRecDepth 100000
set_option maxHeartbeats 4000000
namespace L36
open PySem PySem.Spec L2 Eng
open PyProof.Rows hiding St
theorem twin_spec {l : List D} (hl : Stor l) (h w : Nat) (hh : h ≤ 100) (hw : w ≤ 100) : wp m_law_twin [.io (.l l), .fro (.int h), .fro (.int w)] fun s e => ∃ (d : D) (l' : List D), s = .fro d ∧ e = [.io (.l l'), .fro (.int h), .fro (.int w)] ∧ Stor l' ∧ IsG h w d := by
  unfold m_law_twin b_law_twin
  simp
  refine wp_imp (take_spec hl _ (by decide)) ?_
  rintro s e ⟨z, l', rfl, rfl, hl', h0, h1⟩
  simp
  refine ⟨by omega, by omega, lc_invA (fun e => ∃ l', e = [.io (.l l'), .fro (.int h), .fro (.int w), .emp, .emp, .emp, .emp, .emp, .emp] ∧ Stor l') (fun y => IsLot w y) ⟨_, rfl, hl'⟩ ?_ ?_ ?_⟩
  · rintro e ⟨l', rfl, _⟩; rfl
  · intro d hd e hJ
    obtain ⟨l', he, hl'⟩ := hJ
    subst he
    simp
    refine wp_imp (lot_spec hl' w hw) ?_
    rintro s e ⟨d, l', rfl, rfl, hl', hd⟩
    simp [hl', hd]
  · intro base e hJ hlen hb
    obtain ⟨l', he, hl'⟩ := hJ
    subst he
    rw [rangeD_len] at hlen
    have hne : base ≠ [] := by intro q; rw [q] at hlen; simp at hlen; omega
    have hbl : base.length ≤ 1000 := by omega
    simp
    refine ⟨by omega, forI (fun i e => ∃ (l' : List D) (b s5 s6 s7 : Slot) (acc : List D), e = [.io (.l l'), .fro (.int h), .fro (.int w), b, .own (.l acc), s5, s6, s7, .emp] ∧ Stor l' ∧ (b = .own (.l base) ∨ b = .fro (.lst base)) ∧ noIo s5 = true ∧ noIo s6 = true ∧ noIo s7 = true ∧ acc.length = i ∧ ∀ d ∈ acc, IsLot w d) ⟨l', _, .emp, .emp, .emp, [], rfl, hl', .inl rfl, rfl, rfl, rfl, rfl, fun _ z => nomatch z⟩ ?_ ?_ ?_⟩
    · rintro i e ⟨_, b, s5, s6, s7, acc, rfl, _, _, h, _⟩; exact ⟨s5, rfl, h⟩
    · intro i d e hi hI
      obtain ⟨l', b, s5, s6, s7, acc, he, hl', hbb, h5, h6, h7, ha, hy⟩ := hI
      subst he
      obtain ⟨hk, he⟩ := rng_get hi
      subst he
      have fin : ∀ (l' : List D) (zz : Int) (d : D), Stor l' → IsLot w d → wp ((mMut 4 fAppend (mCons (mVar 7) mNil)).bind fun _ => mNext) [.io (.l l'), .fro (.int h), .fro (.int w), .fro (.lst base), .own (.l acc), .fro (.int i), .fro (.int zz), .fro d, .emp] fun f e2 => f = .nx ∧ ∃ (l' : List D) (b s5 s6 s7 : Slot) (acc : List D), e2 = [.io (.l l'), .fro (.int h), .fro (.int w), b, .own (.l acc), s5, s6, s7, .emp] ∧ Stor l' ∧ (b = .own (.l base) ∨ b = .fro (.lst base)) ∧ noIo s5 = true ∧ noIo s6 = true ∧ noIo s7 = true ∧ acc.length = i + 1 ∧ ∀ d ∈ acc, IsLot w d := by
        intro l' zz d hl' hd
        rw [wp_bind, wp_append]
        refine ⟨rfl, ?_⟩
        rw [wp_cons, wp_var]
        simp only [wp_nil, myList_eq, myOb_eq, List.getElem?_cons_zero, List.getElem?_cons_succ, putList_eq, putOb_eqn, List.set_cons_zero, List.set_cons_succ, wp_next, true_and]
        obtain ⟨q1, q2⟩ := lots_snoc ha hy hd
        exact ⟨by omega, l', _, _, _, _, _, rfl, hl', .inr rfl, rfl, rfl, rfl, q1, q2⟩
      have mid : ∀ (l' : List D) (zz : Int) (d : D), Stor l' → IsLot w d → wp (mSeq (mIf (mAndB (mTst (mBin dEq (mVar 6) (M.pure (.int 1)))) (mTst (mBin dEq (mFrz (mCall m_law_take (agIo 0 (agV (M.pure (.int 3)) agNil)))) (M.pure (.int 0))))) (mSet 7 (mFro (mNil.bind mkTup))) mNext) ((mMut 4 fAppend (mCons (mVar 7) mNil)).bind fun _ => mNext)) [.io (.l l'), .fro (.int h), .fro (.int w), .fro (.lst base), .own (.l acc), .fro (.int i), .fro (.int zz), .fro d, .emp] fun f e2 => f = .nx ∧ ∃ (l' : List D) (b s5 s6 s7 : Slot) (acc : List D), e2 = [.io (.l l'), .fro (.int h), .fro (.int w), b, .own (.l acc), s5, s6, s7, .emp] ∧ Stor l' ∧ (b = .own (.l base) ∨ b = .fro (.lst base)) ∧ noIo s5 = true ∧ noIo s6 = true ∧ noIo s7 = true ∧ acc.length = i + 1 ∧ ∀ d ∈ acc, IsLot w d := by
        intro l' zz d hl' hd
        rw [wp_seq]
        refine wp_imp (P := fun f e => f = .nx ∧ ∃ (l' : List D) (d : D), e = [.io (.l l'), .fro (.int h), .fro (.int w), .fro (.lst base), .own (.l acc), .fro (.int i), .fro (.int zz), .fro d, .emp] ∧ Stor l' ∧ IsLot w d) ?_ ?_
        · simp
          by_cases q : zz = 1
          · simp [q]
            refine wp_imp (take_spec hl' _ (by decide)) ?_
            rintro s e ⟨z, l', rfl, rfl, hl', h0, h1⟩
            simp
            split
            · exact ⟨_, _, ⟨rfl, rfl⟩, hl', lot_nil⟩
            · exact ⟨_, _, ⟨rfl, rfl⟩, hl', hd⟩
          · simp [q]
            exact ⟨_, _, ⟨rfl, rfl⟩, hl', hd⟩
        · rintro f e ⟨rfl, l', d, rfl, hl', hd⟩
          exact fin l' zz d hl' hd
      rw [wp_seq, wp_set, wp_call, wp_agIo]
      rcases hbb with rfl | rfl
      all_goals
        simp [h6]
        refine wp_imp (take_spec hl' _ (by decide)) ?_
        rintro s e ⟨zz, l', rfl, rfl, hl', h0, h1⟩
        simp [h6]
        refine wp_imp (pick_spec hl' base hne hbl) ?_
        rintro s e ⟨d, l', rfl, rfl, hl', hd⟩
        have hd := hb d hd
        simp only [putArgs_io, putArgs_v, putArgs_nil, putOb_eqn, putList_eq, myList_eq, myOb_eq, List.getElem?_cons_zero, List.getElem?_cons_succ, List.set_cons_zero, List.set_cons_succ, noIo_fro, noIo_emp, noIo_own, true_and, List.map_cons, List.map_nil]
        simp only [h7, true_and]
        rw [wp_seq]
        refine wp_imp (P := fun f e => f = .nx ∧ ∃ (l' : List D) (d : D), e = [.io (.l l'), .fro (.int h), .fro (.int w), .fro (.lst base), .own (.l acc), .fro (.int i), .fro (.int zz), .fro d, .emp] ∧ Stor l' ∧ IsLot w d) ?_ ?_
        · simp
          by_cases q : zz = 0
          · simp [q]
            refine wp_imp (pick_spec hl' base hne hbl) ?_
            rintro s e ⟨d2, l', rfl, rfl, hl', hd2⟩
            simp
            refine wp_imp (join_spec [d, d2] w (by simp) (fun y hy => by
              rcases List.mem_cons.mp hy with rfl | hy
              · exact hd
              · rw [List.mem_singleton.mp hy]; exact hb _ hd2)) ?_
            rintro s e ⟨d3, rfl, rfl, hd3⟩
            simp
            exact ⟨_, _, ⟨rfl, rfl⟩, hl', hd3⟩
          · simp [q]
            exact ⟨_, _, ⟨rfl, rfl⟩, hl', hd⟩
        · rintro f e ⟨rfl, l', d, rfl, hl', hd⟩
          exact mid l' zz d hl' hd
    · intro e hI
      obtain ⟨l', b, s5, s6, s7, acc, he, hl', hbb, h5, h6, h7, ha, hy⟩ := hI
      subst he
      rw [rangeD_len] at ha
      simp
      refine wp_imp (of_spec acc w w hw (by omega) hy) ?_
      rintro s e ⟨rfl, rfl⟩
      simp [hl']
      subst ha
      exact isG_lots rfl
end L36

end
section
set_option Elab.async false
set_option linter.all false
set_option maxRecDepth 100000
set_option maxHeartbeats 4000000
namespace L36
open PySem PySem.Spec L2 Eng
open PyProof.Rows hiding St
theorem shuffle_spec {l : List D} (hl : Stor l) (xs : List D) (hn : xs.length ≤ 1000) : wp m_law_shuffle [.io (.l l), .fro (.lst xs)] fun s e => ∃ (ys l' : List D), s = .own (.l ys) ∧ e = [.io (.l l'), .fro (.lst xs)] ∧ Stor l' ∧ ys.Perm xs := by
  unfold m_law_shuffle b_law_shuffle
  simp
  refine ⟨by omega, lc_map rfl (fun d => d) (fun d hd => by simp) ?_⟩
  simp
  refine ⟨by omega, forI (fun i e => ∃ (l' left out : List D) (s : Slot), e = [.io (.l l'), .fro (.lst xs), .own (.l left), .own (.l out), s, .emp] ∧ Stor l' ∧ noIo s = true ∧ out.length = i ∧ (out ++ left).Perm xs) ⟨l, xs, [], .emp, rfl, hl, rfl, rfl, .refl _⟩ ?_ ?_ ?_⟩
  · rintro i e ⟨_, _, _, s, rfl, _, h, _⟩; exact ⟨s, rfl, h⟩
  · intro i d e hi hI
    obtain ⟨l', left, out, s, he, hl', hs, ho, hp⟩ := hI
    subst he
    obtain ⟨hk, he⟩ := rng_get hi
    subst he
    have hlen := hp.length_eq
    simp at hlen
    simp
    refine wp_imp (take_spec hl' _ (by omega)) ?_
    rintro s e ⟨z, l', rfl, rfl, hl', h0, h1⟩
    obtain ⟨k, rfl⟩ := Int.eq_ofNat_of_zero_le h0
    have hkk : k < left.length := by omega
    simp
    refine popP_nat hkk (by omega) ?_
    refine ⟨by omega, l', _, _, _, ⟨rfl, rfl, rfl, rfl⟩, hl', rfl, by simp [ho], ?_⟩
    refine List.Perm.trans ?_ hp
    rw [List.append_assoc]
    exact List.Perm.append_left _ (perm_erase hkk)
  · intro e hI
    obtain ⟨l', left, out, s, he, hl', hs, ho, hp⟩ := hI
    subst he
    rw [rangeD_len] at ho
    have hlen := hp.length_eq
    simp at hlen ho
    have : left = [] := List.eq_nil_of_length_eq_zero (by omega)
    subst this
    simp [hl'] at hp ⊢
    exact hp
theorem through_spec (lots : List D) (lim : Nat) (d : D) (hn : lots.length ≤ 1000) (hl : ∀ d ∈ lots, IsLot lim d) (hd : IsLot lots.length d) : wp m_law_through [.fro d, .fro (.lst lots)] fun s e => ∃ d', s = .fro d' ∧ e = [.fro d, .fro (.lst lots)] ∧ IsLot lim d' := by
  obtain ⟨ks, rfl, hk1, hk2⟩ := hd
  unfold m_law_through b_law_through lotD
  simp
  refine ⟨by rw [nats_len]; omega, lc_map rfl (fun d => match d with | .int k => (lots[k.toNat]?).getD .non | _ => .non) (fun d hd => ?_) ?_⟩
  · obtain ⟨k, hk, rfl⟩ := List.mem_map.mp hd
    have := hk2 k hk
    simp [this]
  · simp
    refine wp_imp (join_spec _ lim (by simp [nats_len]; omega) ?_) ?_
    · intro y hy
      obtain ⟨d, hd, rfl⟩ := List.mem_map.mp hy
      obtain ⟨k, hk, rfl⟩ := List.mem_map.mp hd
      have := hk2 k hk
      simp [this]
      exact hl _ (List.getElem_mem this)
    · rintro s e ⟨d3, rfl, rfl, hd3⟩
      simp [hd3]
theorem behind_spec (a b c : Nat) (f g : Nat → Nat → Bool) (ha : a ≤ 100) (hb : b ≤ 100) (hc : c ≤ 100) : wp m_law_behind [.fro (gridD a b f), .fro (gridD b c g)] fun s e => ∃ d', s = .fro d' ∧ e = [.fro (gridD a b f), .fro (gridD b c g)] ∧ IsG a c d' := by
  unfold m_law_behind b_law_behind
  simp
  refine wp_imp (lots_spec b c g hb hc) ?_
  rintro s e ⟨lots, rfl, rfl, hl1, hl2⟩
  simp
  refine wp_imp (lots_spec a b f ha hb) ?_
  rintro s e ⟨lots2, rfl, rfl, hm1, hm2⟩
  simp
  refine ⟨by omega, lc_invA (fun e => ∃ x, e = [.fro (gridD a b f), .fro (gridD b c g), x, .emp] ∧ (x = .own (.l lots) ∨ x = .fro (.lst lots))) (fun y => IsLot c y) ⟨_, rfl, .inl rfl⟩ ?_ ?_ ?_⟩
  · rintro e ⟨x, rfl, _⟩; rfl
  · intro d hd e hJ
    obtain ⟨x, he, hx⟩ := hJ
    subst he
    have hd2 : IsLot lots.length d := by rw [hl1]; exact hm2 d hd
    rcases hx with rfl | rfl
    all_goals
      simp
      refine wp_imp (through_spec lots c d (by omega) hl2 hd2) ?_
      rintro s e ⟨d', rfl, rfl, hd'⟩
      simp [hd']
  · intro acc e hJ hlen hy
    obtain ⟨x, he, hx⟩ := hJ
    subst he
    simp
    rw [show gridD b c g = .tup [.str "table", .int b, .int c, .tup (rowsD b c g)] from rfl]
    simp
    refine wp_imp (of_spec acc c c hc (by omega) hy) ?_
    rintro s e ⟨rfl, rfl⟩
    simp
    have : acc.length = a := by omega
    subst this
    exact isG_lots rfl
end L36

end
section
set_option Elab.async false
set_option linter.all false
set_option maxRecDepth 100000
set_option maxHeartbeats 4000000
namespace L36
open PySem PySem.Spec L2 Eng
open PyProof.Rows hiding St
theorem cut_take {l : List D} {m : Nat} (h : m ≤ l.length) : Eng.cutD l none (some (m : Int)) = l.take m := by
  unfold Eng.cutD
  rw [HT.sIx_nat, HT.sIx_none]
  simp [Nat.min_eq_left h]
theorem units_spec {l : List D} (hl : Stor l) (m h : Nat) (hm : m ≤ h) (hh : h ≤ 100) : wp m_law_units [.io (.l l), .fro (.int m), .fro (.int h)] fun s e => ∃ (lots places l' : List D), s = .own (.l [.lst lots, .lst places]) ∧ e = [.io (.l l'), .fro (.int m), .fro (.int h)] ∧ Stor l' ∧ lots.length = h ∧ (∀ d ∈ lots, IsLot m d) ∧ places.length = m ∧ ∀ d ∈ places, ∃ k : Nat, k < h ∧ d = .int (k : Nat) := by
  unfold m_law_units b_law_units
  simp
  refine ⟨by omega, by omega, lc_range rfl (fun i => .int i) (fun i hi => by simp) ?_⟩
  simp
  refine wp_imp (shuffle_spec hl _ (by simp; omega)) ?_
  rintro s e ⟨ys, l', rfl, rfl, hl', hp⟩
  have hlen := hp.length_eq
  simp at hlen
  simp
  rw [cut_take (by omega)]
  refine ⟨by omega, by omega, lc_invA (fun e => ∃ l', e = [.io (.l l'), .fro (.int m), .fro (.int h), .own (.l (ys.take m)), .emp, .emp, .emp] ∧ Stor l') (fun y => IsLot m y) ⟨_, rfl, hl'⟩ ?_ ?_ ?_⟩
  · rintro e ⟨l', rfl, _⟩; rfl
  · intro d hd e hJ
    obtain ⟨l', he, hl'⟩ := hJ
    subst he
    simp
    refine wp_imp (lot_spec hl' m (by omega)) ?_
    rintro s e ⟨d, l', rfl, rfl, hl', hd⟩
    simp [hl', hd]
  · intro lots e hJ hlen2 hb
    obtain ⟨l', he, hl'⟩ := hJ
    subst he
    rw [rangeD_len] at hlen2
    have hpl : ∀ d ∈ ys.take m, ∃ k : Nat, k < h ∧ d = .int (k : Nat) := fun d hd => by
      have := hp.mem_iff.mp (List.mem_of_mem_take hd)
      obtain ⟨k, hk, rfl⟩ := List.mem_map.mp this
      exact ⟨k, List.mem_range.mp hk, rfl⟩
    simp
    refine ⟨by omega, forI (fun i e => ∃ (p s : Slot) (lots : List D), e = [.io (.l l'), .fro (.int m), .fro (.int h), p, .own (.l lots), s, .emp] ∧ (p = .own (.l (ys.take m)) ∨ p = .fro (.lst (ys.take m))) ∧ noIo s = true ∧ lots.length = h ∧ ∀ d ∈ lots, IsLot m d) ⟨_, .emp, lots, rfl, .inl rfl, rfl, hlen2, hb⟩ ?_ ?_ ?_⟩
    · rintro i e ⟨p, s, lots, rfl, _, h, _⟩; exact ⟨s, rfl, h⟩
    · intro i d e hi hI
      obtain ⟨p, s, lots, he, hpp, hs, ha, hy⟩ := hI
      subst he
      obtain ⟨hk, he⟩ := rng_get hi
      subst he
      have hi2 : i < (ys.take m).length := by simp; omega
      obtain ⟨k, hk2, hke⟩ := hpl _ (List.getElem_mem hi2)
      have hge : (ys.take m)[i]? = some (.int (k : Nat)) := by rw [List.getElem?_eq_getElem hi2, hke]
      rcases hpp with rfl | rfl
      all_goals
        simp [hs, hge, ha, hk2]
        refine ⟨_, _, _, ⟨rfl, rfl, rfl⟩, .inr rfl, rfl, by simp [ha], fun d hd => ?_⟩
        rcases List.mem_or_eq_of_mem_set hd with q | q
        · exact hy d q
        · rw [q]; exact lot_one hk
    · intro e hI
      obtain ⟨p, s, lots, he, hpp, hs, ha, hy⟩ := hI
      subst he
      rcases hpp with rfl | rfl
      all_goals
        simp [hl']
        exact ⟨_, _, ⟨rfl, rfl⟩, ha, hy, by simp; omega, hpl⟩
theorem placing_spec {l : List D} (hl : Stor l) (n : Nat) (hn : n ≤ 100) : wp m_law_placing [.io (.l l), .fro (.int n)] fun s e => ∃ (ks : List Nat) (l' : List D), s = .fro (.stp (natsD ks)) ∧ e = [.io (.l l'), .fro (.int n)] ∧ Stor l' ∧ ks.length = n ∧ ∀ k, k < n → k ∈ ks := by
  unfold m_law_placing b_law_placing
  simp
  refine wp_imp (take_spec hl _ (by decide)) ?_
  rintro s e ⟨z, l', rfl, rfl, hl', h0, h1⟩
  simp
  by_cases q0 : z = 0
  · subst q0
    simp
    refine ⟨by omega, by omega, lc_range rfl (fun i => .int i) (fun i hi => by simp) ?_⟩
    simp [hl']
    exact ⟨List.range n, rfl, by simp, fun k hk => List.mem_range.mpr hk⟩
  by_cases q1 : z = 1
  · subst q1
    simp
    refine ⟨by omega, by omega, lc_range rfl (fun i => .int (((i + 1) % n : Nat) : Int)) (fun i hi => by simp; omega) ?_⟩
    simp [hl']
    refine ⟨(List.range n).map fun i => (i + 1) % n, by simp [natsD], by simp, fun k hk => ?_⟩
    refine List.mem_map.mpr ?_
    by_cases hk0 : k = 0
    · exact ⟨n - 1, List.mem_range.mpr (by omega), by rw [hk0, show n - 1 + 1 = n by omega, Nat.mod_self]⟩
    · exact ⟨k - 1, List.mem_range.mpr (by omega), by rw [show k - 1 + 1 = k by omega, Nat.mod_eq_of_lt hk]⟩
  by_cases q2 : z = 2
  · subst q2
    simp
    refine ⟨by omega, by omega, lc_range rfl (fun i => .int ((n - 1 - i : Nat) : Int)) (fun i hi => by simp; omega) ?_⟩
    simp [hl']
    refine ⟨(List.range n).map fun i => n - 1 - i, by simp [natsD], by simp, fun k hk => ?_⟩
    exact List.mem_map.mpr ⟨n - 1 - k, List.mem_range.mpr (by omega), by omega⟩
  simp [q0, q1, q2]
  refine ⟨by omega, by omega, lc_range rfl (fun i => .int i) (fun i hi => by simp) ?_⟩
  simp
  refine wp_imp (shuffle_spec hl' _ (by simp; omega)) ?_
  rintro s e ⟨ys, l', rfl, rfl, hl', hp⟩
  simp [hl']
  have hys : ∀ d ∈ ys, ∃ k : Nat, d = .int (k : Nat) := fun d hd => by
    obtain ⟨k, _, rfl⟩ := List.mem_map.mp (hp.mem_iff.mp hd)
    exact ⟨k, rfl⟩
  have hlen := hp.length_eq
  simp at hlen
  refine ⟨ys.map fun d => match d with | .int k => k.toNat | _ => 0, ?_, by simp [hlen], fun k hk => ?_⟩
  · unfold natsD
    rw [List.map_map]
    refine Eq.trans (List.map_id ys).symm (List.map_congr_left fun d hd => ?_)
    obtain ⟨k, rfl⟩ := hys d hd
    simp
  · have : D.int (k : Nat) ∈ ys := hp.mem_iff.mpr (List.mem_map.mpr ⟨k, List.mem_range.mpr hk, rfl⟩)
    exact List.mem_map.mpr ⟨_, this, by simp⟩
theorem placed_spec (n : Nat) (f : Nat → Nat → Bool) (ks : List Nat) (hn : n ≤ 100) (hk1 : ks.length = n) (hk2 : ∀ k, k < n → k ∈ ks) : wp m_law_placed [.fro (gridD n n f), .fro (.stp (natsD ks))] fun s e => ∃ d, s = .fro d ∧ e = [.fro (gridD n n f), .fro (.stp (natsD ks))] ∧ IsG n n d := by
  have hidx : ∀ k, k < n → ∃ i, dIdxL (natsD ks) (.int (k : Nat)) = some i ∧ i < n := fun k hk => by
    obtain ⟨i, h1, h2⟩ := idx_nat (hk2 k hk)
    exact ⟨i, h1, by omega⟩
  have hx : ∀ k, k < n → dIdxL (natsD ks) (.int (k : Nat)) = some ((dIdxL (natsD ks) (.int (k : Nat))).getD 0) ∧ (dIdxL (natsD ks) (.int (k : Nat))).getD 0 < n := fun k hk => by
    obtain ⟨i, h1, h2⟩ := hidx k hk
    rw [h1]; exact ⟨rfl, h2⟩
  unfold m_law_placed b_law_placed
  simp [nats_len]
  refine ⟨by omega, by omega, ?_⟩
  rw [nats_len, hk1]
  refine lc_range rfl (fun i => .int (((dIdxL (natsD ks) (.int (i : Nat))).getD 0 : Nat) : Int)) (fun i hi => ?_) ?_
  · simp
    rw [(hx i hi).1]
    simp
  · simp [nats_len]
    refine ⟨by omega, ?_⟩
    rw [nats_len, hk1]
    have hbk : ∀ i, i < n → ((List.range n).map fun i => D.int (((dIdxL (natsD ks) (.int (i : Nat))).getD 0 : Nat) : Int))[i]? = some (.int (((dIdxL (natsD ks) (.int (i : Nat))).getD 0 : Nat) : Int)) := fun i hi => by
      rw [List.getElem?_map, List.getElem?_range hi]; rfl
    generalize ((List.range n).map fun i => D.int (((dIdxL (natsD ks) (.int (i : Nat))).getD 0 : Nat) : Int)) = bk at hbk
    refine forI (fun i e => ∃ (b s : Slot) (acc : List D), e = [.fro (gridD n n f), .fro (.stp (natsD ks)), b, .own (.l acc), s, .emp] ∧ (b = .own (.l bk) ∨ b = .fro (.lst bk)) ∧ noIo s = true ∧ acc.length = i ∧ ∀ d ∈ acc, IsLot n d) ⟨_, .emp, [], rfl, .inl rfl, rfl, rfl, fun _ z => nomatch z⟩ ?_ ?_ ?_
    · rintro i e ⟨b, s, acc, rfl, _, h, _⟩; exact ⟨s, rfl, h⟩
    · intro i d e hi hI
      obtain ⟨b, s, acc, he, hbb, hs, ha, hy⟩ := hI
      subst he
      obtain ⟨hk, he⟩ := rng_get hi
      subst he
      rw [wp_bind, wp_append]
      refine ⟨rfl, ?_⟩
      rw [wp_cons, wp_bind, wp_cons, wp_frz, wp_lc]
      simp [nats_len, hk1]
      refine ⟨by omega, by omega, ?_⟩
      rw [nats_len, hk1]
      refine lc_lot (by omega) (fun e => ∃ b, e = [.fro (gridD n n f), .fro (.stp (natsD ks)), b, .own (.l acc), .fro (.int i), .emp] ∧ (b = .own (.l bk) ∨ b = .fro (.lst bk))) ⟨_, rfl, hbb⟩ ?_ ?_ ?_
      · rintro e ⟨b, rfl, _⟩; rfl
      · intro k e hk2 hJ
        obtain ⟨b, he, hbb⟩ := hJ
        subst he
        have b1 := hbk i hk
        have b2 := hbk k hk2
        have r1 := rowsD_get (h := n) (w := n) (f := f) (hx i hk).2
        have r2 := (hx k hk2).2
        rcases hbb with rfl | rfl
        all_goals
          unfold gridD
          simp [b1, b2, r1]
          unfold rowD
          simp [r2]
      · intro ys e hJ hys
        obtain ⟨b, he, hbb⟩ := hJ
        subst he
        simp
        obtain ⟨q1, q2⟩ := lots_snoc ha hy hys
        exact ⟨by omega, _, _, _, ⟨rfl, rfl, rfl⟩, hbb, rfl, q1, q2⟩
    · intro e hI
      obtain ⟨b, s, acc, he, hbb, hs, ha, hy⟩ := hI
      subst he
      rw [rangeD_len] at ha
      simp [nats_len, hk1]
      refine wp_imp (of_spec acc n n hn (by omega) hy) ?_
      rintro s e ⟨rfl, rfl⟩
      simp
      subst ha
      exact isG_lots rfl
end L36

end
section
set_option Elab.async false
set_option linter.all false
set_option maxRecDepth 100000
set_option maxHeartbeats 4000000
namespace L36
open PySem PySem.Spec L2 Eng
open PyProof.Rows hiding St
theorem order_spec {l : List D} (hl : Stor l) (n : Nat) (hn : n ≤ 100) : wp m_law_order [.io (.l l), .fro (.int n)] fun s e => ∃ (d : D) (l' : List D), s = .fro d ∧ e = [.io (.l l'), .fro (.int n)] ∧ Stor l' ∧ IsG n n d := by
  unfold m_law_order b_law_order
  simp
  refine wp_imp (take_spec hl _ (by decide)) ?_
  rintro s e ⟨z, l', rfl, rfl, hl', h0, h1⟩
  simp
  refine ⟨by omega, forI (fun i e => ∃ (l' : List D) (s t : Slot) (acc : List D), e = [.io (.l l'), .fro (.int n), .fro (.int z), .own (.l acc), s, t, .emp] ∧ Stor l' ∧ noIo s = true ∧ noIo t = true ∧ acc.length = i ∧ ∀ d ∈ acc, IsLot n d) ⟨l', .emp, .emp, [], rfl, hl', rfl, rfl, rfl, fun _ z => nomatch z⟩ ?_ ?_ ?_⟩
  · rintro i e ⟨_, s, t, acc, rfl, _, h, _⟩; exact ⟨s, rfl, h⟩
  · intro i d e hi hI
    obtain ⟨l', s, t, acc, he, hl', hs, ht, ha, hy⟩ := hI
    subst he
    obtain ⟨hk, he⟩ := rng_get hi
    subst he
    simp
    refine wp_imp (lot_spec hl' i (by omega)) ?_
    rintro s e ⟨d, l', rfl, rfl, hl', hd⟩
    simp only [putArgs_io, putArgs_v, putArgs_nil, putOb_eqn, putList_eq, myList_eq, myOb_eq, List.getElem?_cons_zero, List.getElem?_cons_succ, List.set_cons_zero, List.set_cons_succ, noIo_fro, noIo_emp, noIo_own, true_and, List.map_cons, List.map_nil]
    simp only [ht, true_and]
    rw [wp_seq]
    refine wp_imp (P := fun f e => f = .nx ∧ ∃ (d : D), e = [.io (.l l'), .fro (.int n), .fro (.int z), .own (.l acc), .fro (.int i), .fro d, .emp] ∧ IsLot i d) ?_ ?_
    · simp
      split
      · simp [lot_nil]
      · simp [hd]
    · rintro f e ⟨rfl, d, rfl, hd⟩
      dsimp only
      rw [wp_seq]
      refine wp_imp (P := fun f e => f = .nx ∧ ∃ (d : D), e = [.io (.l l'), .fro (.int n), .fro (.int z), .own (.l acc), .fro (.int i), .fro d, .emp] ∧ IsLot i d) ?_ ?_
      · simp
        split
        · refine ⟨by omega, by omega, lc_range rfl (fun i => .int i) (fun i hi => by simp) ?_⟩
          simp
          exact lot_range (by omega)
        · simp [hd]
      · rintro f e ⟨rfl, d, rfl, hd⟩
        obtain ⟨ks, rfl, hk1, hk2⟩ := hd
        unfold lotD
        dsimp only
        rw [wp_bind, wp_append]
        refine ⟨rfl, ?_⟩
        rw [wp_cons, wp_frz, wp_call, wp_agV, wp_frz, wp_bin, wp_frz, wp_lc]
        simp [nats_len]
        refine ⟨by omega, ?_⟩
        have hg : ∀ k, k ∈ ks → k < acc.length := fun k hk => by have := hk2 k hk; omega
        refine lc_map rfl (fun d => match d with | .int k => (acc[k.toNat]?).getD .non | _ => .non) (fun d hd => ?_) ?_
        · obtain ⟨k, hk, rfl⟩ := List.mem_map.mp hd
          have := hg k hk
          simp [this]
        · simp [nats_len]
          refine ⟨by omega, ?_⟩
          refine wp_imp (join_spec _ n (by simp [nats_len]; omega) ?_) ?_
          · intro y hy2
            rcases List.mem_append.mp hy2 with q | q
            · obtain ⟨d, hd, rfl⟩ := List.mem_map.mp q
              obtain ⟨k, hk, rfl⟩ := List.mem_map.mp hd
              have := hg k hk
              simp [this]
              exact hy _ (List.getElem_mem this)
            · rw [List.mem_singleton.mp q]; exact lot_one hk
          · rintro s e ⟨d3, rfl, rfl, hd3⟩
            simp
            obtain ⟨q1, q2⟩ := lots_snoc ha hy hd3
            exact ⟨by omega, l', _, _, _, ⟨rfl, rfl, rfl, rfl⟩, hl', rfl, rfl, q1, q2⟩
  · intro e hI
    obtain ⟨l', s, t, acc, he, hl', hs, ht, ha, hy⟩ := hI
    subst he
    rw [rangeD_len] at ha
    simp
    refine wp_imp (of_spec acc n n hn (by omega) hy) ?_
    rintro s e ⟨rfl, rfl⟩
    simp
    refine wp_imp (placing_spec hl' n hn) ?_
    rintro s e ⟨ks, l', rfl, rfl, hl', hk1, hk2⟩
    simp
    obtain ⟨f, hf⟩ := isG_lots (h := n) (w := n) ha
    rw [ha, hf]
    refine wp_imp (placed_spec n f ks hn hk1 hk2) ?_
    rintro s e ⟨d, rfl, rfl, hd⟩
    simp [hl', hd]
theorem unit_spec (n : Nat) (hn : n ≤ 100) : wp m_law_unit [.fro (.int n)] fun s e => ∃ d, s = .fro d ∧ e = [.fro (.int n)] ∧ IsG n n d := by
  unfold m_law_unit b_law_unit
  simp
  refine ⟨by omega, by omega, lc_range rfl (fun i => .tup [.int i]) (fun i hi => by simp) ?_⟩
  simp
  refine wp_imp (of_spec _ n n hn (by simp; omega) (fun y hy => ?_)) ?_
  · obtain ⟨k, hk, rfl⟩ := List.mem_map.mp hy
    exact lot_one (List.mem_range.mp hk)
  · rintro s e ⟨rfl, rfl⟩
    simp
    have := isG_lots (h := n) (w := n) (lots := (List.range n).map fun (i : Nat) => .tup [.int (i : Nat)]) (by simp)
    simpa using this
theorem spread_spec {l : List D} (hl : Stor l) (a b h w : Nat) (f : Nat → Nat → Bool) (ha : a ≤ h) (hb : b ≤ w) (hh : h ≤ 100) (hw : w ≤ 100) : wp m_law_spread [.io (.l l), .fro (gridD a b f), .fro (.int h), .fro (.int w)] fun s e => ∃ (d : D) (r l' : List D), s = .own (.l (d :: r)) ∧ e = [.io (.l l'), .fro (gridD a b f), .fro (.int h), .fro (.int w)] ∧ Stor l' ∧ IsG h w d := by
  unfold m_law_spread b_law_spread
  have hG : gridD a b f = .tup [.str "table", .int a, .int b, .tup (rowsD a b f)] := rfl
  rw [hG]
  simp
  refine wp_imp (units_spec hl a h ha hh) ?_
  rintro s e ⟨ups, upl, l', rfl, rfl, hl', u1, u2, u3, u4⟩
  simp
  refine wp_imp (units_spec hl' b w hb hw) ?_
  rintro s e ⟨sds, sdl, l', rfl, rfl, hl', v1, v2, v3, v4⟩
  simp
  refine wp_imp (of_spec ups a a (by omega) (by omega) u2) ?_
  rintro s e ⟨rfl, rfl⟩
  simp
  refine wp_imp (of_spec sds b b (by omega) (by omega) v2) ?_
  rintro s e ⟨rfl, rfl⟩
  simp
  obtain ⟨fu, hfu⟩ := isG_lots (h := h) (w := a) (lots := ups) u1
  obtain ⟨fs, hfs⟩ := isG_lots (h := w) (w := b) (lots := sds) v1
  rw [u1, v1, hfu, hfs]
  refine wp_imp (turn_spec w b fs (by omega) (by omega)) ?_
  rintro s e ⟨rfl, rfl⟩
  simp
  rw [← hG]
  refine wp_imp (behind_spec h a b fu f (by omega) (by omega) (by omega)) ?_
  rintro s e ⟨d1, rfl, rfl, g1, hg1⟩
  subst hg1
  simp
  refine wp_imp (behind_spec h b w g1 (fun i j => fs j i) (by omega) (by omega) (by omega)) ?_
  rintro s e ⟨d2, rfl, rfl, hd2⟩
  simp
  have one : ∀ (pl : List D) (m : Nat), (∀ d ∈ pl, ∃ k : Nat, k < m ∧ d = .int (k : Nat)) → ∀ y ∈ pl.map (fun d => D.tup [d]), IsLot m y := fun pl m hp y hy => by
    obtain ⟨d, hd, rfl⟩ := List.mem_map.mp hy
    obtain ⟨k, hk, rfl⟩ := hp d hd
    exact lot_one hk
  refine ⟨by omega, lc_map rfl (fun d => .tup [d]) (fun d hd => by simp) ?_⟩
  simp
  refine wp_imp (of_spec _ h h (by omega) (by simp; omega) (one upl h u4)) ?_
  rintro s e ⟨rfl, rfl⟩
  simp
  refine ⟨by omega, lc_map rfl (fun d => .tup [d]) (fun d hd => by simp) ?_⟩
  simp
  refine wp_imp (of_spec _ w w (by omega) (by simp; omega) (one sdl w v4)) ?_
  rintro s e ⟨rfl, rfl⟩
  simp
  obtain ⟨fx, hfx⟩ := isG_lots (h := b) (w := w) (lots := sdl.map fun d => .tup [d]) (by simp [v3])
  simp at hfx
  rw [v3, hfx]
  refine wp_imp (turn_spec b w fx (by omega) (by omega)) ?_
  rintro s e ⟨rfl, rfl⟩
  simp [hl', hd2]
theorem way_spec {l : List D} (hl : Stor l) (n h w : Nat) (ha : n ≤ h) (hb : n ≤ w) (hh : h ≤ 100) (hw : w ≤ 100) : wp m_law_way [.io (.l l), .fro (.int n), .fro (.int h), .fro (.int w)] fun s e => ∃ (d : D) (l' : List D), s = .fro d ∧ e = [.io (.l l'), .fro (.int n), .fro (.int h), .fro (.int w)] ∧ Stor l' ∧ IsG h w d := by
  unfold m_law_way b_law_way
  simp
  refine wp_imp (order_spec hl n (by omega)) ?_
  rintro s e ⟨d, l', rfl, rfl, hl', f, hf⟩
  subst hf
  simp
  refine wp_imp (spread_spec hl' n n h w f ha hb hh hw) ?_
  rintro s e ⟨d, r, l', rfl, rfl, hl', hd⟩
  simp [hl', hd]
end L36

end
section
set_option Elab.async false
set_option linter.all false
set_option maxRecDepth 100000
set_option maxHeartbeats 4000000
namespace L36
open PySem PySem.Spec L2 Eng
open PyProof.Rows hiding St
def Fit (h w : Nat) (d : D) : Prop := ∃ (a b : Nat), (∃ f, d = gridD a b f) ∧ a ≤ h ∧ b ≤ w
theorem lostL {n : Nat} (ks : List Nat) (h : ks.all (fun k => decide (k < n)) = true) (hl : ks.length ≤ 1000) : IsLot n (lotD ks) := ⟨ks, rfl, hl, fun k hk => of_decide_eq_true (List.all_eq_true.mp h k hk)⟩
theorem lost_spec {l : List D} (hl : Stor l) (h w : Nat) (h2 : 2 < h) (w2 : 2 < w) (hh : h ≤ 100) (hw : w ≤ 100) : wp m_law_lost [.io (.l l), .fro (.int h), .fro (.int w)] fun s e => ∃ (d : D) (l' : List D), s = .fro d ∧ e = [.io (.l l'), .fro (.int h), .fro (.int w)] ∧ Stor l' ∧ IsG h w d := by
  have A : ∀ (lots : List D) (n : Nat), lots.length = n → n ≤ h → 3 ≤ w → Fit h w (D.tup [.str "table", .int lots.length, .int (3 : Nat), .tup (lots.map (rowOf 3))]) := fun lots n hn hnh hw3 => by
    obtain ⟨f, hf⟩ := isG_lots (h := n) (w := 3) hn
    exact ⟨n, 3, ⟨f, by rw [hn]; exact hf⟩, hnh, hw3⟩
  have L01 : IsLot 3 (.tup [.int 0, .int 1]) := lostL [0, 1] rfl (by simp)
  have L02 : IsLot 3 (.tup [.int 0, .int 2]) := lostL [0, 2] rfl (by simp)
  have L36 : IsLot 3 (.tup [.int 1, .int 2]) := lostL [1, 2] rfl (by simp)
  have L0 : IsLot 3 (.tup [.int 0]) := lostL [0] rfl (by simp)
  have B1 : ∀ d ∈ [D.tup [.int 0, .int 1], .tup [.int 0, .int 2], .tup [.int 1, .int 2]], IsLot 3 d := fun d hd => by simp at hd; rcases hd with rfl | rfl | rfl <;> assumption
  have B2 : ∀ d ∈ [D.tup [.int 0], .tup [.int 0, .int 1], .tup [.int 1, .int 2]], IsLot 3 d := fun d hd => by simp at hd; rcases hd with rfl | rfl | rfl <;> assumption
  have B3 : ∀ d ∈ [D.tup [.int 0], .tup [.int 0, .int 1], .tup [.int 0, .int 2], .tup [.int 1, .int 2]], IsLot 3 d := fun d hd => by simp at hd; rcases hd with rfl | rfl | rfl | rfl <;> assumption
  unfold m_law_lost b_law_lost
  rw [wp_fn, wp_seq]
  refine wp_imp (P := fun f e => f = .nx ∧ ∃ hs : List D, e = [.io (.l l), .fro (.int h), .fro (.int w), .own (.l hs)] ∧ hs ≠ [] ∧ hs.length ≤ 2 ∧ ∀ d ∈ hs, Fit h w d) ?_ ?_
  · simp
    refine wp_imp (of_spec _ 3 3 (by omega) (by simp) B1) ?_
    rintro s e ⟨rfl, rfl⟩
    simp
    refine wp_imp (of_spec _ 3 3 (by omega) (by simp) B2) ?_
    rintro s e ⟨rfl, rfl⟩
    simp
    exact ⟨A [D.tup [.int 0, .int 1], .tup [.int 0, .int 2], .tup [.int 1, .int 2]] 3 rfl (by omega) (by omega), A [D.tup [.int 0], .tup [.int 0, .int 1], .tup [.int 1, .int 2]] 3 rfl (by omega) (by omega)⟩
  rintro f e ⟨rfl, hs, rfl, n1, n2, n3⟩
  dsimp only
  rw [wp_seq]
  refine wp_imp (P := fun f e => f = .nx ∧ ∃ hs : List D, e = [.io (.l l), .fro (.int h), .fro (.int w), .own (.l hs)] ∧ hs ≠ [] ∧ hs.length ≤ 3 ∧ ∀ d ∈ hs, Fit h w d) ?_ ?_
  · simp
    split
    · refine wp_imp (of_spec _ 3 3 (by omega) (by simp) B3) ?_
      rintro s e ⟨rfl, rfl⟩
      simp
      refine ⟨by omega, by omega, fun d hd => ?_⟩
      rcases hd with hd | hd
      · exact n3 d hd
      · rw [hd]
        exact A [D.tup [.int 0], .tup [.int 0, .int 1], .tup [.int 0, .int 2], .tup [.int 1, .int 2]] 4 rfl (by omega) (by omega)
    · exact ⟨n1, by omega, n3⟩
  rintro f e ⟨rfl, hs, rfl, n1, n2, n3⟩
  dsimp only
  rw [wp_seq]
  refine wp_imp (P := fun f e => f = .nx ∧ ∃ hs : List D, e = [.io (.l l), .fro (.int h), .fro (.int w), .own (.l hs)] ∧ hs ≠ [] ∧ hs.length ≤ 4 ∧ ∀ d ∈ hs, Fit h w d) ?_ ?_
  · simp
    split
    · refine wp_imp (of_spec _ 3 3 (by omega) (by simp) B3) ?_
      rintro s e ⟨rfl, rfl⟩
      simp
      obtain ⟨f, hf⟩ := isG_lots (h := 4) (w := 3) (lots := [D.tup [.int 0], .tup [.int 0, .int 1], .tup [.int 0, .int 2], .tup [.int 1, .int 2]]) rfl
      simp at hf
      rw [hf]
      refine wp_imp (turn_spec 4 3 f (by omega) (by omega)) ?_
      rintro s e ⟨rfl, rfl⟩
      simp
      refine ⟨by omega, by omega, fun d hd => ?_⟩
      rcases hd with hd | hd
      · exact n3 d hd
      · exact ⟨3, 4, ⟨_, hd⟩, by omega, by omega⟩
    · exact ⟨n1, by omega, n3⟩
  rintro f e ⟨rfl, hs, rfl, n1, n2, n3⟩
  dsimp only
  rw [wp_seq]
  refine wp_imp (P := fun f e => f = .nx ∧ ∃ hs : List D, e = [.io (.l l), .fro (.int h), .fro (.int w), .own (.l hs)] ∧ hs ≠ [] ∧ hs.length ≤ 5 ∧ ∀ d ∈ hs, Fit h w d) ?_ ?_
  · simp
    by_cases q1 : 3 < h
    · by_cases q2 : 3 < w
      · have q1' : (3 : Int) < h := by omega
        have q2' : (3 : Int) < w := by omega
        simp [q1', q2']
        refine wp_imp (unit_spec 4 (by omega)) ?_
        rintro s e ⟨d, rfl, rfl, f, hf⟩
        subst hf
        simp
        refine wp_imp (not_spec 4 4 f (by omega) (by omega)) ?_
        rintro s e ⟨rfl, rfl⟩
        simp
        refine ⟨by omega, by omega, fun d hd => ?_⟩
        rcases hd with hd | hd
        · exact n3 d hd
        · exact ⟨4, 4, ⟨_, hd⟩, by omega, by omega⟩
      · have q2' : ¬ (3 : Int) < w := by omega
        simp [q2']
        exact ⟨n1, by omega, n3⟩
    · have q1' : ¬ (3 : Int) < h := by omega
      simp [q1']
      exact ⟨n1, by omega, n3⟩
  rintro f e ⟨rfl, hs, rfl, n1, n2, n3⟩
  simp
  refine wp_imp (pick_spec hl hs n1 (by omega)) ?_
  rintro s e ⟨d, l', rfl, rfl, hl', hd⟩
  obtain ⟨a, b, ⟨f, rfl⟩, ha, hb⟩ := n3 d hd
  simp
  refine wp_imp (spread_spec hl' a b h w f ha hb hh hw) ?_
  rintro s e ⟨d, r, l', rfl, rfl, hl', hd⟩
  simp [hl', hd]
end L36

end
section
set_option Elab.async false
set_option linter.all false
set_option maxRecDepth 100000
set_option maxHeartbeats 4000000
namespace L36
open PySem PySem.Spec L2 Eng
open PyProof.Rows hiding St
theorem rect_spec {l : List D} (hl : Stor l) (h w : Nat) (hh : h ≤ 100) (hw : w ≤ 100) : wp m_law_rect [.io (.l l), .fro (.int h), .fro (.int w)] fun s e => ∃ (d : D) (l' : List D), s = .fro d ∧ e = [.io (.l l'), .fro (.int h), .fro (.int w)] ∧ Stor l' ∧ IsG h w d := by
  unfold m_law_rect b_law_rect
  simp
  refine wp_imp (take_spec hl _ (by decide)) ?_
  rintro s e ⟨z, l', rfl, rfl, hl', h0, h1⟩
  simp
  refine ⟨by omega, by omega, lc_invA (fun e => ∃ l', e = [.io (.l l'), .fro (.int h), .fro (.int w), .fro (.int (1 + z)), .emp, .emp, .emp, .emp, .emp] ∧ Stor l') (fun y => ∃ k : Int, y = .int k) ⟨_, rfl, hl'⟩ ?_ ?_ ?_⟩
  · rintro e ⟨l', rfl, _⟩; rfl
  · intro d hd e hJ
    obtain ⟨l', he, hl'⟩ := hJ
    subst he
    simp
    refine wp_imp (take_spec hl' _ (by omega)) ?_
    rintro s e ⟨k, l', rfl, rfl, hl', _, _⟩
    simp [hl']
  · intro cl e hJ hlen hb
    obtain ⟨l', he, hl'⟩ := hJ
    subst he
    rw [rangeD_len] at hlen
    simp
    refine ⟨by omega, forI (fun i e => ∃ (l' : List D) (c s t : Slot) (acc : List D), e = [.io (.l l'), .fro (.int h), .fro (.int w), .fro (.int (1 + z)), c, .own (.l acc), s, t, .emp] ∧ Stor l' ∧ (c = .own (.l cl) ∨ c = .fro (.lst cl)) ∧ noIo s = true ∧ noIo t = true ∧ acc.length = i ∧ ∀ d ∈ acc, IsLot w d) ⟨l', _, .emp, .emp, [], rfl, hl', .inl rfl, rfl, rfl, rfl, fun _ z => nomatch z⟩ ?_ ?_ ?_⟩
    · rintro i e ⟨_, c, s, t, acc, rfl, _, _, h, _⟩; exact ⟨s, rfl, h⟩
    · intro i d e hi hI
      obtain ⟨l', c, s, t, acc, he, hl', hc, hs, ht, ha, hy⟩ := hI
      subst he
      obtain ⟨hk, he⟩ := rng_get hi
      subst he
      simp
      refine wp_imp (take_spec hl' _ (by omega)) ?_
      rintro s e ⟨k, l', rfl, rfl, hl', _, _⟩
      simp only [putArgs_io, putArgs_v, putArgs_nil, putOb_eqn, putList_eq, myList_eq, myOb_eq, List.getElem?_cons_zero, List.getElem?_cons_succ, List.set_cons_zero, List.set_cons_succ, noIo_fro, noIo_emp, noIo_own, true_and, List.map_cons, List.map_nil]
      simp only [ht, true_and]
      rw [wp_bind, wp_append]
      refine ⟨rfl, ?_⟩
      rw [wp_cons, wp_bind, wp_cons, wp_frz, wp_lc]
      simp
      refine ⟨by omega, by omega, ?_⟩
      refine lc_lot (by omega) (fun e => ∃ c, e = [.io (.l l'), .fro (.int h), .fro (.int w), .fro (.int (1 + z)), c, .own (.l acc), .fro (.int i), .fro (.int k), .emp] ∧ (c = .own (.l cl) ∨ c = .fro (.lst cl))) ⟨_, rfl, hc⟩ ?_ ?_ ?_
      · rintro e ⟨b, rfl, _⟩; rfl
      · intro j e hj hJ
        obtain ⟨c, he, hc⟩ := hJ
        subst he
        have hj2 : j < cl.length := by omega
        obtain ⟨q, hq⟩ := hb _ (List.getElem_mem hj2)
        have hge : cl[j]? = some (.int q) := by rw [List.getElem?_eq_getElem hj2, hq]
        rcases hc with rfl | rfl
        all_goals
          simp [hge]
      · intro ys e hJ hys
        obtain ⟨c, he, hc⟩ := hJ
        subst he
        simp
        obtain ⟨q1, q2⟩ := lots_snoc ha hy hys
        exact ⟨by omega, l', _, _, _, _, ⟨rfl, rfl, rfl, rfl, rfl⟩, hl', hc, rfl, rfl, q1, q2⟩
    · intro e hI
      obtain ⟨l', c, s, t, acc, he, hl', hc, hs, ht, ha, hy⟩ := hI
      subst he
      rw [rangeD_len] at ha
      simp
      refine wp_imp (of_spec acc w w hw (by omega) hy) ?_
      rintro s e ⟨rfl, rfl⟩
      simp [hl']
      subst ha
      exact isG_lots rfl
theorem three (w : Nat) (a b c : D) (ha : IsLot w a) (hb : IsLot w b) (hc : IsLot w c) (z : Nat) (hz : z < 3) : ∃ d, [a, b, c][z]? = some d ∧ IsLot w d := by
  match z, hz with
  | 0, _ => exact ⟨a, rfl, ha⟩
  | 1, _ => exact ⟨b, rfl, hb⟩
  | 2, _ => exact ⟨c, rfl, hc⟩
theorem grid_spec {l : List D} (hl : Stor l) (h w : Nat) (hh : h ≤ 100) (hw : w ≤ 100) : wp m_law_grid [.io (.l l), .fro (.int h), .fro (.int w)] fun s e => ∃ (d : D) (l' : List D), s = .fro d ∧ e = [.io (.l l'), .fro (.int h), .fro (.int w)] ∧ Stor l' ∧ IsG h w d := by
  unfold m_law_grid b_law_grid
  simp
  refine wp_imp (take_spec hl _ (by decide)) ?_
  rintro s e ⟨z, l', rfl, rfl, hl', h0, h1⟩
  simp
  by_cases q0 : z = 0
  · subst q0
    simp
    refine wp_imp (take_spec hl' _ (by decide)) ?_
    rintro s e ⟨z, l', rfl, rfl, hl', h0, h1⟩
    obtain ⟨z, rfl⟩ := Int.eq_ofNat_of_zero_le h0
    have hz : z < 3 := by omega
    simp
    refine ⟨by omega, by omega, lc_range rfl (fun i => .int i) (fun i hi => by simp) ?_⟩
    simp
    refine ⟨by omega, by omega, lc_invA (fun e => e = [.io (.l l'), .fro (.int h), .fro (.int w), .fro (.int 0), .fro (.int z), .fro (.tup ((List.range w).map fun i => .int (i : Nat))), .emp, .emp, .emp]) (fun y => IsLot w y) rfl ?_ ?_ ?_⟩
    · rintro e rfl; rfl
    · intro d hd e hJ
      subst hJ
      obtain ⟨k, hk, he⟩ := rng_mem hd
      subst he
      simp
      refine ⟨by omega, by omega, lc_rangeF rfl (fun i => decide ((i : Int) = k)) (fun i => .int i) (fun i hi => by simp) ?_⟩
      simp
      obtain ⟨d, hd, hd2⟩ := three w (.tup []) (.tup ((List.range w).map fun i => .int (i : Nat))) (.tup (((List.range w).filter fun (i : Nat) => decide ((i : Int) = k)).map fun (i : Nat) => .int (i : Nat))) lot_nil (lot_range (by omega)) (lot_filt (n := w) _ (by omega)) z hz
      rw [hd]
      simp [hd2]
    · intro lots e hJ hlen hy
      subst hJ
      rw [rangeD_len] at hlen
      simp
      refine wp_imp (of_spec lots w w hw (by omega) hy) ?_
      rintro s e ⟨rfl, rfl⟩
      simp [hl']
      subst hlen
      exact isG_lots rfl
  by_cases q1 : z = 1
  · subst q1
    simp
    refine wp_imp (twin_spec hl' h w hh hw) ?_
    rintro s e ⟨d, l', rfl, rfl, hl', hd⟩
    simp [hl', hd]
  by_cases q2 : z = 2
  · subst q2
    simp
    refine wp_imp (twin_spec hl' w h hw hh) ?_
    rintro s e ⟨d, l', rfl, rfl, hl', f, rfl⟩
    simp
    refine wp_imp (turn_spec w h f hw hh) ?_
    rintro s e ⟨rfl, rfl⟩
    simp [hl']
    exact ⟨_, rfl⟩
  by_cases q3 : z = 3
  · subst q3
    simp
    refine wp_imp (between_spec hl' 0 _ (by split <;> omega)) ?_
    rintro s e ⟨k, l', rfl, rfl, hl', k1, k2⟩
    simp
    refine wp_imp (way_spec hl' k h w (by split at k2 <;> omega) (by split at k2 <;> omega) hh hw) ?_
    rintro s e ⟨d, l', rfl, rfl, hl', hd⟩
    simp [hl', hd]
  by_cases q4 : z = 4 ∧ 2 < h ∧ 2 < w
  · obtain ⟨rfl, h2, w2⟩ := q4
    have h2' : (2 : Int) < h := by omega
    have w2' : (2 : Int) < w := by omega
    simp [h2', w2']
    refine wp_imp (lost_spec hl' h w h2 w2 hh hw) ?_
    rintro s e ⟨d, l', rfl, rfl, hl', hd⟩
    simp [hl', hd]
  by_cases q5 : z = 5
  · subst q5
    simp
    refine wp_imp (rect_spec hl' h w hh hw) ?_
    rintro s e ⟨d, l', rfl, rfl, hl', hd⟩
    simp [hl', hd]
  by_cases q6 : z = 4
  · subst q6
    by_cases h2 : (2 : Int) < h
    · have w2 : ¬ (2 : Int) < w := by omega
      simp [h2, w2]
      refine wp_imp (free_spec hl' h w hh hw) ?_
      rintro s e ⟨d, l', rfl, rfl, hl', hd⟩
      simp [hl', hd]
    · simp [h2]
      refine wp_imp (free_spec hl' h w hh hw) ?_
      rintro s e ⟨d, l', rfl, rfl, hl', hd⟩
      simp [hl', hd]
  simp [q0, q1, q2, q3, q5, q6]
  refine wp_imp (free_spec hl' h w hh hw) ?_
  rintro s e ⟨d, l', rfl, rfl, hl', hd⟩
  simp [hl', hd]
theorem any_spec {l : List D} (hl : Stor l) (m n : Nat) (hm : m ≤ 100) (hn : n ≤ 100) : wp m_law_any [.io (.l l), .fro (.int m), .fro (.int n)] fun s e => ∃ (d : D) (l' : List D) (h w : Nat), s = .fro d ∧ e = [.io (.l l'), .fro (.int m), .fro (.int n)] ∧ Stor l' ∧ IsG h w d ∧ h ≤ m ∧ w ≤ n := by
  unfold m_law_any b_law_any
  simp
  refine wp_imp (sizes_spec hl m n (by omega) (by omega)) ?_
  rintro s e ⟨a, b, l', rfl, rfl, hl', ha, hb⟩
  simp
  refine wp_imp (grid_spec hl' a b (by omega) (by omega)) ?_
  rintro s e ⟨d, l', rfl, rfl, hl', hd⟩
  simp [hl']
  exact ⟨a, b, hd, by omega, by omega⟩
end L36

end
section
set_option Elab.async false
set_option linter.all false
set_option maxRecDepth 100000
set_option maxHeartbeats 4000000
namespace L36
open PySem PySem.Spec L2 Eng
open PyProof.Rows hiding St
def tabD (h w : Nat) (f : Nat → Nat → Bool) : D := .ins 0 [.tup (rowsD h w f), .int h, .int w, .tup [.int h, .int w]]
def rowL (w : Nat) (f : Nat → Bool) : D := .lst ((List.range w).map fun j => .bl (f j))
def rowsL (h w : Nat) (f : Nat → Nat → Bool) : List D := (List.range h).map fun i => rowL w (f i)
theorem rowsL_len {h w : Nat} {f : Nat → Nat → Bool} : (rowsL h w f).length = h := by simp [rowsL]
theorem rowsL_inv {h w i : Nat} {f : Nat → Nat → Bool} {d : D} (hi : (rowsL h w f)[i]? = some d) : i < h ∧ d = rowL w (f i) := by
  have hk : i < h := by
    rcases Nat.lt_or_ge i h with z | z
    · exact z
    · rw [List.getElem?_eq_none (by rw [rowsL_len]; exact z)] at hi; cases hi
  unfold rowsL at hi
  rw [List.getElem?_map, List.getElem?_range hk] at hi
  cases hi
  exact ⟨hk, rfl⟩
theorem in_range_spec (k m : Nat) (hk : k < m) : wp m_in_range [.fro (.int k), .fro (.int m)] fun s e => s = .fro (.bl true) ∧ e = [.fro (.int k), .fro (.int m)] := by
  unfold m_in_range b_in_range
  simp [dIsi, tyIs, tyName]
  omega
theorem width_of_spec (d : D) (w : Nat) : wp m_width_of [.fro d, .fro (.int w)] fun s e => s = .fro (.int w) ∧ e = [.fro d, .fro (.int w)] := by
  unfold m_width_of b_width_of
  simp [dIsNon]
theorem is_row_spec (w : Nat) (f : Nat → Bool) (hw : w ≤ 6) : wp m_is_row [.fro (rowL w f), .fro (.int w)] fun s e => s = .fro (.bl true) ∧ e = [.fro (rowL w f), .fro (.int w)] := by
  unfold m_is_row b_is_row rowL
  simp [dIsi, tyIs, tyName]
  have h6 : ¬ (6 : Int) < w := by omega
  refine ⟨by omega, by omega, lc_map rfl (fun d => .bl true) (fun d hd => ?_) ?_⟩
  · obtain ⟨i, hi, rfl⟩ := List.mem_map.mp hd
    simp [dIsi, tyIs, tyName]
  · simp
    rw [show ((fun d : D => D.bl true) ∘ fun j => D.bl (f j)) = fun _ => D.bl true from rfl, dBools_map]
    simp
theorem first_unfit_spec (h w : Nat) (f : Nat → Nat → Bool) (hh : h ≤ 6) (hw : w ≤ 6) : wp m_first_unfit [.fro (.lst (rowsL h w f)), .fro (.int w)] fun s e => s = .fro .non ∧ e = [.fro (.lst (rowsL h w f)), .fro (.int w)] := by
  unfold m_first_unfit b_first_unfit
  simp
  refine for_rule (fun i e => ∃ s t : Slot, e = [.fro (.lst (rowsL h w f)), .fro (.int w), s, t] ∧ noIo s = true ∧ noIo t = true) ⟨.emp, .emp, rfl, rfl, rfl⟩ ?_ ?_
  · intro i d e hi hI
    obtain ⟨s, t, he, hs, ht⟩ := hI
    subst he
    unfold enumD at hi
    rw [List.getElem?_mapIdx] at hi
    cases hd : (rowsL h w f)[i]? with
    | none => rw [hd] at hi; cases hi
    | some r =>
      rw [hd] at hi
      cases hi
      have hr := (rowsL_inv hd).2
      subst hr
      refine ⟨[.fro (.lst (rowsL h w f)), .fro (.int w), .fro (.int i), .fro (rowL w (f i))], by simp [Tg.set, setFros, hs, ht], ?_⟩
      simp
      refine wp_imp (is_row_spec w (f i) hw) ?_
      rintro s e ⟨rfl, rfl⟩
      simp
      exact ⟨_, _, ⟨rfl, rfl⟩, rfl, rfl⟩
  · rintro e ⟨s, t, rfl, hs, ht⟩
    simp
theorem init_spec (h w : Nat) (f : Nat → Nat → Bool) (hh : h ≤ 6) (hw : w ≤ 6) : wp m_Table_init [.io (.o 0 []), .fro (.lst (rowsL h w f)), .fro (.int w)] fun s e => s = .fro .non ∧ e = [.io (.o 0 [("cells", .tup (rowsD h w f)), ("height", .int h), ("width", .int w), ("size", .tup [.int h, .int w])]), .fro (.lst (rowsL h w f)), .fro (.int w)] := by
  unfold m_Table_init b_Table_init
  have h6 : ¬ (6 : Int) < h := by omega
  simp [dIsi, tyIs, tyName, rowsL_len, h6, dIsNon]
  refine wp_imp (in_range_spec w 7 (by omega)) ?_
  rintro s e ⟨rfl, rfl⟩
  simp
  refine wp_imp (width_of_spec _ w) ?_
  rintro s e ⟨rfl, rfl⟩
  simp
  refine wp_imp (first_unfit_spec h w f hh hw) ?_
  rintro s e ⟨rfl, rfl⟩
  simp [dIsNon, rowsL_len]
  refine ⟨by omega, lc_map rfl (fun d => match d with | .lst l => .tup l | d => d) (fun d hd => ?_) ?_⟩
  · obtain ⟨i, hi, rfl⟩ := List.mem_map.mp hd
    unfold rowL
    simp
  · have e1 : (rowsL h w f).map (fun d => match d with | .lst l => .tup l | d => d) = rowsD h w f := by
      unfold rowsL rowsD; rw [List.map_map]; rfl
    rw [e1]
    simp [putFD, rowsD_len, List.lookup]
end L36

end
section
set_option Elab.async false
set_option linter.all false
set_option maxRecDepth 100000
set_option maxHeartbeats 4000000
namespace L36
open PySem PySem.Spec L2 Eng
open PyProof.Rows hiding St
theorem new_tab {e : En} {P : D → En → Prop} (h w : Nat) (f : Nat → Nat → Bool) (hh : h ≤ 6) (hw : w ≤ 6) (hP : P (tabD h w f) e) : wp (mNew 0 ["cells", "height", "width", "size"] m_Table_init [.lst (rowsL h w f), .int w]) e P := by
  rw [wp_new]
  refine wp_imp (init_spec h w f hh hw) ?_
  rintro s e ⟨rfl, rfl⟩
  exact ⟨⟨rfl, rfl⟩, hP⟩
theorem rows_lst {h w : Nat} {f : Nat → Nat → Bool} : (rowsD h w f).map (fun d => match d with | .tup l => .lst l | d => d) = rowsL h w f := by
  unfold rowsL rowsD; rw [List.map_map]; rfl
theorem table_spec (h w : Nat) (f : Nat → Nat → Bool) (hh : h ≤ 6) (hw : w ≤ 6) : wp m_law_table [.fro (gridD h w f)] fun s e => s = .fro (tabD h w f) ∧ e = [.fro (gridD h w f)] := by
  unfold m_law_table b_law_table gridD
  simp [rowsD_len]
  refine ⟨by omega, lc_map rfl (fun d => match d with | .tup l => .lst l | d => d) (fun d hd => ?_) ?_⟩
  · obtain ⟨i, hi, rfl⟩ := mem_rows hd
    unfold rowD
    simp
    refine ⟨by omega, lc_map rfl (fun d => d) (fun d hd => by simp) ?_⟩
    simp
  · rw [rows_lst]
    simp
    exact new_tab h w f hh hw (by simp)
theorem rows_spec (h w : Nat) (f : Nat → Nat → Bool) (hh : h ≤ 6) (hw : w ≤ 6) : wp m_Table_rows [.fro (tabD h w f)] fun s e => s = .own (.l (rowsL h w f)) := by
  unfold m_Table_rows b_Table_rows tabD
  simp [rowsD_len]
  refine ⟨by omega, lc_map rfl (fun d => match d with | .tup l => .lst l | d => d) (fun d hd => ?_) ?_⟩
  · obtain ⟨i, hi, rfl⟩ := mem_rows hd
    unfold rowD
    simp
  · rw [rows_lst]
    simp
end L36

end
section
set_option Elab.async false
set_option linter.all false
set_option maxRecDepth 100000
set_option maxHeartbeats 4000000
namespace L36
open PySem PySem.Spec L2 Eng
open PyProof.Rows hiding St
def tupLst : D → D
  | .tup l => .lst l
  | d => d
theorem rows_tl {h w : Nat} {f : Nat → Nat → Bool} : (rowsD h w f).map tupLst = rowsL h w f := by
  unfold rowsL rowsD; rw [List.map_map]; rfl
/-- plain data that is like itself -/
def Plain : Nat → D → Prop
  | _, .bl _ => True
  | _, .int _ => True
  | _, .str _ => True
  | _, .non => True
  | n + 1, .lst l => l.length ≤ 1000 ∧ ∀ d ∈ l, Plain n d
  | n + 1, .tup l => l.length ≤ 1000 ∧ ∀ d ∈ l, Plain n d
  | _, _ => False
theorem same_refl : ∀ (n : Nat) (d : D), Plain n d → wp (mr_law_same (n + 1)) [.fro d, .fro d] fun s e => s = .fro (.bl true) ∧ e = [.fro d, .fro d] := by
  intro n
  induction n with
  | zero =>
    intro d hp
    rw [mr_law_same]
    cases d with
    | bl b => unfold b_law_same; simp [dIsi, tyIs, tyName, dIsNon]
    | int b => unfold b_law_same; simp [dIsi, tyIs, tyName, dIsNon]
    | str b => unfold b_law_same; simp [dIsi, tyIs, tyName, dIsNon]
    | non => unfold b_law_same; simp [dIsi, tyIs, tyName, dIsNon]
    | _ => exact hp.elim
  | succ n ih =>
    intro d hp
    rw [mr_law_same]
    cases d with
    | bl b => unfold b_law_same; simp [dIsi, tyIs, tyName, dIsNon]
    | int b => unfold b_law_same; simp [dIsi, tyIs, tyName, dIsNon]
    | str b => unfold b_law_same; simp [dIsi, tyIs, tyName, dIsNon]
    | non => unfold b_law_same; simp [dIsi, tyIs, tyName, dIsNon]
    | lst l =>
      obtain ⟨hl, hp⟩ := hp
      unfold b_law_same
      simp [dIsi, tyIs, tyName, dIsNon]
      refine ⟨by omega, by omega, lc_range rfl (fun _ => .bl true) (fun i hi => ?_) ?_⟩
      · simp [hi]
        refine wp_imp (ih _ (hp _ (List.getElem_mem hi))) ?_
        rintro s e ⟨rfl, rfl⟩
        simp
      · simp
    | tup l =>
      obtain ⟨hl, hp⟩ := hp
      unfold b_law_same
      simp [dIsi, tyIs, tyName, dIsNon]
      refine ⟨by omega, by omega, lc_range rfl (fun _ => .bl true) (fun i hi => ?_) ?_⟩
      · simp [hi]
        refine wp_imp (ih _ (hp _ (List.getElem_mem hi))) ?_
        rintro s e ⟨rfl, rfl⟩
        simp
      · simp
    | _ => exact hp.elim
theorem same_spec (d : D) (h : Plain 7 d) : wp m_law_same [.fro d, .fro d] fun s e => s = .fro (.bl true) ∧ e = [.fro d, .fro d] := same_refl 7 d h
theorem plain_rowsL {h w : Nat} {f : Nat → Nat → Bool} (hh : h ≤ 6) (hw : w ≤ 6) : Plain 7 (.lst (rowsL h w f)) := by
  refine ⟨by rw [rowsL_len]; omega, fun d hd => ?_⟩
  obtain ⟨i, hi, rfl⟩ := List.mem_map.mp hd
  refine ⟨by simp; omega, fun d hd => ?_⟩
  obtain ⟨j, hj, rfl⟩ := List.mem_map.mp hd
  trivial
theorem shows_spec (h w : Nat) (f : Nat → Nat → Bool) (hh : h ≤ 6) (hw : w ≤ 6) : wp m_law_shows [.fro (tabD h w f), .fro (gridD h w f)] fun s e => s = .fro (.bl true) ∧ e = [.fro (tabD h w f), .fro (gridD h w f)] := by
  unfold m_law_shows b_law_shows
  have hT : tabD h w f = .ins 0 [.tup (rowsD h w f), .int h, .int w, .tup [.int h, .int w]] := rfl
  have hG : gridD h w f = .tup [.str "table", .int h, .int w, .tup (rowsD h w f)] := rfl
  rw [hT, hG]
  simp [dIsi]
  refine wp_imp (same_spec _ ⟨by simp, fun d hd => by simp at hd; rcases hd with rfl | rfl <;> trivial⟩) ?_
  rintro s e ⟨rfl, rfl⟩
  simp
  rw [← hT]
  refine wp_imp (rows_spec h w f hh hw) ?_
  rintro s e rfl
  simp [rowsD_len]
  refine ⟨by omega, lc_map rfl tupLst (fun d hd => ?_) ?_⟩
  · obtain ⟨i, hi, rfl⟩ := mem_rows hd
    unfold rowD
    simp
    refine ⟨by omega, lc_map rfl (fun d => d) (fun d hd => by simp) ?_⟩
    simp [tupLst]
  · simp
    rw [rows_tl]
    refine wp_imp (same_spec _ (plain_rowsL hh hw)) ?_
    rintro s e ⟨rfl, rfl⟩
    simp
@[simp] theorem isI_tab {h w : Nat} {f : Nat → Nat → Bool} : IsI 0 (tabD h w f) = True := eq_true ⟨_, rfl⟩
theorem nn (f : Nat → Nat → Bool) : (fun i j => !!f i j) = f := by funext i j; simp
def tabOf : D → D
  | .tup [_, .int h, .int w, .tup rows] => .ins 0 [.tup rows, .int h, .int w, .tup [.int h, .int w]]
  | d => d
theorem tabOf_grid {h w : Nat} {f : Nat → Nat → Bool} : tabOf (gridD h w f) = tabD h w f := rfl
end L36

end
section
set_option Elab.async false
set_option linter.all false
set_option maxRecDepth 100000
set_option maxHeartbeats 4000000
namespace L36
open PySem PySem.Spec L2 Eng
open PyProof.Rows hiding St
theorem sub_lot {lim : Nat} {d : D} {p : D → Bool} {l : List D} (hd : IsLot lim (.tup l)) : IsLot lim (.tup (l.filter p)) := by
  obtain ⟨ks, e, h1, h2⟩ := hd
  have el : l = ks.map fun (i : Nat) => D.int (i : Nat) := by cases e; rfl
  subst el
  refine lot_of (Nat.le_trans (List.length_filter_le _ _) (by simpa using h1)) fun y hy => ?_
  obtain ⟨k, hk, rfl⟩ := List.mem_map.mp (List.mem_filter.mp hy).1
  exact ⟨k, h2 k hk, rfl⟩
theorem lot_tup {lim : Nat} {d : D} (h : IsLot lim d) : ∃ l, d = .tup l ∧ l.length ≤ 1000 ∧ ∀ x ∈ l, ∃ k : Nat, k < lim ∧ x = .int (k : Nat) := by
  obtain ⟨ks, rfl, h1, h2⟩ := h
  refine ⟨ks.map fun (i : Nat) => D.int (i : Nat), rfl, by simpa using h1, fun x hx => ?_⟩
  obtain ⟨k, hk, rfl⟩ := List.mem_map.mp hx
  exact ⟨k, h2 k hk, rfl⟩
theorem less_spec (n m : Nat) (a b : D) (ha : IsLot n a) (hb : IsLot m b) : wp m_law_less [.fro a, .fro b] fun s e => ∃ d, s = .fro d ∧ e = [.fro a, .fro b] ∧ IsLot n d := by
  obtain ⟨l, rfl, hl, hx⟩ := lot_tup ha
  unfold m_law_less b_law_less
  simp
  refine ⟨by omega, lc_filt rfl (fun d => match d with | .int i => !(inB i.toNat b) | _ => false) (fun d => d) (fun d hd => ?_) ?_⟩
  · obtain ⟨k, hk, rfl⟩ := hx d hd
    simp [in_of hb]
  · simp
    exact sub_lot (d := .non) ha
theorem flip_spec (h w : Nat) (f : Nat → Nat → Bool) (hh : h ≤ 100) (hw : w ≤ 100) (i k : Nat) (hi : i < h) (hk : k < w) : wp m_law_flip [.fro (gridD h w f), .fro (.int i), .fro (.int k)] fun s e => ∃ d, s = .fro d ∧ e = [.fro (gridD h w f), .fro (.int i), .fro (.int k)] ∧ IsG h w d := by
  unfold m_law_flip b_law_flip
  simp
  refine wp_imp (lots_spec h w f hh hw) ?_
  rintro s e ⟨lots, rfl, rfl, hlen, hlot⟩
  have hil : i < lots.length := by omega
  have hlt : IsLot w lots[i] := hlot _ (List.getElem_mem hil)
  have ix : ixN lots.length i = some i := by
    unfold ixN
    simp
    omega
  simp [hil]
  rw [in_of hlt]
  simp
  by_cases q : inB k lots[i] = true
  · simp [q]
    refine wp_imp (less_spec w w _ _ hlt (lot_one hk)) ?_
    rintro s e ⟨d, rfl, rfl, hd⟩
    unfold gridD
    simp only [putArgs_io, putArgs_v, putArgs_nil, putOb_eqn, putList_eq, myList_eq, myOb_eq, List.getElem?_cons_zero, List.getElem?_cons_succ, List.set_cons_zero, List.set_cons_succ, noIo_fro, noIo_emp, noIo_own, true_and, List.map_cons, List.map_nil]
    simp [ix]
    refine wp_imp (of_spec _ w w hw (by simp; omega) fun x hx => ?_) ?_
    · rcases List.mem_or_eq_of_mem_set hx with z | z
      · exact hlot x z
      · rw [z]; exact hd
    rintro s e ⟨rfl, rfl⟩
    simp
    have := isG_lots (w := w) (h := h) (lots := lots.set i d) (by simp [hlen])
    simpa [hlen] using this
  · simp [q]
    refine wp_imp (join_spec _ w (by simp) fun x hx => ?_) ?_
    · simp at hx
      rcases hx with rfl | rfl
      · exact hlt
      · exact lot_one hk
    rintro s e ⟨d, rfl, rfl, hd⟩
    unfold gridD
    simp only [putArgs_io, putArgs_v, putArgs_nil, putOb_eqn, putList_eq, myList_eq, myOb_eq, List.getElem?_cons_zero, List.getElem?_cons_succ, List.set_cons_zero, List.set_cons_succ, noIo_fro, noIo_emp, noIo_own, true_and, List.map_cons, List.map_nil]
    simp [ix]
    refine wp_imp (of_spec _ w w hw (by simp; omega) fun x hx => ?_) ?_
    · rcases List.mem_or_eq_of_mem_set hx with z | z
      · exact hlot x z
      · rw [z]; exact hd
    rintro s e ⟨rfl, rfl⟩
    simp
    have := isG_lots (w := w) (h := h) (lots := lots.set i d) (by simp [hlen])
    simpa [hlen] using this
theorem bent_spec {l : List D} (hl : Stor l) (h w : Nat) (f : Nat → Nat → Bool) (hh : h ≤ 100) (hw : w ≤ 100) : wp m_law_bent_grid [.io (.l l), .fro (gridD h w f)] fun s e => ∃ (d : D) (l' : List D), s = .fro d ∧ e = [.io (.l l'), .fro (gridD h w f)] ∧ Stor l' ∧ IsG h w d := by
  have hm : (h : Int) * w ≤ 10000 := by exact_mod_cast Nat.mul_le_mul hh hw
  have sm : (cSmall (h : Int) || cSmall (w : Int)) = true := by simp [cSmall]; omega
  have hG : gridD h w f = .tup [.str "table", .int h, .int w, .tup (rowsD h w f)] := rfl
  unfold m_law_bent_grid b_law_bent_grid
  rw [hG]
  simp [sm]
  refine wp_imp (take_spec hl _ (by omega)) ?_
  rintro s e ⟨k, l', rfl, rfl, hl', h0, h1⟩
  simp [sm]
  by_cases q : h = 0 ∨ w = 0
  · have zz : (h : Int) * w = 0 := by rcases q with rfl | rfl <;> simp
    simp [zz, hl']
    exact ⟨f, rfl⟩
  · have hh0 : 0 < h := by omega
    have hw0 : 0 < w := by omega
    have hpos : 0 < (h : Int) * w := Int.mul_pos (by omega) (by omega)
    have hk : k < (h : Int) * w := by
      rcases h1 with z | ⟨z, rfl⟩
      · exact z
      · exact hpos
    obtain ⟨n, rfl⟩ := Int.eq_ofNat_of_zero_le h0
    have hn : n < h * w := by exact_mod_cast hk
    have i1 : n / w < h := Nat.div_lt_of_lt_mul (by rw [Nat.mul_comm]; exact hn)
    have i2 : n % w < w := Nat.mod_lt _ hw0
    have cd : cDiv (w : Int) = true := by simp [cDiv]; omega
    have zz : ¬ (h : Int) * w = 0 := by omega
    simp [zz, cd, hw0, hl']
    refine ⟨by omega, ?_⟩
    rw [show ((n : Int) / w) = ((n / w : Nat) : Int) by simp, show ((n : Int) % w) = ((n % w : Nat) : Int) by simp]
    refine wp_imp (flip_spec h w f hh hw (n / w) (n % w) i1 i2) ?_
    rintro s e ⟨d, rfl, rfl, hd⟩
    simp [hl', hd]
/-- the columns in which row i is yes -/
def inR (w : Nat) (f : Nat → Nat → Bool) (i : Nat) : List Nat := (List.range w).filter fun j => f i j
def rlots (h w : Nat) (f : Nat → Nat → Bool) : List D := (List.range h).map fun i => lotD (inR w f i)
theorem rlots_len {h w : Nat} {f : Nat → Nat → Bool} : (rlots h w f).length = h := by simp [rlots]
theorem rlots_get {h w i : Nat} {f : Nat → Nat → Bool} (hi : i < h) : (rlots h w f)[i]? = some (lotD (inR w f i)) := by
  unfold rlots
  rw [List.getElem?_map, List.getElem?_range hi]
  rfl
theorem lots_ex (h w : Nat) (f : Nat → Nat → Bool) (hh : h ≤ 100) (hw : w ≤ 100) : wp m_law_lots [.fro (gridD h w f)] fun s e => s = .own (.l (rlots h w f)) ∧ e = [.fro (gridD h w f)] := by
  unfold m_law_lots b_law_lots gridD
  simp
  refine forI (fun i e => ∃ (s : Slot), noIo s = true ∧ e = [.fro (gridD h w f), .own (.l (rlots i w f)), s, .emp]) ⟨.emp, rfl, rfl⟩ ?_ ?_ ?_
  · rintro i e ⟨s, h, rfl⟩; exact ⟨s, rfl, h⟩
  · rintro i d e hi ⟨s, hs, rfl⟩
    have hr := (rowsD_inv hi).1
    have he := (rowsD_inv hi).2
    subst he
    have hl : (rlots i w f).length ≤ 100 := by rw [rlots_len]; omega
    unfold gridD rowD
    simp
    refine ⟨by omega, by omega, lc_rangeF rfl (fun j => f i j) (fun j => .int j) (fun j hj => ?_) ?_⟩
    · simp [hj]
    · simp
      refine ⟨by omega, ?_⟩
      unfold rlots
      rw [List.range_succ, List.map_append]
      rfl
  · rintro e ⟨s, hs, rfl⟩
    unfold gridD
    simp [rowsD_len]
theorem enum_row {w : Nat} {p : Nat → Bool} : enumD ((List.range w).map fun j => .bl (p j)) = ((List.range w).map fun j => (D.int (j : Nat), D.bl (p j))).map fun q => .tup [q.1, q.2] := by
  unfold enumD
  rw [List.map_map]
  apply List.ext_getElem?
  intro i
  rw [List.getElem?_mapIdx, List.getElem?_map, List.getElem?_map]
  by_cases q : i < w
  · rw [List.getElem?_range q]; rfl
  · rw [List.getElem?_eq_none (by simp; omega)]; rfl
def isY : Option D → Bool
  | some (.bl b) => b
  | _ => false
def cellLot (w : Nat) : D → D
  | .tup l => lotD ((List.range w).filter fun j => isY l[j]?)
  | d => d
theorem cellLot_row {w : Nat} {p : Nat → Bool} : cellLot w (rowD w p) = lotD ((List.range w).filter p) := by
  unfold cellLot rowD
  dsimp only
  congr 1
  apply List.filter_congr
  intro j hj
  rw [List.getElem?_map, List.getElem?_range (List.mem_range.mp hj)]
  rfl
/-! ### the faults -/
def selfR (f : Nat → Nat → Bool) (i : Nat) : Option D := if f i i = true then none else some (.tup [.str "self", .int i])
def nOf : D → Nat
  | .int i => i.toNat
  | _ => 0
theorem in_rl {n i j : Nat} {f : Nat → Nat → Bool} (hj : j < n) : dInB (.int j) (lotD (inR n f i)) = some (f i j) := by
  rw [Eng.in_lot]
  congr 1
  have q : ((j : Int) ∈ (inR n f i).map fun (i : Nat) => (i : Int)) ↔ f i j = true := by
    unfold inR
    constructor
    · intro z
      obtain ⟨k, hk, e⟩ := List.mem_map.mp z
      have e2 : k = j := by omega
      subst e2
      exact (List.mem_filter.mp hk).2
    · intro z
      exact List.mem_map.mpr ⟨j, List.mem_filter.mpr ⟨List.mem_range.mpr hj, z⟩, rfl⟩
  cases e : f i j
  · rw [decide_eq_false_iff_not, q, e]; simp
  · rw [decide_eq_true_eq, q, e]
theorem enum_rl {h w : Nat} {f : Nat → Nat → Bool} : enumD (rlots h w f) = (List.range h).map fun i => .tup [.int (i : Nat), lotD (inR w f i)] := by
  unfold enumD rlots
  apply List.ext_getElem?
  intro i
  rw [List.getElem?_mapIdx, List.getElem?_map, List.getElem?_map]
  by_cases q : i < h
  · rw [List.getElem?_range q]; rfl
  · rw [List.getElem?_eq_none (by simp; omega)]; rfl
end L36

end
section
set_option Elab.async false
set_option linter.all false
set_option maxRecDepth 100000
set_option maxHeartbeats 4000000
namespace L36
open PySem PySem.Spec L2 Eng
open PyProof.Rows hiding St
/-! ### exact words of the law's own helpers -/
theorem rowD_congr {w : Nat} {p q : Nat → Bool} (h : ∀ j, j < w → p j = q j) : rowD w p = rowD w q := by
  unfold rowD
  congr 1
  apply List.map_congr_left
  intro j hj
  rw [h j (List.mem_range.mp hj)]
theorem rowsD_congr {h w : Nat} {f g : Nat → Nat → Bool} (e : ∀ i j, i < h → j < w → f i j = g i j) : rowsD h w f = rowsD h w g := by
  unfold rowsD
  apply List.map_congr_left
  intro i hi
  exact rowD_congr fun j hj => e i j (List.mem_range.mp hi) hj
theorem gridD_congr {h w : Nat} {f g : Nat → Nat → Bool} (e : ∀ i j, i < h → j < w → f i j = g i j) : gridD h w f = gridD h w g := by
  unfold gridD
  rw [rowsD_congr e]
theorem tabD_congr {h w : Nat} {f g : Nat → Nat → Bool} (e : ∀ i j, i < h → j < w → f i j = g i j) : tabD h w f = tabD h w g := by
  unfold tabD
  rw [rowsD_congr e]
theorem inB_lot {j : Nat} {ks : List Nat} : inB j (lotD ks) = decide (j ∈ ks) := by
  unfold inB
  rw [Eng.in_lot]
  have q : ((j : Int) ∈ ks.map fun (i : Nat) => (i : Int)) ↔ j ∈ ks := by
    constructor
    · intro z
      obtain ⟨k, hk, e⟩ := List.mem_map.mp z
      have e2 : k = j := by omega
      exact e2 ▸ hk
    · intro z
      exact List.mem_map.mpr ⟨j, z, rfl⟩
  by_cases z : j ∈ ks
  · rw [decide_eq_true (q.mpr z), decide_eq_true z]; rfl
  · rw [decide_eq_false fun y => z (q.mp y), decide_eq_false z]; rfl
theorem dIn_lot {j : Nat} {ks : List Nat} : dInB (.int j) (lotD ks) = some (decide (j ∈ ks)) := by
  have q := @inB_lot j ks
  unfold inB at q
  rw [Eng.in_lot] at q ⊢
  congr 1
  simpa using q
/-- lots told as lists of numbers -/
theorem of_ex (ls : List (List Nat)) (w lim : Nat) (hw : w ≤ 100) (hn : ls.length ≤ 1000) (hl : ∀ ks ∈ ls, IsLot lim (lotD ks)) : wp m_law_of [.fro (.lst (ls.map lotD)), .fro (.int w)] fun s e => s = .fro (gridD ls.length w fun i j => decide (j ∈ (ls[i]?).getD [])) ∧ e = [.fro (.lst (ls.map lotD)), .fro (.int w)] := by
  refine wp_imp (of_spec (ls.map lotD) w lim hw (by simpa using hn) fun d hd => ?_) ?_
  · obtain ⟨ks, hk, rfl⟩ := List.mem_map.mp hd
    exact hl ks hk
  · rintro s e ⟨rfl, rfl⟩
    refine ⟨?_, rfl⟩
    have e1 : (ls.map lotD).map (rowOf w) = rowsD ls.length w fun i j => decide (j ∈ (ls[i]?).getD []) := by
      unfold rowsD
      rw [List.map_map]
      apply List.ext_getElem?
      intro i
      rw [List.getElem?_map, List.getElem?_map]
      by_cases q : i < ls.length
      · rw [List.getElem?_range q, List.getElem?_eq_getElem q]
        show some _ = some _
        congr 1
        show rowD w _ = rowD w _
        refine rowD_congr fun j _ => ?_
        rw [inB_lot]
        simp [List.getElem?_eq_getElem q]
      · rw [List.getElem?_eq_none (by omega), List.getElem?_eq_none (by simp; omega)]
        rfl
    rw [e1, List.length_map]
    rfl
/-- the numbers below 6 that are in one of the lots -/
def joinN (ls : List (List Nat)) : List Nat := (List.range 6).filter fun k => ls.any fun m => decide (k ∈ m)
theorem any_in {k : Nat} {ls : List (List Nat)} : (∃ d, d ∈ ls.map lotD ∧ inB k d = true) ↔ (ls.any fun m => decide (k ∈ m)) = true := by
  rw [List.any_eq_true]
  constructor
  · rintro ⟨d, hd, h⟩
    obtain ⟨m, hm, rfl⟩ := List.mem_map.mp hd
    rw [inB_lot] at h
    exact ⟨m, hm, h⟩
  · rintro ⟨m, hm, h⟩
    exact ⟨lotD m, List.mem_map.mpr ⟨m, hm, rfl⟩, by rw [inB_lot]; exact h⟩
theorem natsD_snoc {l : List Nat} {k : Nat} : natsD (l ++ [k]) = natsD l ++ [.int (k : Nat)] := by
  unfold natsD
  rw [List.map_append]
  rfl
theorem join_ex (ls : List (List Nat)) (lim : Nat) (hn : ls.length ≤ 100000) (hl : ∀ ks ∈ ls, IsLot lim (lotD ks)) : wp m_law_join [.fro (.lst (ls.map lotD))] fun s e => s = .fro (lotD (joinN ls)) ∧ e = [.fro (.lst (ls.map lotD))] := by
  unfold m_law_join b_law_join
  have ai := @any_in
  have hl2 : ∀ d ∈ ls.map lotD, IsLot lim d := fun d hd => by
    obtain ⟨m, hm, rfl⟩ := List.mem_map.mp hd
    exact hl m hm
  have hn2 : (ls.map lotD).length ≤ 100000 := by simpa using hn
  have ai2 : ∀ k : Nat, (∃ d, d ∈ ls.map lotD ∧ inB k d = true) ↔ (ls.any fun m => decide (k ∈ m)) = true := fun k => any_in
  generalize hL : ls.map lotD = lots at hl2 hn2 ai2 ⊢
  clear ai hL
  simp
  refine forI (fun i e => ∃ (s : Slot), noIo s = true ∧ e = [.fro (.lst lots), .own (.l (natsD ((List.range i).filter fun k => ls.any fun m => decide (k ∈ m)))), s, .emp]) ⟨.emp, rfl, rfl⟩ ?_ ?_ ?_
  · rintro i e ⟨s, h, rfl⟩; exact ⟨s, rfl, h⟩
  · rintro i d e hi ⟨s, h, rfl⟩
    obtain ⟨hk, rfl⟩ := rangeD_get hi
    have len : (natsD ((List.range i).filter fun k => ls.any fun m => decide (k ∈ m))).length ≤ 6 := by
      unfold natsD
      rw [List.length_map]
      exact Nat.le_trans (List.length_filter_le _ _) (by simp; omega)
    have nx : natsD ((List.range (i + 1)).filter fun k => ls.any fun m => decide (k ∈ m)) = if (ls.any fun m => decide (i ∈ m)) = true then natsD ((List.range i).filter fun k => ls.any fun m => decide (k ∈ m)) ++ [.int (i : Nat)] else natsD ((List.range i).filter fun k => ls.any fun m => decide (k ∈ m)) := by
      rw [List.range_succ, List.filter_append]
      by_cases z : (ls.any fun m => decide (i ∈ m)) = true
      · rw [if_pos z, List.filter_cons, if_pos z]
        exact natsD_snoc
      · rw [if_neg z, List.filter_cons, if_neg z]
        simp
    rw [nx]
    generalize natsD ((List.range i).filter fun k => ls.any fun m => decide (k ∈ m)) = acc at len ⊢
    simp
    refine ⟨by omega, lc_map rfl (fun d => .bl (inB i d)) (fun d hd => ?_) ?_⟩
    · simp
      rw [in_of (hl2 d hd)]
    · by_cases z : (ls.any fun m => decide (i ∈ m)) = true
      · have z2 := (ai2 i).mpr z
        rw [if_pos z]
        simp
        exact ⟨z2, by omega⟩
      · have z2 := fun y => z ((ai2 i).mp y)
        rw [if_neg z]
        simp
        intro x hx
        cases y : inB i x with
        | false => rfl
        | true => exact (z2 ⟨x, hx, y⟩).elim
  · rintro e ⟨s, h, rfl⟩
    simp
    rfl
theorem joinN_len {ls : List (List Nat)} : (joinN ls).length ≤ 6 := by
  unfold joinN
  exact Nat.le_trans (List.length_filter_le _ _) (by simp)
theorem joinN_lot {ls : List (List Nat)} {lim : Nat} (h : ∀ ks ∈ ls, IsLot lim (lotD ks)) : IsLot lim (lotD (joinN ls)) := by
  refine ⟨joinN ls, rfl, Nat.le_trans joinN_len (by omega), fun k hk => ?_⟩
  obtain ⟨_, hp⟩ := List.mem_filter.mp hk
  obtain ⟨m, hm, hk2⟩ := List.any_eq_true.mp hp
  obtain ⟨ks, e, _, hx⟩ := h m hm
  have e2 : natsD m = natsD ks := D.tup.inj e
  have e3 : m = ks := by
    have inj : ∀ (l l2 : List Nat), natsD l = natsD l2 → l = l2 := by
      intro l
      induction l with
      | nil => intro l2 q; cases l2 with
        | nil => rfl
        | cons a r => cases q
      | cons a r ih => intro l2 q; cases l2 with
        | nil => cases q
        | cons b r2 =>
          have q2 : D.int (a : Nat) :: natsD r = D.int (b : Nat) :: natsD r2 := q
          obtain ⟨q3, q4⟩ := List.cons.inj q2
          have q5 : (a : Int) = b := D.int.inj q3
          rw [ih r2 q4, Int.ofNat_inj.mp q5]
    exact inj _ _ e2
  subst e3
  exact hx k (of_decide_eq_true hk2)
theorem through_ex (ks : List Nat) (ls : List (List Nat)) (lim : Nat) (hk : ∀ k ∈ ks, k < ls.length) (hkl : ks.length ≤ 1000) (hn : ls.length ≤ 1000) (hl : ∀ m ∈ ls, IsLot lim (lotD m)) : wp m_law_through [.fro (lotD ks), .fro (.lst (ls.map lotD))] fun s e => s = .fro (lotD (joinN (ks.map fun k => (ls[k]?).getD []))) ∧ e = [.fro (lotD ks), .fro (.lst (ls.map lotD))] := by
  have hl2 : lotD ks = .tup (natsD ks) := rfl
  have g : ∀ k ∈ ks, (ls.map lotD)[k]? = some (lotD ((ls[k]?).getD [])) := fun k z => by
    rw [List.getElem?_map, List.getElem?_eq_getElem (hk k z)]
    rfl
  have nl : (natsD ks).length ≤ 1000 := by simpa [natsD] using hkl
  have fin := join_ex (ks.map fun k => (ls[k]?).getD []) lim (by simp; omega) fun m hm => by
    obtain ⟨k, hk2, rfl⟩ := List.mem_map.mp hm
    rw [List.getElem?_eq_getElem (hk k hk2)]
    exact hl _ (List.getElem_mem _)
  unfold m_law_through b_law_through
  rw [hl2]
  generalize hL : ls.map lotD = lots at g ⊢
  simp
  refine ⟨by omega, lc_map rfl (fun d => lotD ((ls[nOf d]?).getD [])) (fun d hd => ?_) ?_⟩
  · obtain ⟨k, hk2, rfl⟩ := List.mem_map.mp hd
    simp [g k hk2, nOf]
  · have e1 : (natsD ks).map (fun d => lotD ((ls[nOf d]?).getD [])) = (ks.map fun k => (ls[k]?).getD []).map lotD := by
      simp [natsD, Function.comp_def, nOf]
    rw [e1]
    generalize (ks.map fun k => (ls[k]?).getD []).map lotD = zs at fin ⊢
    simp
    refine wp_imp fin ?_
    rintro s e ⟨rfl, rfl⟩
    simp
/-- the cells of a product -/
def prodF (b : Nat) (f g : Nat → Nat → Bool) : Nat → Nat → Bool := fun i j => (List.range b).any fun k => f i k && g k j
theorem rlots_map {h w : Nat} {f : Nat → Nat → Bool} : rlots h w f = ((List.range h).map (inR w f)).map lotD := by
  unfold rlots
  rw [List.map_map]
  rfl
theorem behind_ex (a b c : Nat) (f g : Nat → Nat → Bool) (ha : a ≤ 100) (hb : b ≤ 100) (hc : c ≤ 6) : wp m_law_behind [.fro (gridD a b f), .fro (gridD b c g)] fun s e => s = .fro (gridD a c (prodF b f g)) ∧ e = [.fro (gridD a b f), .fro (gridD b c g)] := by
  have lotR : ∀ n w (f : Nat → Nat → Bool), w ≤ 1000 → ∀ ks ∈ (List.range n).map (inR w f), IsLot w (lotD ks) := fun n w f hw ks hk => by
    obtain ⟨i, _, rfl⟩ := List.mem_map.mp hk
    exact ⟨_, rfl, Nat.le_trans (List.length_filter_le _ _) (by simpa using hw), fun j hj => List.mem_range.mp (List.mem_filter.mp hj).1⟩
  unfold m_law_behind b_law_behind
  simp
  refine wp_imp (lots_ex b c g hb (by omega)) ?_
  rintro s e ⟨rfl, rfl⟩
  simp
  refine wp_imp (lots_ex a b f ha hb) ?_
  rintro s e ⟨rfl, rfl⟩
  have la : (rlots a b f).length ≤ 100 := by rw [rlots_len]; exact ha
  simp
  have el : ∀ i, i < a → (rlots a b f)[i]? = some (lotD (inR b f i)) := fun i hi => rlots_get hi
  refine ⟨by omega, ?_⟩
  have e9 : ∀ i, i < a → gridD a c (prodF b f g) = gridD a c (prodF b f g) := fun _ _ => rfl
  let row : Nat → List Nat := fun i => joinN ((inR b f i).map fun k => (((List.range b).map (inR c g))[k]?).getD [])
  refine lc_mapJ (fun e => ∃ x, e = [.fro (gridD a b f), .fro (gridD b c g), x, .emp] ∧ (x = .own (.l (rlots b c g)) ∨ x = .fro (.lst (rlots b c g)))) (List.range a) (fun i => lotD (inR b f i)) (fun i => lotD (row i)) rfl ⟨_, rfl, .inl rfl⟩ ?_ ?_ ?_
  · rintro e ⟨x, rfl, _⟩; rfl
  · intro i hi e hJ
    obtain ⟨x, he, hx⟩ := hJ
    subst he
    have th := through_ex (inR b f i) ((List.range b).map (inR c g)) c (fun k hk => by rw [List.length_map, List.length_range]; exact List.mem_range.mp (List.mem_filter.mp hk).1) (Nat.le_trans (List.length_filter_le _ _) (by simp; omega)) (by simp; omega) (lotR b c g (by omega))
    rw [← rlots_map] at th
    rcases hx with rfl | rfl
    all_goals
      simp
      refine wp_imp th ?_
      rintro s e ⟨rfl, rfl⟩
      simp [row]
  · intro e hJ
    obtain ⟨x, he, hx⟩ := hJ
    subst he
    have rowL : ∀ ks ∈ (List.range a).map row, IsLot c (lotD ks) := fun ks hk => by
      obtain ⟨i, hi, rfl⟩ := List.mem_map.mp hk
      refine joinN_lot fun m hm => ?_
      obtain ⟨k, hk2, rfl⟩ := List.mem_map.mp hm
      have kb : k < b := List.mem_range.mp (List.mem_filter.mp hk2).1
      rw [List.getElem?_map, List.getElem?_range kb]
      exact lotR b c g (by omega) _ (List.mem_map.mpr ⟨k, List.mem_range.mpr kb, rfl⟩)
    have ofs := of_ex ((List.range a).map row) c c (by omega) (by simp; omega) rowL
    have cells : gridD ((List.range a).map row).length c (fun i j => decide (j ∈ (((List.range a).map row)[i]?).getD [])) = gridD a c (prodF b f g) := by
      rw [List.length_map, List.length_range]
      refine gridD_congr fun i j hi hj => ?_
      rw [List.getElem?_map, List.getElem?_range hi]
      show decide (j ∈ row i) = _
      have q : j ∈ row i ↔ prodF b f g i j = true := by
        unfold prodF
        rw [List.any_eq_true]
        constructor
        · intro z
          obtain ⟨_, z2⟩ := List.mem_filter.mp z
          obtain ⟨m, hm, hj2⟩ := List.any_eq_true.mp z2
          obtain ⟨k, hk, rfl⟩ := List.mem_map.mp hm
          obtain ⟨kb, fk⟩ := List.mem_filter.mp hk
          rw [List.getElem?_map, List.getElem?_range (List.mem_range.mp kb)] at hj2
          have gj := (List.mem_filter.mp (of_decide_eq_true hj2)).2
          exact ⟨k, kb, by rw [Bool.and_eq_true_iff]; exact ⟨fk, gj⟩⟩
        · rintro ⟨k, kb, z⟩
          obtain ⟨fk, gj⟩ := Bool.and_eq_true_iff.mp z
          refine List.mem_filter.mpr ⟨List.mem_range.mpr (by omega), List.any_eq_true.mpr ⟨inR c g k, List.mem_map.mpr ⟨k, List.mem_filter.mpr ⟨kb, fk⟩, ?_⟩, ?_⟩⟩
          · rw [List.getElem?_map, List.getElem?_range (List.mem_range.mp kb)]; rfl
          · exact decide_eq_true (List.mem_filter.mpr ⟨List.mem_range.mpr hj, gj⟩)
      cases y : prodF b f g i j
      · rw [decide_eq_false_iff_not, q, y]; simp
      · rw [decide_eq_true_eq, q, y]
    rw [cells, List.map_map] at ofs
    have e0 : (List.range a).map (fun i => lotD (row i)) = (List.range a).map (lotD ∘ row) := rfl
    rw [e0]
    generalize (List.range a).map (lotD ∘ row) = zs at ofs ⊢
    have hG : ∀ h w f, gridD h w f = .tup [.str "table", .int h, .int w, .tup (rowsD h w f)] := fun _ _ _ => rfl
    rw [hG b c g]
    rcases hx with rfl | rfl
    all_goals
      simp
      refine wp_imp ofs ?_
      rintro s e ⟨rfl, rfl⟩
      simp
@[simp] theorem gridD_1 {h w : Nat} {f : Nat → Nat → Bool} {e : En} {P : D → En → Prop} : wp (dIx (gridD h w f) (.int 1)) e P = P (.int h) e := by
  unfold gridD
  simp
@[simp] theorem gridD_2 {h w : Nat} {f : Nat → Nat → Bool} {e : En} {P : D → En → Prop} : wp (dIx (gridD h w f) (.int 2)) e P = P (.int w) e := by
  unfold gridD
  simp
end L36

end
section
set_option Elab.async false
set_option linter.all false
set_option maxRecDepth 100000
set_option maxHeartbeats 4000000
namespace L36
open PySem PySem.Spec L2 Eng
open PyProof.Rows hiding St
/-! ### the program's own -/
def cellAt (j : Nat) : D → D
  | .tup l => (l[j]?).getD .non
  | d => d
theorem cellAt_row {w j : Nat} {p : Nat → Bool} (hj : j < w) : cellAt j (rowD w p) = .bl (p j) := by
  unfold cellAt rowD
  dsimp only
  rw [List.getElem?_map, List.getElem?_range hj]
  rfl
theorem in_range_ok (k m : Nat) (hk : k < m) : wp m_in_range [.fro (.int k), .fro (.int m)] fun s e => s = .fro (.bl true) ∧ e = [.fro (.int k), .fro (.int m)] := in_range_spec k m hk
theorem inR_asc {w i : Nat} {f : Nat → Nat → Bool} : (inR w f i).Pairwise (· < ·) := List.Pairwise.filter _ List.pairwise_lt_range
theorem inR_lt {n i j : Nat} {f : Nat → Nat → Bool} (h : j ∈ inR n f i) : j < n ∧ f i j = true := by
  obtain ⟨h1, h2⟩ := List.mem_filter.mp h
  exact ⟨List.mem_range.mp h1, h2⟩
theorem inR_len {n i : Nat} {f : Nat → Nat → Bool} : (inR n f i).length ≤ n := by
  unfold inR
  exact Nat.le_trans (List.length_filter_le _ _) (by simp)
/-- a lot of the program -/
def Lt (m : Nat) (ks : List Nat) : Prop := ks.Pairwise (· < ·) ∧ ∀ k ∈ ks, k < m
theorem lt_len {m : Nat} {ks : List Nat} (h : Lt m ks) (hm : m ≤ 100) : ks.length ≤ 100 := by
  have nd : ks.Nodup := h.1.imp fun z => by omega
  have sub : ks ⊆ List.range m := fun k hk => List.mem_range.mpr (h.2 k hk)
  have q := nd.length_le_of_subset sub
  rw [List.length_range] at q
  omega
theorem lt_inR {w i : Nat} {f : Nat → Nat → Bool} : Lt w (inR w f i) := ⟨inR_asc, fun k hk => (inR_lt hk).1⟩
theorem lt_mono {m n : Nat} {ks : List Nat} (h : Lt m ks) (hm : m ≤ n) : Lt n ks := ⟨h.1, fun k hk => Nat.lt_of_lt_of_le (h.2 k hk) hm⟩
theorem tab_eq {h w : Nat} {f : Nat → Nat → Bool} : tabD h w f = .ins 0 [.tup (rowsD h w f), .int h, .int w, .tup [.int h, .int w]] := rfl
end L36

end
section
set_option Elab.async false
set_option linter.all false
set_option maxRecDepth 100000
set_option maxHeartbeats 4000000
namespace L36
open PySem PySem.Spec L2 Eng
open PyProof.Rows hiding St
theorem enum_rows {h w : Nat} {f : Nat → Nat → Bool} : enumD (rowsL h w f) = (List.range h).map fun i => .tup [.int (i : Nat), rowL w (f i)] := by
  unfold rowsL
  exact enum_map (α := Nat)
theorem enum_cells {w : Nat} {p : Nat → Bool} : enumD ((List.range w).map fun j => .bl (p j)) = (List.range w).map fun j => .tup [.int (j : Nat), .bl (p j)] := by
  exact enum_map (α := Nat)
theorem rowsL_get {h w i : Nat} {f : Nat → Nat → Bool} (hi : i < h) : (rowsL h w f)[i]? = some (rowL w (f i)) := by
  unfold rowsL
  rw [List.getElem?_map, List.getElem?_range hi]
  rfl
theorem great_spec {l : List D} (hl : Stor l) : wp m_law_great [.io (.l l)] fun s e => ∃ (k : Int) (l' : List D), s = .fro (.int k) ∧ e = [.io (.l l')] ∧ Stor l' := by
  unfold m_law_great b_law_great
  simp
  refine wp_imp (take_spec hl _ (by first | decide | omega)) ?_
  rintro s e ⟨n, l, rfl, rfl, hl, n0, n1⟩
  simp
  refine ⟨by omega, ?_⟩
  refine forKn (fun i e => ∃ (l : List D) (k : Int) (s : Slot), Stor l ∧ noIo s = true ∧ e = [.io (.l l), .fro (.int k), s]) ⟨l, 0, .emp, hl, rfl, rfl⟩ ?_ ?_ ?_
  · rintro i e ⟨l, k, s, hl, hs, rfl⟩
    exact ⟨s, rfl, hs⟩
  · rintro i e hi ⟨l, k, s, hl, hs, rfl⟩
    simp
    refine wp_imp (take_spec hl _ (by first | decide | omega)) ?_
    rintro s e ⟨y, l, rfl, rfl, hl, y0, y1⟩
    simp
    exact kp ⟨_, _, _, hl, rfl, rfl⟩
  · rintro e ⟨l, k, s, hl, hs, rfl⟩
    simp
    refine wp_imp (take_spec hl _ (by first | decide | omega)) ?_
    rintro s e ⟨y, l, rfl, rfl, hl, y0, y1⟩
    simp
    by_cases q : y = 1
    · simp [q, hl]
    · simp [q, hl]
/-- no place below m -/
def OddP (m : Int) : D → Prop
  | .int i => i < 0 ∨ m ≤ i
  | .bl _ => True
  | .non => True
  | .str _ => True
  | .tup [] => True
  | .tup [.int _] => True
  | .lst [.int _] => True
  | _ => False
theorem odd_eq {m : Int} {d : D} (h : OddP m d) : dEqB d d = some true := by
  match d, h with
  | .int i, _ => simp
  | .bl i, _ => simp
  | .non, _ => rfl
  | .str s, _ => simp
  | .tup [], _ => rfl
  | .tup [.int i], _ => simp [dEqB, pEq, toP, toPs, SeqAt.shaped, PyData.eqv, PyData.eqvAll, PyData.canLay0, PyData.canLayAll0, PyData.depth, PyData.depthAll]
  | .lst [.int i], _ => simp [dEqB, pEq, toP, toPs, SeqAt.shaped, PyData.eqv, PyData.eqvAll, PyData.canLay0, PyData.canLayAll0, PyData.depth, PyData.depthAll]
theorem not_place_spec {l : List D} (hl : Stor l) (mo : Int) (h0 : -1 ≤ mo) (h1 : mo ≤ 100) : wp m_law_not_place [.io (.l l), .fro (.int 0), .fro (.int mo)] fun s e => ∃ (d : D) (l' : List D), s = .fro d ∧ e = [.io (.l l'), .fro (.int 0), .fro (.int mo)] ∧ Stor l' ∧ OddP (mo + 1) d := by
  unfold m_law_not_place b_law_not_place
  simp
  refine wp_imp (great_spec hl) ?_
  rintro s e ⟨k, l, rfl, rfl, hl⟩
  simp
  have cs : cStr mo = true := cStr_small (by omega) (by omega)
  by_cases q : k < 0
  all_goals
    simp [q, cs]
    refine wp_imp (take_spec hl _ (by first | decide | omega)) ?_
    rintro s e ⟨z, l, rfl, rfl, hl, z0, z1⟩
    simp
    have hz : z = 0 ∨ z = 1 ∨ z = 2 ∨ z = 3 ∨ z = 4 ∨ z = 5 ∨ z = 6 ∨ z = 7 ∨ z = 8 ∨ z = 9 ∨ z = 10 := by omega
    rcases hz with rfl | rfl | rfl | rfl | rfl | rfl | rfl | rfl | rfl | rfl | rfl
    all_goals
      simp [hl, OddP]
      try omega
theorem place_err (m : Int) (d : D) (h : OddP m d) : wy (fun c fs e => c = e_BadPlace ∧ fs = [d] ∧ e = [.fro d, .fro (.int m)]) m_check_place [.fro d, .fro (.int m)] (fun _ _ => False) := by
  unfold m_check_place b_check_place
  match d, h with
  | .int i, h =>
    by_cases q : i < 0
    · simp [dIsi, tyIs, tyName, q]
    · have q2 : m ≤ i := by rcases h with z | z <;> omega
      simp [dIsi, tyIs, tyName, q, q2]
  | .bl i, _ => simp [dIsi, tyIs, tyName]
  | .non, _ => simp [dIsi, tyIs, tyName]
  | .str s, _ => simp [dIsi, tyIs, tyName]
  | .tup [], _ => simp [dIsi, tyIs, tyName]
  | .tup [.int i], _ => simp [dIsi, tyIs, tyName]
  | .lst [.int i], _ => simp [dIsi, tyIs, tyName]
theorem place_ok (k m : Nat) (h : k < m) : wp m_check_place [.fro (.int k), .fro (.int m)] fun s e => s = .fro .non ∧ e = [.fro (.int k), .fro (.int m)] := by
  unfold m_check_place b_check_place
  have q : ¬ (m : Int) ≤ k := by omega
  have q0 : ¬ (k : Int) < 0 := by omega
  simp [dIsi, tyIs, tyName, q, q0]
end L36

end
section
set_option Elab.async false
set_option linter.all false
set_option maxRecDepth 100000
set_option maxHeartbeats 4000000
namespace L36
open PySem PySem.Spec L2 Eng
open PyProof.Rows hiding St
theorem lone_spec (fs : List D) : wp m_law_lone [.fro (.exc e_BadPlace fs)] fun s e => s = .fro (.bl true) ∧ e = [.fro (.exc e_BadPlace fs)] := by
  unfold m_law_lone b_law_lone
  simp [dIsi, subE, tyIs, tyName]
/-- the first cell of p -/
def firstC (h w : Nat) (p : Nat → Nat → Bool) : D := ((List.range h).findSome? fun i => (List.range w).findSome? fun j => if p i j = true then some (D.tup [.int i, .int j]) else none).getD .non
def barP (f : Nat → Nat → Bool) (k l i j : Nat) : Bool := f i k && (f l j && !f i j)
theorem bar_spec (h w k l : Nat) (f : Nat → Nat → Bool) (hh : h ≤ 6) (hw : w ≤ 6) (hk : k < w) (hl : l < h) : wp m_law_bar [.fro (gridD h w f), .fro (.int k), .fro (.int l)] fun s e => s = .fro (firstC h w (barP f k l)) ∧ e = [.fro (gridD h w f), .fro (.int k), .fro (.int l)] := by
  have hG : gridD h w f = .tup [.str "table", .int h, .int w, .tup (rowsD h w f)] := rfl
  unfold m_law_bar b_law_bar
  simp
  refine ⟨by omega, ?_⟩
  refine for_first (fun e => ∃ s1 s2 : Slot, e = [.fro (gridD h w f), .fro (.int k), .fro (.int l), s1, s2] ∧ noIo s1 = true ∧ noIo s2 = true) (List.range h) (fun i => .int (i : Nat)) (fun i => (List.range w).findSome? fun j => if barP f k l i j = true then some (D.tup [.int i, .int j]) else none) rangeD_nat ⟨.emp, .emp, rfl, rfl, rfl⟩ ?_ ?_
  · rintro i e hi ⟨s1, s2, rfl, h1, h2⟩
    have hi2 := List.mem_range.mp hi
    refine ⟨[.fro (gridD h w f), .fro (.int k), .fro (.int l), .fro (.int i), s2], by simp [h1], ?_⟩
    simp
    refine ⟨by omega, ?_⟩
    refine for_first (fun e => ∃ s2 : Slot, e = [.fro (gridD h w f), .fro (.int k), .fro (.int l), .fro (.int i), s2] ∧ noIo s2 = true) (List.range w) (fun i => .int (i : Nat)) (fun j => if barP f k l i j = true then some (D.tup [.int i, .int j]) else none) rangeD_nat ⟨s2, rfl, h2⟩ ?_ ?_
    · rintro j e hj ⟨s2, rfl, h2⟩
      have hj2 := List.mem_range.mp hj
      refine ⟨[.fro (gridD h w f), .fro (.int k), .fro (.int l), .fro (.int i), .fro (.int j)], by simp [h2], ?_⟩
      rw [hG]
      simp [rowsD_get hi2, rowsD_get hl, rowD, hj2, hk, barP]
      cases q1 : f i k <;> cases q2 : f l j <;> cases q3 : f i j <;> simp
    · rintro e ⟨s2, rfl, h2⟩
      exact ⟨⟨_, _, rfl, rfl, h2⟩, rfl⟩
  · rintro e ⟨s1, s2, rfl, h1, h2⟩
    unfold firstC
    generalize (List.range h).findSome? _ = o
    cases o <;> simp
theorem barring_spec (h w k l : Nat) (f : Nat → Nat → Bool) (hh : h ≤ 6) (hw : w ≤ 6) (hk : k < w) (hl : l < h) : wp m_barring_cell [.fro (tabD h w f), .fro (.int k), .fro (.int l)] fun s e => s = .fro (firstC h w (barP f k l)) ∧ e = [.fro (tabD h w f), .fro (.int k), .fro (.int l)] := by
  have hT : tabD h w f = .ins 0 [.tup (rowsD h w f), .int h, .int w, .tup [.int h, .int w]] := rfl
  have rl : ∀ p, rowL w p = .lst ((List.range w).map fun j => .bl (p j)) := fun _ => rfl
  unfold m_barring_cell b_barring_cell
  rw [hT]
  simp
  refine wp_imp (place_ok k w hk) ?_
  rintro s e ⟨rfl, rfl⟩
  simp
  refine wp_imp (place_ok l h hl) ?_
  rintro s e ⟨rfl, rfl⟩
  simp
  rw [← hT]
  refine wp_imp (rows_spec h w f hh hw) ?_
  rintro s e rfl
  simp
  simp [rowsL_get hl]
  refine for_first (fun e => ∃ s1 s2 s3 s4 : Slot, e = [.fro (tabD h w f), .fro (.int k), .fro (.int l), .fro (.lst (rowsL h w f)), .fro (rowL w (f l)), s1, s2, s3, s4] ∧ noIo s1 = true ∧ noIo s2 = true ∧ noIo s3 = true ∧ noIo s4 = true) (List.range h) (fun i => .tup [.int (i : Nat), rowL w (f i)]) (fun i => (List.range w).findSome? fun j => if barP f k l i j = true then some (D.tup [.int i, .int j]) else none) enum_rows ⟨.emp, .emp, .emp, .emp, rfl, rfl, rfl, rfl, rfl⟩ ?_ ?_
  · rintro i e hi ⟨s1, s2, s3, s4, rfl, h1, h2, h3, h4⟩
    have hi2 := List.mem_range.mp hi
    refine ⟨[.fro (tabD h w f), .fro (.int k), .fro (.int l), .fro (.lst (rowsL h w f)), .fro (rowL w (f l)), .fro (.int i), .fro (rowL w (f i)), s3, s4], set_tp2 rfl h1 rfl h2, ?_⟩
    rw [rl (f i), rl (f l)]
    simp [hk]
    cases q1 : f i k
    · simp [barP, q1, find_none]
      exact ⟨_, _, _, _, ⟨rfl, rfl, rfl, rfl⟩, rfl, rfl, h3, h4⟩
    · simp
      refine for_first (fun e => ∃ s3 s4 : Slot, e = [.fro (tabD h w f), .fro (.int k), .fro (.int l), .fro (.lst (rowsL h w f)), .fro (rowL w (f l)), .fro (.int i), .fro (rowL w (f i)), s3, s4] ∧ noIo s3 = true ∧ noIo s4 = true) (List.range w) (fun j => .tup [.int (j : Nat), .bl (f i j)]) (fun j => if barP f k l i j = true then some (D.tup [.int i, .int j]) else none) enum_cells ⟨s3, s4, rfl, h3, h4⟩ ?_ ?_
      · rintro j e hj ⟨s3, s4, rfl, h3, h4⟩
        have hj2 := List.mem_range.mp hj
        refine ⟨[.fro (tabD h w f), .fro (.int k), .fro (.int l), .fro (.lst (rowsL h w f)), .fro (rowL w (f l)), .fro (.int i), .fro (rowL w (f i)), .fro (.int j), .fro (.bl (f i j))], set_tp2 rfl h3 rfl h4, ?_⟩
        rw [rl (f l)]
        simp [hj2, barP, q1]
        cases q2 : f l j <;> cases q3 : f i j <;> simp <;> exact ⟨_, _, ⟨rfl, rfl⟩, rfl, rfl⟩
      · rintro e ⟨s3, s4, rfl, h3, h4⟩
        exact ⟨⟨_, _, _, _, rfl, rfl, rfl, h3, h4⟩, rfl⟩
  · rintro e ⟨s1, s2, s3, s4, rfl, h1, h2, h3, h4⟩
    unfold firstC
    generalize (List.range h).findSome? _ = o
    cases o <;> simp
end L36

end
section
set_option Elab.async false
set_option linter.all false
set_option maxRecDepth 100000
set_option maxHeartbeats 4000000
namespace L36
open PySem PySem.Spec L2 Eng
open PyProof.Rows hiding St
theorem refused1 (h w : Nat) (f : Nat → Nat → Bool) (d d2 : D) (hd : OddP w d) : wp m_law_refused [.fro (tabD h w f), .fro d, .fro d2, .fro d] fun s e => s = .fro (.bl true) := by
  have hT : tabD h w f = .ins 0 [.tup (rowsD h w f), .int h, .int w, .tup [.int h, .int w]] := rfl
  unfold m_law_refused b_law_refused
  simp
  refine wp_try ?_
  unfold m_barring_cell b_barring_cell
  rw [hT]
  simp
  refine wy_imp (place_err w d hd) (fun s e z => z.elim) ?_
  rintro c fs e ⟨rfl, rfl, rfl⟩
  simp [wH, subE, begH, odd_eq hd]
  refine wp_imp (lone_spec _) ?_
  rintro s e ⟨rfl, rfl⟩
  simp
theorem refused2 (h w k : Nat) (f : Nat → Nat → Bool) (d : D) (hd : OddP h d) (hk : k < w) : wp m_law_refused [.fro (tabD h w f), .fro (.int k), .fro d, .fro d] fun s e => s = .fro (.bl true) := by
  have hT : tabD h w f = .ins 0 [.tup (rowsD h w f), .int h, .int w, .tup [.int h, .int w]] := rfl
  unfold m_law_refused b_law_refused
  simp
  refine wp_try ?_
  unfold m_barring_cell b_barring_cell
  rw [hT]
  simp
  refine wy_of_wp (wp_imp (place_ok k w hk) ?_)
  rintro s e ⟨rfl, rfl⟩
  simp
  refine wy_imp (place_err h d hd) (fun s e z => z.elim) ?_
  rintro c fs e ⟨rfl, rfl, rfl⟩
  simp [wH, subE, begH, odd_eq hd]
  refine wp_imp (lone_spec _) ?_
  rintro s e ⟨rfl, rfl⟩
  simp
theorem firstC_plain {h w : Nat} {p : Nat → Nat → Bool} : Plain 7 (firstC h w p) := by
  unfold firstC
  generalize q : (List.range h).findSome? _ = o
  cases o with
  | none => trivial
  | some d =>
    obtain ⟨i, _, h2⟩ := List.exists_of_findSome?_eq_some q
    obtain ⟨j, _, h3⟩ := List.exists_of_findSome?_eq_some h2
    split at h3
    · cases h3
      exact ⟨by simp, fun y hy => by simp at hy; rcases hy with rfl | rfl <;> trivial⟩
    · cases h3
theorem right_spec (h w : Nat) (f g : Nat → Nat → Bool) (hh : h ≤ 6) (hw : w ≤ 6) : wp m_law_right [.fro (tabD h w f), .fro (gridD h w f), .fro (gridD h w g), .fro (tabD h w g)] fun s e => s = .fro (.bl true) := by
  unfold m_law_right b_law_right
  simp
  refine ⟨by omega, ?_⟩
  refine forRn (fun i e => ∃ s1 s2 : Slot, noIo s1 = true ∧ noIo s2 = true ∧ e = [.fro (tabD h w f), .fro (gridD h w f), .fro (gridD h w g), .fro (tabD h w g), s1, s2]) ⟨.emp, .emp, rfl, rfl, rfl⟩ ?_ ?_ ?_
  · rintro i e ⟨s1, s2, h1, h2, rfl⟩
    exact ⟨_, rfl, h1⟩
  · rintro k e hk ⟨s1, s2, h1, h2, rfl⟩
    simp
    refine ⟨by omega, ?_⟩
    refine forRn (fun i e => ∃ s2 : Slot, noIo s2 = true ∧ e = [.fro (tabD h w f), .fro (gridD h w f), .fro (gridD h w g), .fro (tabD h w g), .fro (.int k), s2]) ⟨s2, h2, rfl⟩ ?_ ?_ ?_
    · rintro i e ⟨s2, h2, rfl⟩
      exact ⟨_, rfl, h2⟩
    · rintro l e hl ⟨s2, h2, rfl⟩
      simp [permL]
      refine wp_imp (barring_spec h w k l f hh hw hk hl) ?_
      rintro s e ⟨rfl, rfl⟩
      simp
      refine wp_imp (bar_spec h w k l f hh hw hk hl) ?_
      rintro s e ⟨rfl, rfl⟩
      simp
      refine wp_imp (same_spec _ firstC_plain) ?_
      rintro s e ⟨rfl, rfl⟩
      simp
      refine wp_imp (barring_spec h w k l g hh hw hk hl) ?_
      rintro s e ⟨rfl, rfl⟩
      simp
      refine wp_imp (bar_spec h w k l g hh hw hk hl) ?_
      rintro s e ⟨rfl, rfl⟩
      simp
      refine wp_imp (same_spec _ firstC_plain) ?_
      rintro s e ⟨rfl, rfl⟩
      simp
      exact kp ⟨_, rfl, rfl⟩
    · rintro e ⟨s2, h2, rfl⟩
      exact kp ⟨_, _, rfl, h2, rfl⟩
  · rintro e ⟨s1, s2, h1, h2, rfl⟩
    simp
    refine wp_imp (shows_spec h w f hh hw) ?_
    rintro s e ⟨rfl, rfl⟩
    simp
    refine wp_imp (shows_spec h w g hh hw) ?_
    rintro s e ⟨rfl, rfl⟩
    simp
/-- THE LAW -/
theorem law_true (ns : List Int) (hl : ns.length ≤ 63) : ∃ e, m_law [.fro (.scr ns)] = .ok (.fro (.bl true)) e := by
  have main : wp m_law [.fro (.scr ns)] fun s e => s = .fro (.bl true) := by
    unfold m_law b_law
    simp
    refine wp_imp (store_spec ns hl) ?_
    rintro s e ⟨l, ⟨rfl, rfl⟩, hl⟩
    simp
    refine wp_imp (any_spec hl 6 6 (by omega) (by omega)) ?_
    rintro s e ⟨d, l, h, w, rfl, rfl, hl, ⟨f, rfl⟩, hh, hw⟩
    simp
    refine wp_imp (bent_spec hl h w f (by omega) (by omega)) ?_
    rintro s e ⟨d, l, rfl, rfl, hl, ⟨g, rfl⟩⟩
    simp
    refine wp_imp (table_spec h w f hh hw) ?_
    rintro s e ⟨rfl, rfl⟩
    simp
    refine wp_imp (table_spec h w g hh hw) ?_
    rintro s e ⟨rfl, rfl⟩
    simp
    refine forRn (fun i e => ∃ (l : List D) (s6 s7 s8 : Slot), Stor l ∧ noIo s6 = true ∧ noIo s7 = true ∧ noIo s8 = true ∧ e = [.fro (.scr ns), .own (.l l), .fro (gridD h w f), .fro (gridD h w g), .fro (tabD h w f), .fro (tabD h w g), s6, s7, s8]) ⟨l, .emp, .emp, .emp, hl, rfl, rfl, rfl, rfl⟩ ?_ ?_ ?_
    · rintro i e ⟨l, s6, s7, s8, hl, h6, h7, h8, rfl⟩
      exact ⟨_, rfl, h6⟩
    · rintro i e hi ⟨l, s6, s7, s8, hl, h6, h7, h8, rfl⟩
      simp
      refine wp_imp (not_place_spec hl ((w : Int) - 1) (by omega) (by omega)) ?_
      rintro s e ⟨d1, l, rfl, rfl, hl, o1⟩
      simp
      rw [show (w : Int) - 1 + 1 = w by omega] at o1
      simp [h7]
      refine wp_imp (not_place_spec hl ((h : Int) - 1) (by omega) (by omega)) ?_
      rintro s e ⟨d2, l, rfl, rfl, hl, o2⟩
      simp
      rw [show (h : Int) - 1 + 1 = h by omega] at o2
      simp [h8]
      refine wp_imp (refused1 h w f d1 d2 o1) ?_
      rintro s e rfl
      simp
      by_cases hw0 : 0 < w
      · simp [hw0]
        refine wp_imp (take_spec hl _ (by first | decide | omega)) ?_
        rintro s e ⟨k, l, rfl, rfl, hl, k0, k1⟩
        simp
        obtain ⟨k, rfl⟩ := Int.eq_ofNat_of_zero_le k0
        refine wp_imp (refused2 h w k f d2 o2 (by omega)) ?_
        rintro s e rfl
        simp
        by_cases hh0 : 0 < h
        · simp [hh0]
          refine wp_imp (take_spec hl _ (by first | decide | omega)) ?_
          rintro s e ⟨j, l, rfl, rfl, hl, j0, j1⟩
          simp
          refine wp_imp (refused1 h w f d1 (.int j) o1) ?_
          rintro s e rfl
          simp
          refine wp_imp (right_spec h w f g hh hw) ?_
          rintro s e rfl
          simp
          exact kp ⟨_, _, _, _, hl, rfl, rfl, rfl, rfl⟩
        · simp [hh0]
          refine wp_imp (right_spec h w f g hh hw) ?_
          rintro s e rfl
          simp
          exact kp ⟨_, _, _, _, hl, rfl, rfl, rfl, rfl⟩
      · simp [hw0]
        by_cases hh0 : 0 < h
        · simp [hh0]
          refine wp_imp (take_spec hl _ (by first | decide | omega)) ?_
          rintro s e ⟨j, l, rfl, rfl, hl, j0, j1⟩
          simp
          refine wp_imp (refused1 h w f d1 (.int j) o1) ?_
          rintro s e rfl
          simp
          refine wp_imp (right_spec h w f g hh hw) ?_
          rintro s e rfl
          simp
          exact kp ⟨_, _, _, _, hl, rfl, rfl, rfl, rfl⟩
        · simp [hh0]
          refine wp_imp (right_spec h w f g hh hw) ?_
          rintro s e rfl
          simp
          exact kp ⟨_, _, _, _, hl, rfl, rfl, rfl, rfl⟩
    · rintro e ⟨l, s6, s7, s8, hl, h6, h7, h8, rfl⟩
      simp
  obtain ⟨s, e, h1, h2⟩ := wp_ok main
  exact ⟨e, by rw [h1, h2]⟩
end L36

end
set_option Elab.async false
set_option linter.all false
set_option maxRecDepth 100000
set_option maxHeartbeats 4000000
namespace L36
end L36
open PySem PySem.W PySem.Calls PyProof.Rows
set_option maxHeartbeats 40000000 in
theorem PySem.Challenge.cw_greatestback_k36_barring_cell_holds : PySem.Challenge.rw_greatestback_k36_barring_cell.Holds := by
  w_on; o_law
  k_head
  case hw => w_witness2
  case hc =>
    refine Eng.walk_ofXK (l := PySem.Challenge.rw_greatestback_k36_barring_cell) (n := 63) (k := 12) (x := "script") L36.fa L36.fn L36.ex rfl (by decide) (by kernel_rfl) ⟨rfl, by decide, by decide⟩ ?S ?F
    case S =>
      intro P
      show Eng.obsX _ _ _ _ = Eng.valX _
      kernel_rfl
    case F =>
      intro w mg fa h Y N hmg0
      obtain ⟨K, KX, c⟩ := Y
      have T : L36.HD K mg := ⟨c, _, KX, N⟩
      have hmg : mg ("law" : PySem.Str) = some (.ref fa) := hmg0
      have e := hmg.symm.trans (T.glo 84)
      cases e
      have b := L2.FunD.bindsA (ps := ["script"]) (L36.fd_law T) fun _ _ _ _ _ _ us hl => match us, hl with | [_], _ => rfl
      refine ⟨K, _, Eng.spF (L36.kx K) 1 L36.m_law, KX, fun s v => b s [v] rfl, fun H a ns hl _ hS => Eng.law_sp rfl hS (Nat.le_trans hl (by rw [PySem.sizeLine_eq]; decide)) (L36.law_true ns hl), fun base _ _ => L36.ok_law T⟩
