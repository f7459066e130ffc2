import PyProof.Rows.All
import Wide.All
import OpenK.AllK
import Wide.FinOn
import HandS.ForMost
import HandS.Exc
import HandS.TryOnly
import HandS.TryMany
import HandS.SetFor
import HandS.Conv
import HandS.DictComp
import HandS.Deep
import HandS.ExcOwn
import HandS.ExcInit
import HandS.ExcField
import HandS.ExcIs
import HandS.IsInst
import HandS.Style
import HandS.Flow
import HandS.Zip
import HandS.TupAny
import HandS.TupMul
import HandS.Small
import HandS.Wide
import HandS.SortInts
import HandS.HotCalls
import KE.GoesMore
import KE.GoesZip
import HandS.DictTup
import HandS.ListItems
import HandS.Strs
import HandS.WrittenGet
import HandS.HeadHook3
import HandS.Head0
import HandS.Head1
import HandS.Head2
import HandS.HeadEnd
import HandS.HeadHook1
import HandS.HeadHook2
import HandS.Text
import PySem.Challenge.RW_aheadright_k09_whole_least_wrong_machine
set_option Elab.async false
set_option linter.all false
set_option maxRecDepth 100000
/-! VIa: data, store, what stands for what. -/
namespace VI
open PySem L2

inductive D where
  | non | bl (b : Bool) | int (i : Int) | str (s : Str) | tup (ds : List D) | rol (ds : List D) | ref (l : Nat) | ty (n : String) | cls (c : Nat) | fn (f : Nat)
  deriving Inhabited
abbrev Fs := List (Str × D)
inductive Cell where
  | lst (ds : List D) | ins (c : Nat) (fs : Fs) | dK (kvs : List (Key × D)) | dT (kvs : List (List Key × D))
abbrev Store := List Cell
inductive Sl where
  | no | val (d : D) | exc
abbrev Env := List Sl
/-- an exception: its class, its fields (newest first) -/
structure XC where
  c : Nat
  fs : Fs
inductive R (α : Type) where
  | ok (a : α) (S : Store) | exc (x : XC) (S : Store) | err
abbrev M (α : Type) := Store → R α
def R.bind {α β : Type} (r : R α) (f : α → Store → R β) : R β := match r with
  | .ok a S => f a S
  | .exc x S => .exc x S
  | .err => .err
@[simp] theorem bind_ok {α β : Type} (a : α) (S : Store) (f : α → Store → R β) : (R.ok a S).bind f = f a S := rfl
@[simp] theorem bind_exc {α β : Type} (x : XC) (S : Store) (f : α → Store → R β) : (R.exc x S : R α).bind f = .exc x S := rfl
@[simp] theorem bind_err {α β : Type} (f : α → Store → R β) : (R.err : R α).bind f = .err := rfl
/-- what a result must give -/
def R.want {α : Type} (r : R α) (k : α → Store → Prop) (x : XC → Store → Prop) : Prop := match r with
  | .ok a S => k a S
  | .exc e S => x e S
  | .err => False
theorem R.want_bind {α β : Type} {r : R α} {f : α → Store → R β} {k : β → Store → Prop} {x : XC → Store → Prop} (h : (r.bind f).want k x) : r.want (fun a S => (f a S).want k x) x := by
  cases r with
  | ok a S => exact h
  | exc e S => exact h
  | err => exact h
theorem R.want_mono {α : Type} {r : R α} {k k' : α → Store → Prop} {x x' : XC → Store → Prop} (h : r.want k x) (hk : ∀ a S, k a S → k' a S) (hx : ∀ e S, x e S → x' e S) : r.want k' x' := by
  cases r with
  | ok a S => exact hk _ _ h
  | exc e S => exact hx _ _ h
  | err => exact h

/-- a list that never changes: the script, or a list of the written part -/
def SqZ (K : PySem.W.Frag) (H : Hp) (a : Addr) (xs : List V) : Prop :=
  (∃ o, H a = some (.frz o (.lst xs))) ∨ ∀ H', SqL K H' a xs
theorem SqZ.l {K : PySem.W.Frag} {H : Hp} {a : Addr} {xs : List V} (h : SqZ K H a xs) : SqL K H a xs := h.elim (fun ⟨o, q⟩ => .inl (.inr ⟨o, q⟩)) (fun q => q H)
/-! ### what stands for what -/
structure Glb where
  K : PySem.W.Frag
  C : Nat → Addr
  F : Nat → Addr
mutual
def Rl (g : Glb) (μ : Nat → Addr) (n : Nat) (H : Hp) : D → V → Prop
  | .non, v => v = .non
  | .bl b, v => v = .bl b
  | .int i, v => v = .int i
  | .str s, v => v = .str s
  | .tup ds, v => ∃ a xs, v = .ref a ∧ SqT g.K H a xs ∧ Rls g μ n H ds xs
  | .rol ds, v => ∃ a xs, v = .ref a ∧ SqZ g.K H a xs ∧ Rls g μ n H ds xs
  | .ref l, v => v = .ref (μ l) ∧ l < n
  | .ty t, v => v = .ty t
  | .cls c, v => v = .ref (g.C c)
  | .fn f, v => v = .ref (g.F f)
def Rls (g : Glb) (μ : Nat → Addr) (n : Nat) (H : Hp) : List D → List V → Prop
  | [], xs => xs = []
  | d :: ds, xs => ∃ x ys, xs = x :: ys ∧ Rl g μ n H d x ∧ Rls g μ n H ds ys
end
/-- pairs: the same keys, values that stand for the others -/
def Rlk {κ : Type} (g : Glb) (μ : Nat → Addr) (n : Nat) (H : Hp) : List (κ × D) → List (κ × V) → Prop
  | [], xs => xs = []
  | (k, d) :: ds, xs => ∃ x ys, xs = (k, x) :: ys ∧ Rl g μ n H d x ∧ Rlk g μ n H ds ys
def CellR (g : Glb) (μ : Nat → Addr) (n : Nat) (H : Hp) (a : Addr) : Cell → Prop
  | .lst ds => ∃ xs, H a = some (.lst xs) ∧ Rls g μ n H ds xs
  | .ins c fs => ∃ dx fv, H a = some (.ins (g.C c) dx fv) ∧ Rlk g μ n H fs fv ∧ ∀ f d, (f, d) ∈ fs → Cls g.K (g.C c) ∧ NoAttr g.K (g.C c) f
  | .dK kvs => ∃ kv, H a = some (.dK kv) ∧ Rlk g μ n H kvs kv
  | .dT kvs => ∃ kv, H a = some (.dT kv) ∧ Rlk g μ n H kvs kv
structure Sim (g : Glb) (μ : Nat → Addr) (S : Store) (H : Hp) : Prop where
  inj : ∀ i j, i < S.length → j < S.length → μ i = μ j → i = j
  cell : ∀ l c, S[l]? = some c → CellR g μ S.length H (μ l) c
structure Ext (g : Glb) (μ : Nat → Addr) (n : Nat) (H : Hp) (μ' : Nat → Addr) (n' : Nat) (H' : Hp) : Prop where
  le : n ≤ n'
  mu : ∀ l, l < n → μ' l = μ l
  tup : ∀ a xs, SqT g.K H a xs → SqT g.K H' a xs
  rol : ∀ a xs, SqZ g.K H a xs → SqZ g.K H' a xs
  xd : ∀ a fs, H a = some (.xd fs) → H' a = some (.xd fs)
def RlE (g : Glb) (μ : Nat → Addr) (n : Nat) (H : Hp) (ea : Addr) : Env → St → Prop
  | [], σ => σ = []
  | .no :: env, σ => ∃ r, σ = none :: r ∧ RlE g μ n H ea env r
  | .val d :: env, σ => ∃ v r, σ = some v :: r ∧ Rl g μ n H d v ∧ RlE g μ n H ea env r
  | .exc :: env, σ => ∃ r, σ = some (.ref ea) :: r ∧ RlE g μ n H ea env r
/-- an exception and its class and dict -/
def XR (g : Glb) (μ : Nat → Addr) (n : Nat) (H : Hp) (x : XC) (cls : Value) (d : Option Addr) : Prop :=
  cls = .ref (g.C x.c) ∧ ((x.fs = [] ∧ d = none) ∨ ∃ dd fv, d = some dd ∧ H dd = some (.xd fv) ∧ Rlk g μ n H x.fs fv)

section
variable {g : Glb} {μ μ' μ'' : Nat → Addr} {n n' n'' : Nat} {H H' H'' : Hp} {S S' : Store}
theorem Ext.refl : Ext g μ n H μ n H := ⟨Nat.le_refl _, fun _ _ => rfl, fun _ _ h => h, fun _ _ h => h, fun _ _ h => h⟩
theorem Ext.trans (a : Ext g μ n H μ' n' H') (b : Ext g μ' n' H' μ'' n'' H'') : Ext g μ n H μ'' n'' H'' :=
  ⟨Nat.le_trans a.le b.le, fun l h => (b.mu l (Nat.lt_of_lt_of_le h a.le)).trans (a.mu l h), fun x y h => b.tup x y (a.tup x y h), fun x y h => b.rol x y (a.rol x y h), fun x y h => b.xd x y (a.xd x y h)⟩
mutual
theorem Rl.ext (e : Ext g μ n H μ' n' H') : ∀ (d : D) (v : V), Rl g μ n H d v → Rl g μ' n' H' d v
  | .non, v, h => h
  | .bl _, v, h => h
  | .int _, v, h => h
  | .str _, v, h => h
  | .tup ds, v, h => by
    unfold Rl at h ⊢
    obtain ⟨a, xs, rfl, h1, h2⟩ := h
    exact ⟨a, xs, rfl, e.tup _ _ h1, Rls.ext e ds xs h2⟩
  | .rol ds, v, h => by
    unfold Rl at h ⊢
    obtain ⟨a, xs, rfl, h1, h2⟩ := h
    exact ⟨a, xs, rfl, e.rol _ _ h1, Rls.ext e ds xs h2⟩
  | .ref l, v, h => by
    unfold Rl at h ⊢
    exact ⟨by rw [e.mu l h.2]; exact h.1, Nat.lt_of_lt_of_le h.2 e.le⟩
  | .ty _, v, h => h
  | .cls _, v, h => h
  | .fn _, v, h => h
theorem Rls.ext (e : Ext g μ n H μ' n' H') : ∀ (ds : List D) (xs : List V), Rls g μ n H ds xs → Rls g μ' n' H' ds xs
  | [], xs, h => h
  | d :: ds, xs, h => by
    unfold Rls at h ⊢
    obtain ⟨x, ys, rfl, h1, h2⟩ := h
    exact ⟨x, ys, rfl, Rl.ext e d x h1, Rls.ext e ds ys h2⟩
end
theorem Rlk.ext {κ : Type} (e : Ext g μ n H μ' n' H') : ∀ (ds : List (κ × D)) (xs : List (κ × V)), Rlk g μ n H ds xs → Rlk g μ' n' H' ds xs
  | [], xs, h => h
  | (k, d) :: ds, xs, h => by
    unfold Rlk at h ⊢
    obtain ⟨x, ys, rfl, h1, h2⟩ := h
    exact ⟨x, ys, rfl, Rl.ext e d x h1, Rlk.ext e ds ys h2⟩
theorem RlE.ext {ea : Addr} (e : Ext g μ n H μ' n' H') : ∀ (env : Env) (σ : St), RlE g μ n H ea env σ → RlE g μ' n' H' ea env σ
  | [], σ, h => h
  | .no :: env, σ, h => by
    unfold RlE at h ⊢
    obtain ⟨r, rfl, h1⟩ := h
    exact ⟨r, rfl, RlE.ext e env r h1⟩
  | .val d :: env, σ, h => by
    unfold RlE at h ⊢
    obtain ⟨v, r, rfl, h1, h2⟩ := h
    exact ⟨v, r, rfl, Rl.ext e d v h1, RlE.ext e env r h2⟩
  | .exc :: env, σ, h => by
    unfold RlE at h ⊢
    obtain ⟨r, rfl, h1⟩ := h
    exact ⟨r, rfl, RlE.ext e env r h1⟩
theorem XR.ext {x : XC} {cls : Value} {d : Option Addr} (e : Ext g μ n H μ' n' H') (h : XR g μ n H x cls d) : XR g μ' n' H' x cls d := by
  obtain ⟨h1, h2⟩ := h
  refine ⟨h1, ?_⟩
  rcases h2 with h2 | ⟨dd, fv, h3, h4, h5⟩
  · exact .inl h2
  · exact .inr ⟨dd, fv, h3, e.xd _ _ h4, Rlk.ext e _ _ h5⟩
theorem Rls.length : ∀ {ds : List D} {xs : List V}, Rls g μ n H ds xs → ds.length = xs.length
  | [], xs, h => by unfold Rls at h; subst h; rfl
  | d :: ds, xs, h => by
    unfold Rls at h
    obtain ⟨x, ys, rfl, h1, h2⟩ := h
    simp [Rls.length h2]
theorem Rls.get : ∀ {ds : List D} {xs : List V} {i : Nat} {d : D}, Rls g μ n H ds xs → ds[i]? = some d → ∃ x, xs[i]? = some x ∧ Rl g μ n H d x
  | [], _, i, _, _, e => by simp at e
  | d :: ds, xs, i, d', h, e => by
    unfold Rls at h
    obtain ⟨x, ys, rfl, h1, h2⟩ := h
    cases i with
    | zero => simp at e; subst e; exact ⟨x, by simp, h1⟩
    | succ i => simp at e; obtain ⟨y, h3, h4⟩ := Rls.get h2 e; exact ⟨y, by simpa using h3, h4⟩
theorem Rls.append : ∀ {ds es : List D} {xs ys : List V}, Rls g μ n H ds xs → Rls g μ n H es ys → Rls g μ n H (ds ++ es) (xs ++ ys)
  | [], es, xs, ys, h, h' => by unfold Rls at h; subst h; exact h'
  | d :: ds, es, xs, ys, h, h' => by
    unfold Rls at h
    obtain ⟨x, zs, rfl, h1, h2⟩ := h
    show Rls g μ n H (d :: (ds ++ es)) (x :: (zs ++ ys))
    unfold Rls
    exact ⟨x, _, rfl, h1, Rls.append h2 h'⟩
theorem Rls.one {d : D} {x : V} (h : Rl g μ n H d x) : Rls g μ n H [d] [x] := by
  unfold Rls
  exact ⟨x, [], rfl, h, by unfold Rls; rfl⟩
theorem Rls.nil : Rls g μ n H [] [] := by unfold Rls; rfl
theorem Rls.cons {d : D} {x : V} {ds : List D} {xs : List V} (h : Rl g μ n H d x) (h' : Rls g μ n H ds xs) : Rls g μ n H (d :: ds) (x :: xs) := by
  unfold Rls
  exact ⟨x, xs, rfl, h, h'⟩
theorem Rls.set : ∀ {ds : List D} {xs : List V} {d : D} {x : V} (i : Nat), Rls g μ n H ds xs → Rl g μ n H d x → Rls g μ n H (ds.set i d) (xs.set i x)
  | [], xs, d, x, i, h, hx => by unfold Rls at h; subst h; exact Rls.nil
  | e :: ds, xs, d, x, 0, h, hx => by
    unfold Rls at h
    obtain ⟨y, ys, rfl, h1, h2⟩ := h
    exact Rls.cons hx h2
  | e :: ds, xs, d, x, i + 1, h, hx => by
    unfold Rls at h
    obtain ⟨y, ys, rfl, h1, h2⟩ := h
    exact Rls.cons h1 (Rls.set i h2 hx)
theorem Rls.take : ∀ {ds : List D} {xs : List V} (k : Nat), Rls g μ n H ds xs → Rls g μ n H (ds.take k) (xs.take k)
  | [], xs, k, h => by unfold Rls at h; subst h; simp [Rls.nil]
  | e :: ds, xs, 0, h => by simp [Rls.nil]
  | e :: ds, xs, k + 1, h => by
    unfold Rls at h
    obtain ⟨y, ys, rfl, h1, h2⟩ := h
    exact Rls.cons h1 (Rls.take k h2)
theorem Rls.drop : ∀ {ds : List D} {xs : List V} (k : Nat), Rls g μ n H ds xs → Rls g μ n H (ds.drop k) (xs.drop k)
  | [], xs, k, h => by unfold Rls at h; subst h; simp [Rls.nil]
  | e :: ds, xs, 0, h => h
  | e :: ds, xs, k + 1, h => by
    unfold Rls at h
    obtain ⟨y, ys, rfl, h1, h2⟩ := h
    exact Rls.drop k h2
theorem Rls.reverse : ∀ {ds : List D} {xs : List V}, Rls g μ n H ds xs → Rls g μ n H ds.reverse xs.reverse
  | [], xs, h => by unfold Rls at h; subst h; exact Rls.nil
  | e :: ds, xs, h => by
    unfold Rls at h
    obtain ⟨y, ys, rfl, h1, h2⟩ := h
    rw [List.reverse_cons, List.reverse_cons]
    exact Rls.append (Rls.reverse h2) (Rls.one h1)
theorem Rls.rep (k : Nat) {ds : List D} {xs : List V} (h : Rls g μ n H ds xs) : Rls g μ n H (List.replicate k ds).flatten (List.replicate k xs).flatten := by
  induction k with
  | zero => exact Rls.nil
  | succ k ih =>
    rw [List.replicate_succ, List.replicate_succ, List.flatten_cons, List.flatten_cons]
    exact Rls.append h ih
theorem Rls.ints : ∀ ns : List Int, Rls g μ n H (ns.map D.int) (ns.map V.int)
  | [] => Rls.nil
  | m :: ns => Rls.cons (by unfold Rl; rfl) (Rls.ints ns)
theorem RlE.length {ea : Addr} : ∀ {env : Env} {σ : St}, RlE g μ n H ea env σ → env.length = σ.length
  | [], σ, h => by unfold RlE at h; subst h; rfl
  | .no :: env, σ, h => by
    unfold RlE at h
    obtain ⟨r, rfl, h1⟩ := h
    simp [RlE.length h1]
  | .val d :: env, σ, h => by
    unfold RlE at h
    obtain ⟨v, r, rfl, h1, h2⟩ := h
    simp [RlE.length h2]
  | .exc :: env, σ, h => by
    unfold RlE at h
    obtain ⟨r, rfl, h1⟩ := h
    simp [RlE.length h1]
theorem RlE.get {ea : Addr} : ∀ {env : Env} {σ : St} {i : Nat} {d : D}, RlE g μ n H ea env σ → env[i]? = some (.val d) → ∃ v, σ[i]? = some (some v) ∧ Rl g μ n H d v
  | [], σ, i, d, h, e => by simp at e
  | .no :: env, σ, i, d, h, e => by
    unfold RlE at h
    obtain ⟨r, rfl, h1⟩ := h
    cases i with
    | zero => simp at e
    | succ i => simp at e; obtain ⟨v, h3, h4⟩ := RlE.get h1 e; exact ⟨v, by simpa using h3, h4⟩
  | .val d' :: env, σ, i, d, h, e => by
    unfold RlE at h
    obtain ⟨v, r, rfl, h1, h2⟩ := h
    cases i with
    | zero => simp at e; subst e; exact ⟨v, by simp, h1⟩
    | succ i => simp at e; obtain ⟨v, h3, h4⟩ := RlE.get h2 e; exact ⟨v, by simpa using h3, h4⟩
  | .exc :: env, σ, i, d, h, e => by
    unfold RlE at h
    obtain ⟨r, rfl, h1⟩ := h
    cases i with
    | zero => simp at e
    | succ i => simp at e; obtain ⟨v, h3, h4⟩ := RlE.get h1 e; exact ⟨v, by simpa using h3, h4⟩
theorem RlE.gete {ea : Addr} : ∀ {env : Env} {σ : St} {i : Nat}, RlE g μ n H ea env σ → env[i]? = some .exc → σ[i]? = some (some (.ref ea))
  | [], σ, i, h, e => by simp at e
  | .no :: env, σ, i, h, e => by
    unfold RlE at h
    obtain ⟨r, rfl, h1⟩ := h
    cases i with
    | zero => simp at e
    | succ i => simp at e; simpa using RlE.gete h1 e
  | .val d' :: env, σ, i, h, e => by
    unfold RlE at h
    obtain ⟨v, r, rfl, h1, h2⟩ := h
    cases i with
    | zero => simp at e
    | succ i => simp at e; simpa using RlE.gete h2 e
  | .exc :: env, σ, i, h, e => by
    unfold RlE at h
    obtain ⟨r, rfl, h1⟩ := h
    cases i with
    | zero => simp
    | succ i => simp at e; simpa using RlE.gete h1 e
theorem RlE.set {ea : Addr} : ∀ {env : Env} {σ : St} {d : D} {v : V} (i : Nat), RlE g μ n H ea env σ → Rl g μ n H d v → RlE g μ n H ea (env.set i (.val d)) (σ.set i (some v))
  | [], σ, d, v, i, h, hv => by unfold RlE at h; subst h; show RlE g μ n H ea [] []; unfold RlE; rfl
  | .no :: env, σ, d, v, i, h, hv => by
    unfold RlE at h
    obtain ⟨r, rfl, h1⟩ := h
    cases i with
    | zero => exact ⟨v, r, rfl, hv, h1⟩
    | succ i => exact ⟨_, rfl, RlE.set i h1 hv⟩
  | .val d' :: env, σ, d, v, i, h, hv => by
    unfold RlE at h
    obtain ⟨w, r, rfl, h1, h2⟩ := h
    cases i with
    | zero => exact ⟨v, r, rfl, hv, h2⟩
    | succ i => exact ⟨_, _, rfl, h1, RlE.set i h2 hv⟩
  | .exc :: env, σ, d, v, i, h, hv => by
    unfold RlE at h
    obtain ⟨r, rfl, h1⟩ := h
    cases i with
    | zero => exact ⟨v, r, rfl, hv, h1⟩
    | succ i => exact ⟨_, rfl, RlE.set i h1 hv⟩
theorem RlE.clear {ea : Addr} : ∀ {env : Env} {σ : St} (i : Nat), RlE g μ n H ea env σ → RlE g μ n H ea (env.set i .no) (σ.set i none)
  | [], σ, i, h => by unfold RlE at h; subst h; show RlE g μ n H ea [] []; unfold RlE; rfl
  | .no :: env, σ, i, h => by
    unfold RlE at h
    obtain ⟨r, rfl, h1⟩ := h
    cases i with
    | zero => exact ⟨r, rfl, h1⟩
    | succ i => exact ⟨_, rfl, RlE.clear i h1⟩
  | .val d' :: env, σ, i, h => by
    unfold RlE at h
    obtain ⟨w, r, rfl, h1, h2⟩ := h
    cases i with
    | zero => exact ⟨r, rfl, h2⟩
    | succ i => exact ⟨_, _, rfl, h1, RlE.clear i h2⟩
  | .exc :: env, σ, i, h => by
    unfold RlE at h
    obtain ⟨r, rfl, h1⟩ := h
    cases i with
    | zero => exact ⟨r, rfl, h1⟩
    | succ i => exact ⟨_, rfl, RlE.clear i h1⟩
def noExc : Env → Bool
  | [] => true
  | .exc :: _ => false
  | _ :: r => noExc r
theorem RlE.reea {ea ea' : Addr} : ∀ {env : Env} {σ : St}, noExc env = true → RlE g μ n H ea env σ → RlE g μ n H ea' env σ
  | [], σ, _, h => h
  | .no :: env, σ, q, h => by
    unfold RlE at h ⊢
    obtain ⟨r, rfl, h1⟩ := h
    exact ⟨r, rfl, RlE.reea (by simpa [noExc] using q) h1⟩
  | .val d' :: env, σ, q, h => by
    unfold RlE at h ⊢
    obtain ⟨w, r, rfl, h1, h2⟩ := h
    exact ⟨w, r, rfl, h1, RlE.reea (by simpa [noExc] using q) h2⟩
  | .exc :: env, σ, q, h => by simp [noExc] at q
theorem RlE.setx {ea : Addr} : ∀ {env : Env} {σ : St} (i : Nat), RlE g μ n H ea env σ → RlE g μ n H ea (env.set i .exc) (σ.set i (some (.ref ea)))
  | [], σ, i, h => by unfold RlE at h; subst h; show RlE g μ n H ea [] []; unfold RlE; rfl
  | .no :: env, σ, i, h => by
    unfold RlE at h
    obtain ⟨r, rfl, h1⟩ := h
    cases i with
    | zero => exact ⟨r, rfl, h1⟩
    | succ i => exact ⟨_, rfl, RlE.setx i h1⟩
  | .val d' :: env, σ, i, h => by
    unfold RlE at h
    obtain ⟨w, r, rfl, h1, h2⟩ := h
    cases i with
    | zero => exact ⟨r, rfl, h2⟩
    | succ i => exact ⟨_, _, rfl, h1, RlE.setx i h2⟩
  | .exc :: env, σ, i, h => by
    unfold RlE at h
    obtain ⟨r, rfl, h1⟩ := h
    cases i with
    | zero => exact ⟨r, rfl, h1⟩
    | succ i => exact ⟨_, rfl, RlE.setx i h1⟩
/-! ### the store's steps -/
theorem SqT.upd_new {K : PySem.W.Frag} {p a : Addr} {o : HO} {xs : List V} (hp : H p = none) (h : SqT K H a xs) : SqT K (upd H p o) a xs := by
  rcases h with (h | ⟨ob, h⟩) | h
  · exact .inl (.inl (by rw [upd_ne (ne_of_none h hp)]; exact h))
  · exact .inl (.inr ⟨ob, by rw [upd_ne (ne_of_none h hp)]; exact h⟩)
  · exact .inr h
theorem SqT.upd_mut {K : PySem.W.Frag} {p a : Addr} {o u : HO} {xs : List V} (hp : H p = some u) (hu : ∀ ys, u ≠ .tup ys) (hf : ∀ ob w, u ≠ .frz ob w) (h : SqT K H a xs) : SqT K (upd H p o) a xs := by
  rcases h with (h | ⟨ob, h⟩) | h
  · exact .inl (.inl (by rw [upd_ne (ne_of h hp (fun e => hu xs e.symm))]; exact h))
  · exact .inl (.inr ⟨ob, by rw [upd_ne (ne_of h hp (fun e => hf _ _ e.symm))]; exact h⟩)
  · exact .inr h
theorem SqZ.upd_new {K : PySem.W.Frag} {p a : Addr} {o : HO} {xs : List V} (hp : H p = none) (h : SqZ K H a xs) : SqZ K (upd H p o) a xs := by
  rcases h with ⟨ob, h⟩ | h
  · exact .inl ⟨ob, by rw [upd_ne (ne_of_none h hp)]; exact h⟩
  · exact .inr h
theorem SqZ.upd_mut {K : PySem.W.Frag} {p a : Addr} {o u : HO} {xs : List V} (hp : H p = some u) (hf : ∀ ob w, u ≠ .frz ob w) (h : SqZ K H a xs) : SqZ K (upd H p o) a xs := by
  rcases h with ⟨ob, h⟩ | h
  · exact .inl ⟨ob, by rw [upd_ne (ne_of h hp (fun e => hf _ _ e.symm))]; exact h⟩
  · exact .inr h
theorem Ext.new {p : Addr} {o : HO} (hp : H p = none) : Ext g μ n H μ n (upd H p o) :=
  ⟨Nat.le_refl _, fun _ _ => rfl, fun _ _ h => SqT.upd_new hp h, fun _ _ h => SqZ.upd_new hp h, fun a fs h => by rw [upd_ne (ne_of_none h hp)]; exact h⟩
theorem Ext.mut {p : Addr} {o u : HO} (hp : H p = some u) (hu : ∀ ys, u ≠ .tup ys) (hf : ∀ ob w, u ≠ .frz ob w) (hx : ∀ fs, u ≠ .xd fs) : Ext g μ n H μ n (upd H p o) :=
  ⟨Nat.le_refl _, fun _ _ => rfl, fun _ _ h => SqT.upd_mut hp hu hf h, fun _ _ h => SqZ.upd_mut hp hf h, fun a fs h => by rw [upd_ne (ne_of h hp (fun e => hx _ e.symm))]; exact h⟩
theorem CellR.ext {a : Addr} {c : Cell} (e : Ext g μ n H μ' n' H') (k : H' a = H a) (h : CellR g μ n H a c) : CellR g μ' n' H' a c := by
  cases c with
  | lst ds => obtain ⟨xs, h1, h2⟩ := h; exact ⟨xs, k.trans h1, Rls.ext e _ _ h2⟩
  | ins c fs => obtain ⟨dx, fv, h1, h2, h3⟩ := h; exact ⟨dx, fv, k.trans h1, Rlk.ext e _ _ h2, h3⟩
  | dK kvs => obtain ⟨kv, h1, h2⟩ := h; exact ⟨kv, k.trans h1, Rlk.ext e _ _ h2⟩
  | dT kvs => obtain ⟨kv, h1, h2⟩ := h; exact ⟨kv, k.trans h1, Rlk.ext e _ _ h2⟩
theorem CellR.some {a : Addr} {c : Cell} (h : CellR g μ n H a c) : ∃ o, H a = some o ∧ (∀ ys, o ≠ .tup ys) ∧ (∀ fs, o ≠ .xd fs) := by
  cases c with
  | lst ds => obtain ⟨xs, h1, h2⟩ := h; exact ⟨_, h1, (by intro _ z; cases z), (by intro _ z; cases z)⟩
  | ins c fs => obtain ⟨dx, fv, h1, h2⟩ := h; exact ⟨_, h1, (by intro _ z; cases z), (by intro _ z; cases z)⟩
  | dK kvs => obtain ⟨kv, h1, h2⟩ := h; exact ⟨_, h1, (by intro _ z; cases z), (by intro _ z; cases z)⟩
  | dT kvs => obtain ⟨kv, h1, h2⟩ := h; exact ⟨_, h1, (by intro _ z; cases z), (by intro _ z; cases z)⟩
theorem Sim.ne (s : Sim g μ S H) {p : Addr} (hp : H p = none) {l : Nat} (hl : l < S.length) : μ l ≠ p := by
  intro e
  obtain ⟨o, h, _⟩ := (s.cell l _ (List.getElem?_eq_getElem hl)).some
  rw [e, hp] at h
  cases h
/-- a new thing that is no cell: a tuple, an exception's dict -/
theorem Sim.new (s : Sim g μ S H) {p : Addr} {o : HO} (hp : H p = none) : Sim g μ S (upd H p o) :=
  ⟨s.inj, fun l c h => (s.cell l c h).ext (Ext.new hp) (upd_ne (s.ne hp (List.getElem?_eq_some_iff.mp h).1))⟩
def muAdd (μ : Nat → Addr) (n : Nat) (p : Addr) : Nat → Addr := fun l => if l = n then p else μ l
theorem muAdd_at : muAdd μ n p n = p := by unfold muAdd; rw [if_pos rfl]
theorem muAdd_lt {l : Nat} {p : Addr} (h : l < n) : muAdd μ n p l = μ l := by unfold muAdd; rw [if_neg (Nat.ne_of_lt h)]
theorem Ext.add {p : Addr} {o : HO} (hp : H p = none) : Ext g μ n H (muAdd μ n p) (n + 1) (upd H p o) :=
  ⟨Nat.le_succ _, fun _ h => muAdd_lt h, fun _ _ h => SqT.upd_new hp h, fun _ _ h => SqZ.upd_new hp h, fun a fs h => by rw [upd_ne (ne_of_none h hp)]; exact h⟩
theorem Sim.alloc (s : Sim g μ S H) {p : Addr} {o : HO} {c : Cell} (hp : H p = none) (hc : CellR g (muAdd μ S.length p) (S.length + 1) (upd H p o) p c) : Sim g (muAdd μ S.length p) (S ++ [c]) (upd H p o) := by
  have hl : (S ++ [c]).length = S.length + 1 := by simp
  refine ⟨fun i j hi hj e => ?_, fun l c' h => ?_⟩
  · rw [hl] at hi hj
    rcases Nat.lt_or_ge i S.length with h1 | h1
    · rcases Nat.lt_or_ge j S.length with h2 | h2
      · rw [muAdd_lt h1, muAdd_lt h2] at e; exact s.inj i j h1 h2 e
      · have : j = S.length := by omega
        subst this
        rw [muAdd_at, muAdd_lt h1] at e
        exact absurd e (s.ne hp h1)
    · have : i = S.length := by omega
      subst this
      rcases Nat.lt_or_ge j S.length with h2 | h2
      · rw [muAdd_at, muAdd_lt h2] at e
        exact absurd e.symm (s.ne hp h2)
      · omega
  · rw [hl]
    rcases Nat.lt_or_ge l S.length with h1 | h1
    · rw [List.getElem?_append_left h1] at h
      rw [muAdd_lt h1]
      exact (s.cell l c' h).ext (Ext.add hp) (upd_ne (s.ne hp h1))
    · rw [List.getElem?_append_right h1] at h
      have : l = S.length := by
        have := (List.getElem?_eq_some_iff.mp h).1
        simp at this
        omega
      subst this
      simp at h
      subst h
      rw [muAdd_at]
      exact hc
/-- a cell is written -/
theorem Sim.write (s : Sim g μ S H) {l : Nat} {c : Cell} {o u : HO} (hl : l < S.length) (hu : H (μ l) = some u) (hf : ∀ ob w, u ≠ .frz ob w) (hc : CellR g μ S.length (upd H (μ l) o) (μ l) c) :
    Sim g μ (S.set l c) (upd H (μ l) o) ∧ Ext g μ S.length H μ (S.set l c).length (upd H (μ l) o) := by
  obtain ⟨u', h1, h2, h3⟩ := (s.cell l _ (List.getElem?_eq_getElem hl)).some
  rw [hu] at h1
  cases h1
  have ex : Ext g μ S.length H μ S.length (upd H (μ l) o) := Ext.mut hu h2 hf h3
  refine ⟨⟨by simpa using s.inj, fun k c' h => ?_⟩, by simpa using ex⟩
  rw [List.length_set]
  by_cases e : k = l
  · subst e
    rw [List.getElem?_set_self hl] at h
    cases h
    exact hc
  · rw [List.getElem?_set_ne (Ne.symm e)] at h
    have hk := (List.getElem?_eq_some_iff.mp h).1
    exact (s.cell k c' h).ext ex (upd_ne (fun z => e (s.inj k l hk hl z)))
theorem Sim.lst (s : Sim g μ S H) {l : Nat} {ds : List D} (h : S[l]? = some (.lst ds)) : ∃ xs, H (μ l) = some (.lst xs) ∧ Rls g μ S.length H ds xs := s.cell l _ h
theorem Sim.lt (h : S[l]? = some c) : l < S.length := (List.getElem?_eq_some_iff.mp h).1
/-- a list is written -/
theorem Sim.wlst (s : Sim g μ S H) {l : Nat} {ds es : List D} {ys : List V} (h : S[l]? = some (.lst ds)) (hr : Rls g μ S.length H es ys) :
    Sim g μ (S.set l (.lst es)) (upd H (μ l) (.lst ys)) ∧ Ext g μ S.length H μ (S.set l (.lst es)).length (upd H (μ l) (.lst ys)) := by
  obtain ⟨xs, h1, h2⟩ := s.lst h
  exact s.write (Sim.lt h) h1 (by intro _ _ z; cases z) ⟨ys, upd_same, Rls.ext (Ext.mut h1 (by intro _ z; cases z) (by intro _ _ z; cases z) (by intro _ z; cases z)) _ _ hr⟩
/-- a new list -/
theorem Sim.alst (s : Sim g μ S H) {p : Addr} {es : List D} {ys : List V} (hp : H p = none) (hr : Rls g μ S.length H es ys) :
    Sim g (muAdd μ S.length p) (S ++ [Cell.lst es]) (upd H p (.lst ys)) ∧ Ext g μ S.length H (muAdd μ S.length p) (S ++ [Cell.lst es]).length (upd H p (.lst ys)) ∧ Rl g (muAdd μ S.length p) (S ++ [Cell.lst es]).length (upd H p (.lst ys)) (.ref S.length) (.ref p) := by
  have ex : Ext g μ S.length H (muAdd μ S.length p) (S.length + 1) (upd H p (.lst ys)) := Ext.add hp
  refine ⟨s.alloc hp ⟨ys, upd_same, Rls.ext ex _ _ hr⟩, by simpa using ex, ?_⟩
  unfold Rl
  exact ⟨by rw [muAdd_at], by simp⟩
/-- a new tuple -/
theorem Sim.atup (s : Sim g μ S H) {p : Addr} {es : List D} {ys : List V} (hp : H p = none) (hr : Rls g μ S.length H es ys) :
    Sim g μ S (upd H p (.tup ys)) ∧ Ext g μ S.length H μ S.length (upd H p (.tup ys)) ∧ Rl g μ S.length (upd H p (.tup ys)) (.tup es) (.ref p) := by
  have ex : Ext g μ S.length H μ S.length (upd H p (.tup ys)) := Ext.new hp
  refine ⟨s.new hp, ex, ?_⟩
  unfold Rl
  exact ⟨p, ys, rfl, .inl (.inl upd_same), Rls.ext ex _ _ hr⟩
end
end VI

set_option Elab.async false
set_option linter.all false
set_option maxRecDepth 100000
/-! VIb: a small tree for the texts' defs, and what it does over data and store. -/
namespace VI
open PySem L2

inductive BO where
  | add | sub | mul | fdiv | mod | pow | shl | shr | and | or | xor
inductive CO where
  | eq | ne | lt | le | gt | ge | is | isn | inn | nin
/-- built-ins by name -/
inductive BF where
  | len | int | tuple | list | min2 | max2 | abs | all | any | sum | min | max | sorted | str | bool | ord | chr
/-- methods of built-in types -/
inductive BM where
  | append | pop | extend | popAt | index | count
mutual
inductive E where
  | var (i : Nat) | int (i : Int) | bl (b : Bool) | non | str (s : Str) | gcon (k : Nat)
  | bin (o : BO) (a b : E) | neg (a : E) | cmp (o : CO) (a b : E) | chain (o p : CO) (a b c : E)
  | andE (a b : E) | orE (a b : E) | notE (a : E) | ife (t : T) (a b : E)
  | idx (a b : E) | sl (a : E) (lo hi : O) | rev (a : E) | tup (es : Es) | lst (es : Es) | fld (a : E) (f : Str)
  | call (f : Nat) (es : Es) | meth (m : Str) (cs : List (Nat × Nat)) (a : E) (es : Es) | mk (c f : Nat) (es : Es)
  | isi (a : E) (t : String) | blt (b : BF) (es : Es) | bm (m : BM) (a : E) (es : Es)
  | lc (it : I) (own : List Nat) (g : G) (t : T) (e : E)
  | lc2 (it : I) (own : List Nat) (g : G) (t : T) (it1 : I) (own1 : List Nat) (g1 : G) (t1 : T) (e : E)
  | lrng1 (k : Bool) (a : E) | lrng2 (k : Bool) (a b : E)
  | kget (kvs : List (Str × D)) (a : E) | kidx (kvs : List (Str × D)) (a : E) | kin (neg : Bool) (kvs : List (Str × D)) (a : E)
  | dnew | disp (es : Es) | dget1 (a k : E) | dget2 (a k d : E) | srtItems (a : E) | srtSet (a : E) | lenSet (a : E)
  | gfn (f : Nat) | callE (fs : List Nat) (a : E) (es : Es)
  | excIs (i : Nat) (b : List (Nat × Bool)) | excFld (i : Nat) (f : Str) (cs : List Nat)
inductive Es where
  | nil | cons (e : E) (es : Es)
inductive O where
  | no | yes (e : E)
inductive T where
  | yes | val (e : E) | tru (e : E) | and (a b : T) | or (a b : T) | not (a : T)
inductive I where
  | seq (e : E) | rng1 (e : E) | rng2 (a b : E) | enum (e : E) | zip (a b : E) | revr (es : Es)
inductive G where
  | name (i : Nat) | tup (n : Nat) (gs : Gs) | sub (a i : E)
inductive Gs where
  | nil | cons (g : G) (gs : Gs)
end
/-- how an exception is made: its fields by the arguments (class with an __init__), or none -/
inductive XK where
  | init (fs : List Str) | bare
mutual
inductive S where
  | asg (g : G) (e : E) | asgI (a i e : E) | asgF (a : E) (f : Str) (e : E) | par (i j : Nat) (es : Es) | par3 (i j k : Nat) (es : Es)
  | aug (i : Nat) (o : BO) (e : E) | augF (a : E) (f : Str) (o : BO) (e : E) | augI (a i : E) (o : BO) (e : E)
  | ife (t : T) (a b : Ss) | while_ (t : T) (b : Ss) | for_ (it : I) (g : G) (b : Ss)
  | ret (e : E) | retN | drop (e : E) | pass | brk | cont | raise (c : Nat) (k : XK) (es : Es)
  | try_ (b : Ss) (hs : Hs)
inductive Ss where
  | nil | cons (s : S) (ss : Ss)
inductive Hs where
  | nil | cons (c : Nat) (i : Option Nat) (b : Ss) (hs : Hs)
end

/-- what the whole program gives: a call of a def, the constants -/
structure Pg where
  call : Nat → List D → M D
  con : Nat → D
  na : Nat → Str → Bool
  exm : Nat → Nat → Option Bool

/-! ### operations -/
def LIM : Nat := 16777216
def getL (S : Store) (l : Nat) : Option (List D) := match S[l]? with
  | some (.lst ds) => some ds
  | _ => none
@[irreducible] def two64 (i : Int) : Bool := decide (-(2 ^ 64) < i) && decide (i < 2 ^ 64)
@[irreducible] def powOk (i j : Int) : Bool := decide (0 ≤ j) && (decide (j ≤ 1000000) && decide (i.natAbs < 2 ^ 64))
def opI (o : BO) (i j : Int) : Option Int := match o with
  | .add => some (i + j)
  | .sub => some (i - j)
  | .mul => if two64 i || two64 j then some (i * j) else none
  | .fdiv => if decide (0 < j) && decide (j < 1073741824) then some (i / j) else none
  | .mod => if decide (0 < j) then some (i % j) else none
  | .pow => if powOk i j then some (i ^ j.toNat) else none
  | .shl => if powOk i j then some (i * 2 ^ j.toNat) else none
  | .shr => if decide (0 ≤ j) then some (i / 2 ^ j.toNat) else none
  | .and => some (Builtin.bitAnd i j)
  | .or => some (Builtin.bitOr i j)
  | .xor => some (Builtin.bitXor i j)
def opAdd (x y : D) : M D := fun S => match x, y with
  | .tup a, .tup b => if a.length + b.length ≤ LIM then .ok (.tup (a ++ b)) S else .err
  | .str a, .str b => if a.length + b.length ≤ LIM then .ok (.str (a ++ b)) S else .err
  | .ref l, .ref m => match S[l]?, S[m]? with
    | some (.lst a), some (.lst b) => if a.length + b.length ≤ LIM then .ok (.ref S.length) (S ++ [.lst (a ++ b)]) else .err
    | _, _ => .err
  | _, _ => .err
def opMul (x y : D) : M D := fun S => match x, y with
  | .ref l, .int k => match S[l]? with
    | some (.lst a) => if decide (-(2 ^ 63) ≤ k) && (decide (k < 2 ^ 63) && decide (a.length * k.toNat ≤ LIM)) then .ok (.ref S.length) (S ++ [.lst (List.replicate k.toNat a).flatten]) else .err
    | _ => .err
  | .tup a, .int k => if decide (a.length ≠ 0) && (decide (2 ≤ k) && (decide (k ≤ 1000) && decide (a.length ≤ 1000))) then .ok (.tup (List.replicate k.toNat a).flatten) S else .err
  | _, _ => .err
def binOp (o : BO) (x y : D) : M D := fun S => match x, y with
  | .int i, .int j => match opI o i j with
    | some k => .ok (.int k) S
    | none => .err
  | _, _ => match o with
    | .add => opAdd x y S
    | .mul => opMul x y S
    | _ => .err
def optAll {α : Type} : List (Option α) → Option (List α)
  | [] => some []
  | none :: _ => none
  | some a :: r => match optAll r with
    | some l => some (a :: l)
    | none => none
def toPy : Nat → Store → D → Option PyData
  | 0, _, _ => none
  | n + 1, S, d => match d with
    | .non => some .none
    | .bl b => some (.bool b)
    | .int i => some (.int i)
    | .str s => some (.str s)
    | .tup ds => match optAll (ds.map (toPy n S)) with
      | some l => some (.tuple l)
      | none => none
    | .ref l => match getL S l with
      | some ds => match optAll (ds.map (toPy n S)) with
        | some l => some (.list l)
        | none => none
      | none => none
    | _ => none
def scalD : D → D → Bool
  | .non, .non => true
  | .non, .int _ => true
  | .int _, .non => true
  | .non, .bl _ => true
  | .bl _, .non => true
  | .non, .str _ => true
  | .str _, .non => true
  | .int _, .int _ => true
  | .bl _, .bl _ => true
  | .str _, .str _ => true
  | .int _, .str _ => true
  | .str _, .int _ => true
  | .bl _, .str _ => true
  | .str _, .bl _ => true
  | _, _ => false
/-- equality of two of them -/
def sameD : D → D → Bool
  | .non, .non => true
  | .int i, .int j => decide (i = j)
  | .bl i, .bl j => decide (i = j)
  | .str i, .str j => decide (i = j)
  | _, _ => false
def eqOp (x y : D) (S : Store) : Option Bool := if scalD x y then some (sameD x y) else match toPy 30 S x, toPy 30 S y with
  | some p, some q => if SeqAt.shaped p && SeqAt.shaped q then some (PyData.eqv p q) else none
  | _, _ => none
def isNonD : D → Bool
  | .non => true
  | _ => false
def isBlD (b : Bool) : D → Bool
  | .bl a => decide (a = b)
  | _ => false
def objAt (S : Store) (l : Nat) : Bool := match S[l]? with
  | some (.lst _) => true
  | some (.ins _ _) => true
  | _ => false
def isOp (x y : D) (S : Store) : Option Bool := match x, y with
  | .ref l, .ref m => if objAt S l && objAt S m then some (decide (l = m)) else none
  | x, .non => some (isNonD x)
  | x, .bl b => some (isBlD b x)
  | _, _ => none
def flatD : D → Bool
  | .non => true
  | .bl _ => true
  | .int _ => true
  | .str _ => true
  | _ => false
def eqvD : D → D → Bool
  | .non, .non => true
  | .bl a, .bl b => a == b
  | .bl a, .int b => (if a then 1 else 0) == b
  | .int a, .bl b => a == (if b then 1 else 0)
  | .int a, .int b => a == b
  | .str a, .str b => a == b
  | _, _ => false
def inSeq (x : D) (ds : List D) : Option Bool := if flatD x && ds.all flatD then some (ds.any fun y => eqvD y x) else none
def keyOf : D → Option Key
  | .int i => some (.inl i)
  | .str s => some (.inr s)
  | _ => none
def keysOf : List D → Option (List Key)
  | [] => some []
  | d :: ds => match keyOf d, keysOf ds with
    | some k, some ks => some (k :: ks)
    | _, _ => none
def dGet {κ α : Type} [DecidableEq κ] (k : κ) : List (κ × α) → Option α
  | [] => none
  | (j, a) :: r => if j = k then some a else dGet k r
/-- what the dict at l holds -/
def dkGet (S : Store) (l : Nat) (k : Key) : Option D := match S[l]? with
  | some (.dK kvs) => dGet k kvs
  | _ => none
def dPut {κ α : Type} [DecidableEq κ] (k : κ) (v : α) (kvs : List (κ × α)) : List (κ × α) := if (kvs.any fun p => decide (p.1 = k)) = true then kvs.map (fun p => if p.1 = k then (p.1, v) else p) else kvs ++ [(k, v)]
def mergeD {κ α : Type} [DecidableEq κ] (kvs more : List (κ × α)) : List (κ × α) := more.foldl (fun acc p => dPut p.1 p.2 acc) kvs
def inData (x : D) (ds : List D) (S : Store) : Option Bool := match toPy 30 S x, optAll (ds.map (toPy 30 S)) with
  | some p, some ps => if SeqAt.shaped p && SeqAt.shaped (.list ps) then some (ps.any fun z => PyData.eqv z p) else none
  | _, _ => none
def inAny (x : D) (ds : List D) (S : Store) : Option Bool := match inSeq x ds with
  | some k => some k
  | none => inData x ds S
def inOp (x y : D) (S : Store) : Option Bool := match y with
  | .tup ds => inAny x ds S
  | .str t => match x with
    | .str a => some (!(Builtin.Str.occurrences t a 0 t.length 1).isEmpty)
    | _ => none
  | .ref l => match S[l]? with
    | some (.lst ds) => inAny x ds S
    | some (.dK kvs) => match keyOf x with
      | some k => some (dGet k kvs).isSome
      | none => none
    | _ => none
  | _ => none
def ltOp (o : CO) (x y : D) : Option Bool := match x, y with
  | .int i, .int j => match o with
    | .lt => some (decide (i < j))
    | .le => some (decide (i ≤ j))
    | .gt => some (decide (j < i))
    | .ge => some (decide (j ≤ i))
    | _ => none
  | _, _ => none
def cmpOp (o : CO) (x y : D) (S : Store) : Option Bool := match o with
  | .eq => eqOp x y S
  | .ne => (eqOp x y S).map (!·)
  | .is => isOp x y S
  | .isn => (isOp x y S).map (!·)
  | .inn => inOp x y S
  | .nin => (inOp x y S).map (!·)
  | o => ltOp o x y
def truD (x : D) (S : Store) : Option Bool := match x with
  | .non => some false
  | .bl b => some b
  | .int i => some (i != 0)
  | .str y => if y.length ≤ LIM then some ((y.length : Int) != 0) else none
  | .tup ds => some (!ds.isEmpty)
  | .rol ds => some (!ds.isEmpty)
  | .ref l => match S[l]? with
    | some (.lst ds) => some (!ds.isEmpty)
    | some (.dK kvs) => some (!kvs.isEmpty)
    | _ => none
  | _ => none
def idxOp (x y : D) (S : Store) : Option D := match x, y with
  | .tup ds, .int i => atI ds i
  | .rol ds, .int i => atI ds i
  | .str z, .int i => if z.length ≤ LIM then (atI z.cps.toList i).map fun c => .str ⟨#[c]⟩ else none
  | .ref l, .int i => match getL S l with
    | some ds => atI ds i
    | none => dkGet S l (.inl i)
  | .ref l, .str z => dkGet S l (.inr z)
  | _, _ => none
def cutD (xs : List D) (lo hi : Option Int) : List D := (xs.drop (HT.sIx xs.length 0 lo)).take (HT.sIx xs.length xs.length hi - HT.sIx xs.length 0 lo)
def slOp (x : D) (lo hi : Option Int) : M D := fun S => match x with
  | .tup ds => .ok (.tup (cutD ds lo hi)) S
  | .ref l => match getL S l with
    | some ds => .ok (.ref S.length) (S ++ [.lst (cutD ds lo hi)])
    | none => .err
  | _ => .err
def revOp (x : D) : M D := fun S => match x with
  | .ref l => match getL S l with
    | some ds => .ok (.ref S.length) (S ++ [.lst ds.reverse])
    | none => .err
  | .tup ds => .ok (.tup ds.reverse) S
  | _ => .err
def tyName : D → Store → Option String
  | .non, _ => some "NoneType"
  | .bl _, _ => some "bool"
  | .int _, _ => some "int"
  | .str _, _ => some "str"
  | .tup _, _ => some "tuple"
  | .rol _, _ => some "list"
  | .ref l, S => match S[l]? with
    | some (.lst _) => some "list"
    | some (.dK _) => some "dict"
    | some (.dT _) => some "dict"
    | _ => none
  | _, _ => none
def isiOp (x : D) (t : String) (S : Store) : Option Bool := match tyName x S with
  | some n => kitB n t
  | none => none
def intsOf : List D → Option (List Int)
  | [] => some []
  | .int i :: ds => match intsOf ds with
    | some l => some (i :: l)
    | none => none
  | _ :: _ => none
def blsOf : List D → Option (List Bool)
  | [] => some []
  | .bl i :: ds => match blsOf ds with
    | some l => some (i :: l)
    | none => none
  | _ :: _ => none
def seqD (x : D) (S : Store) : Option (List D) := match x with
  | .tup ds => some ds
  | .ref l => getL S l
  | _ => none
def minI : List Int → Int
  | [] => 0
  | [i] => i
  | i :: j :: r => let m := minI (j :: r); if i ≤ m then i else m
def maxI : List Int → Int
  | [] => 0
  | [i] => i
  | i :: j :: r => let m := maxI (j :: r); if m ≤ i then i else m
def insI (x : Int) : List Int → List Int
  | [] => [x]
  | y :: r => if x ≤ y then x :: y :: r else y :: insI x r
def sortI : List Int → List Int
  | [] => []
  | x :: r => insI x (sortI r)
/-- into a row without repeats, ascending -/
def insU (x : Int) : List Int → List Int
  | [] => [x]
  | y :: r => if x < y then x :: y :: r else if x = y then y :: r else y :: insU x r
def setI : List Int → List Int
  | [] => []
  | x :: r => insU x (setI r)
def pairLe (p q : Int × Int) : Bool := decide (p.1 < q.1) || (decide (p.1 = q.1) && decide (p.2 ≤ q.2))
def insP (x : Int × Int) : List (Int × Int) → List (Int × Int)
  | [] => [x]
  | y :: r => if pairLe x y then x :: y :: r else y :: insP x r
def sortP : List (Int × Int) → List (Int × Int)
  | [] => []
  | x :: r => insP x (sortP r)
def itemsI : List (Key × D) → Option (List (Int × Int))
  | [] => some []
  | (.inl i, .int j) :: r => match itemsI r with
    | some l => some ((i, j) :: l)
    | none => none
  | _ :: _ => none
/-- keys and values by turns -/
def pairUp {α : Type} : List α → List (α × α)
  | x :: y :: r => (x, y) :: pairUp r
  | _ => []
def dispOf : List (D × D) → Option (List (Key × D))
  | [] => some []
  | (k, d) :: r => match keyOf k, dispOf r with
    | some k, some l => some ((k, d) :: l)
    | _, _ => none
def bltOp (b : BF) (ds : List D) : M D := fun S => match b, ds with
  | .len, [.tup xs] => .ok (.int xs.length) S
  | .len, [.rol xs] => .ok (.int xs.length) S
  | .len, [.str z] => if z.length ≤ LIM then .ok (.int z.length) S else .err
  | .len, [.ref l] => match S[l]? with
    | some (.lst xs) => .ok (.int xs.length) S
    | some (.dK kvs) => .ok (.int kvs.length) S
    | _ => .err
  | .int, [.int i] => .ok (.int i) S
  | .int, [.bl k] => .ok (.int (if k then 1 else 0)) S
  | .bool, [.int i] => .ok (.bl (i != 0)) S
  | .bool, [.bl k] => .ok (.bl k) S
  | .tuple, [.tup xs] => .ok (.tup xs) S
  | .tuple, [.ref l] => match getL S l with
    | some xs => .ok (.tup xs) S
    | none => .err
  | .list, [.tup xs] => .ok (.ref S.length) (S ++ [.lst xs])
  | .list, [.rol xs] => .ok (.ref S.length) (S ++ [.lst xs])
  | .list, [.ref l] => match getL S l with
    | some xs => .ok (.ref S.length) (S ++ [.lst xs])
    | none => .err
  | .min2, [.int i, .int j] => .ok (.int (if j < i then j else i)) S
  | .max2, [.int i, .int j] => .ok (.int (if j > i then j else i)) S
  | .abs, [.int i] => .ok (.int (if i < 0 then -i else i)) S
  | .all, [.ref l] => match getL S l with
    | some xs => match blsOf xs with
      | some bs => .ok (.bl (bs.all id)) S
      | none => .err
    | none => .err
  | .any, [.ref l] => match getL S l with
    | some xs => match blsOf xs with
      | some bs => .ok (.bl (bs.any id)) S
      | none => .err
    | none => .err
  | .sum, [.ref l] => match getL S l with
    | some xs => match intsOf xs with
      | some is => .ok (.int is.sum) S
      | none => .err
    | none => .err
  | .min, [.ref l] => match getL S l with
    | some xs => match intsOf xs with
      | some (i :: is) => .ok (.int (minI (i :: is))) S
      | _ => .err
    | none => .err
  | .max, [.ref l] => match getL S l with
    | some xs => match intsOf xs with
      | some (i :: is) => .ok (.int (maxI (i :: is))) S
      | _ => .err
    | none => .err
  | .sorted, [.ref l] => match getL S l with
    | some xs => match intsOf xs with
      | some is => .ok (.ref S.length) (S ++ [.lst ((sortI is).map .int)])
      | _ => .err
    | none => .err
  | _, _ => .err
@[irreducible] def small62 (i : Int) : Bool := decide (-(2 ^ 62) ≤ i) && decide (i < 2 ^ 62)
def bmOp (m : BM) (x : D) (ds : List D) : M D := fun S => match m, x, ds with
  | .append, .ref l, [d] => match S[l]? with
    | some (.lst xs) => if xs.length < LIM then .ok .non (S.set l (.lst (xs ++ [d]))) else .err
    | _ => .err
  | .pop, .ref l, [] => match S[l]? with
    | some (.lst xs) => match xs[xs.length - 1]? with
      | some d => .ok d (S.set l (.lst xs.dropLast))
      | none => .err
    | _ => .err
  | .popAt, .ref l, [.int i] => match S[l]? with
    | some (.lst xs) => match ixN xs.length i with
      | some k => match xs[k]? with
        | some d => if small62 i then .ok d (S.set l (.lst (xs.eraseIdx k))) else .err
        | none => .err
      | none => .err
    | _ => .err
  | .index, .ref l, [y] => match S[l]? with
    | some (.lst xs) => if flatD y && xs.all flatD then (match xs.findIdx? (eqvD · y) with
      | some j => .ok (.int j) S
      | none => .err) else .err
    | _ => .err
  | .count, .ref l, [.int y] => match S[l]? with
    | some (.lst xs) => match intsOf xs with
      | some is => .ok (.int (is.count y : Nat)) S
      | none => .err
    | _ => .err
  | .extend, .ref l, [.ref k] => match S[l]?, S[k]? with
    | some (.lst xs), some (.lst ys) => if xs.length + ys.length ≤ LIM then .ok .non (S.set l (.lst (xs ++ ys))) else .err
    | _, _ => .err
  | _, _, _ => .err

def isLst (x : D) (S : Store) : Bool := match x with
  | .ref l => match S[l]? with
    | some (.lst _) => true
    | _ => false
  | _ => false
/-! ### sources of a loop -/
inductive Src where
  | fix (ds : List D) | fixB (ds : List D) | live (l : Nat) | enumL (l : Nat) | zipL (l m : Nat)
def Src.next (s : Src) (i : Nat) (S : Store) : Option (Option D) := match s with
  | .fix ds => some ds[i]?
  | .fixB ds => if i ≤ ds.length then some ds[i]? else none
  | .live l => match getL S l with
    | some ds => some ds[i]?
    | none => none
  | .enumL l => match getL S l with
    | some ds => some (ds[i]?.map fun d => .tup [.int i, d])
    | none => none
  | .zipL l m => match getL S l, getL S m with
    | some ds, some es => some (match ds[i]?, es[i]? with
      | some d, some e => some (.tup [d, e])
      | _, _ => none)
    | _, _ => none
def rngD (lo : Int) (c : Int) : Nat → List D
  | 0 => []
  | n + 1 => .int lo :: rngD (lo + c) c n
def rngN (lo hi c : Int) : Nat := if 0 < c then ((hi - lo + c - 1) / c).toNat else ((lo - hi + (-c) - 1) / (-c)).toNat
def rngOp (ds : List D) : Option Src := match ds with
  | [.int j] => if small62 j then some (.fix (rngD 0 1 j.toNat)) else none
  | [.int i, .int j] => if small62 i && small62 j then some (.fix (rngD i 1 (j - i).toNat)) else none
  | _ => none
def enumD : Nat → List D → List D
  | _, [] => []
  | k, d :: ds => .tup [.int (k : Nat), d] :: enumD (k + 1) ds
def strD (s : Str) : List D := s.cps.toList.map fun c => .str ⟨#[c]⟩
def seqSrc (x : D) (S : Store) : Option Src := match x with
  | .tup ds => some (.fix ds)
  | .rol ds => some (.fix ds)
  | .str s => some (.fix (strD s))
  | .ref l => match getL S l with
    | some _ => some (.live l)
    | none => none
  | _ => none

/-! ### statements' ends -/
def R.noX {α : Type} (r : R α) : R α := match r with
  | .exc _ _ => .err
  | r => r
@[simp] theorem noX_ok {α : Type} (a : α) (S : Store) : (R.ok a S).noX = .ok a S := rfl
@[simp] theorem noX_exc {α : Type} (x : XC) (S : Store) : (R.exc x S : R α).noX = .err := rfl
@[simp] theorem noX_err {α : Type} : (R.err : R α).noX = .err := rfl
inductive Fl where
  | nx | rt (d : D) | bk | ct
inductive RS where
  | ok (f : Fl) (env : Env) (S : Store) | exc (x : XC) (env : Env) (S : Store) | err
def R.toS {α : Type} (r : R α) (env : Env) (f : α → Store → RS) : RS := match r with
  | .ok a S => f a S
  | .exc x S => .exc x env S
  | .err => .err
@[simp] theorem toS_ok {α : Type} (a : α) (S : Store) (env : Env) (f : α → Store → RS) : (R.ok a S).toS env f = f a S := rfl
@[simp] theorem toS_exc {α : Type} (x : XC) (S : Store) (env : Env) (f : α → Store → RS) : (R.exc x S : R α).toS env f = .exc x env S := rfl
@[simp] theorem toS_err {α : Type} (env : Env) (f : α → Store → RS) : (R.err : R α).toS env f = .err := rfl
/-- what follows a statement's ordinary end -/
def RS.seq (r : RS) (k : Env → Store → RS) : RS := match r with
  | .ok .nx env S => k env S
  | r => r
@[simp] theorem seq_nx (env : Env) (S : Store) (k : Env → Store → RS) : (RS.ok .nx env S).seq k = k env S := rfl
@[simp] theorem seq_rt (d : D) (env : Env) (S : Store) (k : Env → Store → RS) : (RS.ok (.rt d) env S).seq k = .ok (.rt d) env S := rfl
@[simp] theorem seq_bk (env : Env) (S : Store) (k : Env → Store → RS) : (RS.ok .bk env S).seq k = .ok .bk env S := rfl
@[simp] theorem seq_ct (env : Env) (S : Store) (k : Env → Store → RS) : (RS.ok .ct env S).seq k = .ok .ct env S := rfl
@[simp] theorem seq_exc (x : XC) (env : Env) (S : Store) (k : Env → Store → RS) : (RS.exc x env S).seq k = .exc x env S := rfl
@[simp] theorem seq_err (k : Env → Store → RS) : RS.err.seq k = .err := rfl
def forLoop (src : Src) (asg : D → Env → M Env) (body : Env → Store → RS) : Nat → Nat → Env → Store → RS
  | 0, _, _, _ => .err
  | m + 1, i, env, S => match src.next i S with
    | none => .err
    | some none => .ok .nx env S
    | some (some d) => (asg d env S).toS env fun env1 S1 => match body env1 S1 with
      | .ok .nx env2 S2 => forLoop src asg body m (i + 1) env2 S2
      | .ok .ct env2 S2 => forLoop src asg body m (i + 1) env2 S2
      | .ok .bk env2 S2 => .ok .nx env2 S2
      | r => r
def whileLoop (test : Env → M Bool) (body : Env → Store → RS) : Nat → Env → Store → RS
  | 0, _, _ => .err
  | m + 1, env, S => (test env S).toS env fun b S1 => if b then (match body env S1 with
      | .ok .nx env2 S2 => whileLoop test body m env2 S2
      | .ok .ct env2 S2 => whileLoop test body m env2 S2
      | .ok .bk env2 S2 => .ok .nx env2 S2
      | r => r) else .ok .nx env S1
/-- a comprehension's turns: the list grows at l -/
def lcLoop (src : Src) (asg : D → Env → M Env) (wenv : Env) (test : Env → M Bool) (elt : Env → M D) (l : Nat) : Nat → Nat → Store → R D
  | 0, _, _ => .err
  | m + 1, i, S => match src.next i S with
    | none => .err
    | some none => .ok (.ref l) S
    | some (some d) => (asg d wenv S).bind fun env1 S1 => (test env1 S1).bind fun b S2 => if b then (elt env1 S2).bind fun x S3 => (match S3[l]? with
          | some (.lst acc) => if acc.length < LIM then lcLoop src asg wenv test elt l m (i + 1) (S3.set l (.lst (acc ++ [x]))) else .err
          | _ => .err) else lcLoop src asg wenv test elt l m (i + 1) S2
/-- the outer loop of a comprehension with two clauses: inner makes one turn's items -/
def lc2Loop (src : Src) (asg : D → Env → M Env) (wenv : Env) (test : Env → M Bool) (inner : Env → M D) (l : Nat) : Nat → Nat → Store → R D
  | 0, _, _ => .err
  | m + 1, i, S => match src.next i S with
    | none => .err
    | some none => .ok (.ref l) S
    | some (some d) => (asg d wenv S).bind fun env1 S1 => (test env1 S1).bind fun b S2 => if b then (inner env1 S2).bind fun _ S3 => lc2Loop src asg wenv test inner l m (i + 1) S3 else lc2Loop src asg wenv test inner l m (i + 1) S2
def getF (f : Str) : Fs → Option D
  | [] => none
  | (k, d) :: r => if k = f then some d else getF f r
def isScal : D → Bool
  | .non => true
  | .bl _ => true
  | .int _ => true
  | .str _ => true
  | _ => false
def lrngOp (k : Bool) (a b : Int) : M D := fun S => if small62 a && (small62 b && decide ((b - a).toNat ≤ LIM)) then (if k then .ok (.ref S.length) (S ++ [.lst (rngD a 1 (b - a).toNat)]) else .ok (.tup (rngD a 1 (b - a).toNat)) S) else .err
def wipeE (env : Env) : List Nat → Env
  | [] => env
  | v :: vs => (wipeE env vs).set v .no
def putD (f : Str) (v : D) : Fs → Fs
  | [] => [(f, v)]
  | (g, x) :: r => if g = f then (g, v) :: r else (g, x) :: putD f v r
def getV (env : Env) (i : Nat) : Option D := match env[i]? with
  | some (.val d) => some d
  | _ => none
@[irreducible] def turns : Nat := 1000000000000
/-- x[i] = v -/
def setIdx (x y v : D) : Store → Option Store := fun S => match x with
  | .ref l => match S[l]? with
    | some (.lst ds) => match y with
      | .int k => match ixN ds.length k with
        | some j => some (S.set l (.lst (ds.set j v)))
        | none => none
      | _ => none
    | _ => none
  | _ => none
/-- x[i] = v, a list's or a dict's -/
def setIdxD (x y v : D) (S : Store) : Option Store := match x with
  | .ref l => match S[l]? with
    | some (.dK kvs) => match keyOf y with
      | some k => if kvs.length < LIM then some (S.set l (.dK (dPut k v kvs))) else none
      | none => none
    | _ => setIdx x y v S
  | _ => none
def isDK (x : D) (S : Store) : Bool := match x with
  | .ref l => match S[l]? with
    | some (.dK _) => true
    | _ => false
  | _ => false
def dget2Op (x y z : D) (S : Store) : Option D := match x with
  | .ref l => match S[l]? with
    | some (.dK kvs) => match keyOf y with
      | some k => some ((dGet k kvs).getD z)
      | none => none
    | _ => none
  | _ => none
def dispOp (l : Nat) (ds : List D) : M D := fun S => match S[l]? with
  | some (.dK []) => match dispOf (pairUp ds) with
    | some kvs => if kvs.length ≤ 15 then .ok (.ref l) (S.set l (.dK (mergeD [] kvs))) else .err
    | none => .err
  | _ => .err
def srtItemsOp (x : D) : M D := fun S => match x with
  | .ref l => match S[l]? with
    | some (.dK kvs) => match itemsI kvs with
      | some ps => if ps.length ≤ LIM then .ok (.ref S.length) (S ++ [.lst ((sortP ps).map fun p => .tup [.int p.1, .int p.2])]) else .err
      | none => .err
    | _ => .err
  | _ => .err
def intsAt (x : D) (S : Store) : Option (List Int) := match x with
  | .tup ds => intsOf ds
  | .ref l => match getL S l with
    | some ds => intsOf ds
    | none => none
  | _ => none
def srtSetOp (x : D) : M D := fun S => match intsAt x S with
  | some is => if decide (is.length ≤ 4000) && decide ((setI is).length < 64) then .ok (.ref S.length) (S ++ [.lst ((setI is).map .int)]) else .err
  | none => .err
def lenSetOp (x : D) : M D := fun S => match intsAt x S with
  | some is => if decide (is.length ≤ 4000) then .ok (.int (setI is).length) S else .err
  | none => .err
def hasF (f : Str) : Fs → Bool
  | [] => false
  | (k, _) :: r => decide (k = f) || hasF f r
def setFld (na : Nat → Str → Bool) (x v : D) (f : Str) : Store → Option Store := fun S => match x with
  | .ref l => match S[l]? with
    | some (.ins c fs) => if decide (fs.length < 1000) && (hasF f fs || na c f) then some (S.set l (.ins c (putD f v fs))) else none
    | _ => none
  | _ => none
def getFld (x : D) (f : Str) (S : Store) : Option D := match x with
  | .ref l => match S[l]? with
    | some (.ins _ fs) => getF f fs
    | _ => none
  | _ => none
def optM {α : Type} (o : Option α) (S : Store) : R α := match o with
  | some a => .ok a S
  | none => .err
@[simp] theorem optM_some {α : Type} (a : α) (S : Store) : optM (some a) S = .ok a S := rfl
@[simp] theorem optM_none {α : Type} (S : Store) : (optM none S : R α) = .err := rfl

mutual
def slotsG : G → List Nat
  | .name i => [i]
  | .tup _ gs => slotsGs gs
  | .sub _ _ => []
def slotsGs : Gs → List Nat
  | .nil => []
  | .cons g gs => slotsG g ++ slotsGs gs
end
/-- x op= y -/
def augOp (o : BO) (x y : D) : M D := fun S => match x, y with
  | .int i, .int j => match o with
    | .add => .ok (.int (i + j)) S
    | .sub => .ok (.int (i - j)) S
    | _ => .err
  | .str a, .str b => match o with
    | .add => if a.length + b.length ≤ LIM then .ok (.str (a ++ b)) S else .err
    | _ => .err
  | .ref l, .ref m => match o with
    | .add => match S[l]?, S[m]? with
      | some (.lst a), some (.lst b) => if a.length + b.length ≤ LIM then .ok (.ref l) (S.set l (.lst (a ++ b))) else .err
      | _, _ => .err
    | _ => .err
  | _, _ => .err
mutual
def evE (P : Pg) (xc : Option XC) (env : Env) : E → M D
  | .var i, S => optM (getV env i) S
  | .int i, S => .ok (.int i) S
  | .bl b, S => .ok (.bl b) S
  | .non, S => .ok .non S
  | .str s, S => .ok (.str s) S
  | .gcon k, S => .ok (P.con k) S
  | .bin o a b, S => (evE P xc env a S).bind fun x S => (evE P xc env b S).bind fun y S => binOp o x y S
  | .neg a, S => (evE P xc env a S).bind fun x S => match x with
    | .int i => .ok (.int (-i)) S
    | _ => .err
  | .cmp o a b, S => (evE P xc env a S).bind fun x S => (evE P xc env b S).bind fun y S => (optM (cmpOp o x y S) S).bind fun k S => .ok (.bl k) S
  | .chain o p a b c, S => (evE P xc env a S).bind fun x S => (evE P xc env b S).bind fun y S => (optM (cmpOp o x y S) S).bind fun k S => if k then (evE P xc env c S).bind fun z S => (optM (cmpOp p y z S) S).bind fun k S => .ok (.bl k) S else .ok (.bl false) S
  | .andE a b, S => (evE P xc env a S).bind fun x S => match x with
    | .bl k => if k then evE P xc env b S else .ok (.bl false) S
    | _ => .err
  | .orE a b, S => (evE P xc env a S).bind fun x S => match x with
    | .bl k => if k then .ok (.bl true) S else evE P xc env b S
    | _ => .err
  | .notE a, S => (evE P xc env a S).bind fun x S => (optM (truD x S) S).bind fun k S => .ok (.bl (!k)) S
  | .ife t a b, S => (evT P xc env t S).bind fun k S => if k then evE P xc env a S else evE P xc env b S
  | .idx a b, S => (evE P xc env a S).bind fun x S => (evE P xc env b S).bind fun y S => optM (idxOp x y S) S
  | .sl a lo hi, S => (evE P xc env a S).bind fun x S => (evO P xc env lo S).bind fun l S => (evO P xc env hi S).bind fun h S => slOp x l h S
  | .rev a, S => (evE P xc env a S).bind fun x S => revOp x S
  | .tup es, S => (evEs P xc env es S).bind fun ds S => if ds.length ≤ LIM then .ok (.tup ds) S else .err
  | .lst es, S => (evEs P xc env es S).bind fun ds S => if ds.length ≤ LIM then .ok (.ref S.length) (S ++ [.lst ds]) else .err
  | .fld a f, S => (evE P xc env a S).bind fun x S => optM (getFld x f S) S
  | .call f es, S => (evEs P xc env es S).bind fun ds S => P.call f ds S
  | .meth m cs a es, S => (evE P xc env a S).noX.bind fun x S => match x with
    | .ref l => match S[l]? with
      | some (.ins c fs) => match getF m fs, cs.lookup c with
        | none, some f => (evEs P xc env es S).bind fun ds S => P.call f (.ref l :: ds) S
        | _, _ => .err
      | _ => .err
    | _ => .err
  | .mk c f es, S => (evEs P xc env es S).bind fun ds S => (P.call f (.ref S.length :: ds) (S ++ [.ins c []])).bind fun d S1 => match d with
    | .non => .ok (.ref S.length) S1
    | _ => .err
  | .gfn f, S => .ok (.fn f) S
  | .callE fs a es, S => (evE P xc env a S).noX.bind fun x S => match x with
    | .fn f => if fs.contains f then (evEs P xc env es S).bind fun ds S => P.call f ds S else .err
    | _ => .err
  | .isi a t, S => (evE P xc env a S).bind fun x S => (optM (isiOp x t S) S).bind fun k S => .ok (.bl k) S
  | .blt b es, S => (evEs P xc env es S).bind fun ds S => bltOp b ds S
  | .bm m a es, S => (evE P xc env a S).bind fun x S => if isLst x S then (evEs P xc env es S).bind fun ds S => bmOp m x ds S else .err
  | .lc it own g t e, S => (evI P xc env it S).bind fun src S => if (slotsG g).all (own.contains ·) then lcLoop src (fun d env S => asgG P none env g d S) (wipeE env own) (fun env S => (evT P none env t S).noX) (fun env S => (evE P none env e S).noX) S.length turns 0 (S ++ [.lst []]) else .err
  | .lc2 it own g t it1 own1 g1 t1 e, S => (evI P xc env it S).bind fun src S => if (slotsG g).all (own.contains ·) && ((slotsG g1).all (own1.contains ·) && own1.all (own.contains ·)) then lc2Loop src (fun d env S => asgG P none env g d S) (wipeE env own) (fun env S => (evT P none env t S).noX) (fun env1 S1 => (evI P none env1 it1 S1).noX.bind fun src1 S1 => lcLoop src1 (fun d env S => asgG P none env g1 d S) (wipeE env1 own1) (fun env S => (evT P none env t1 S).noX) (fun env S => (evE P none env e S).noX) S.length turns 0 S1) S.length turns 0 (S ++ [.lst []]) else .err
  | .lrng1 k a, S => (evE P xc env a S).bind fun x S => match x with
    | .int j => lrngOp k 0 j S
    | _ => .err
  | .lrng2 k a b, S => (evE P xc env a S).bind fun x S => (evE P xc env b S).bind fun y S => match x, y with
    | .int i, .int j => lrngOp k i j S
    | _, _ => .err
  | .kget kvs a, S => (evE P xc env a S).bind fun x S => match x with
    | .str z => match getF z kvs with
      | some d => if isScal d then .ok d S else .err
      | none => .ok .non S
    | _ => .err
  | .kidx kvs a, S => (evE P xc env a S).bind fun x S => match x with
    | .str z => match getF z kvs with
      | some d => if isScal d then .ok d S else .err
      | none => .err
    | _ => .err
  | .kin neg kvs a, S => (evE P xc env a S).bind fun x S => match x with
    | .str z => .ok (.bl ((getF z kvs).isSome != neg)) S
    | _ => .err
  | .dnew, S => .ok (.ref S.length) (S ++ [.dK []])
  | .disp es, S => (evEs P xc env es (S ++ [.dK []])).bind fun ds S1 => dispOp S.length ds S1
  | .dget1 a k, S => (evE P xc env a S).bind fun x S => if isDK x S then (evE P xc env k S).bind fun y S => optM (dget2Op x y .non S) S else .err
  | .dget2 a k d, S => (evE P xc env a S).bind fun x S => if isDK x S then (evE P xc env k S).bind fun y S => (evE P xc env d S).bind fun z S => optM (dget2Op x y z S) S else .err
  | .srtItems a, S => (evE P xc env a S).bind fun x S => srtItemsOp x S
  | .srtSet a, S => (evE P xc env a S).bind fun x S => srtSetOp x S
  | .lenSet a, S => (evE P xc env a S).bind fun x S => lenSetOp x S
  | .excIs i b, S => match env[i]?, xc with
    | some .exc, some x => match (b.lookup x.c : Option Bool) with
      | some k => .ok (.bl k) S
      | none => .err
    | _, _ => .err
  | .excFld i f cs, S => match env[i]?, xc with
    | some .exc, some x => if cs.contains x.c then optM (getF f x.fs) S else .err
    | _, _ => .err
def evEs (P : Pg) (xc : Option XC) (env : Env) : Es → M (List D)
  | .nil, S => .ok [] S
  | .cons e es, S => (evE P xc env e S).bind fun d S => (evEs P xc env es S).bind fun ds S => .ok (d :: ds) S
def evO (P : Pg) (xc : Option XC) (env : Env) : O → M (Option Int)
  | .no, S => .ok none S
  | .yes e, S => (evE P xc env e S).bind fun d S => match d with
    | .int i => .ok (some i) S
    | _ => .err
def evT (P : Pg) (xc : Option XC) (env : Env) : T → M Bool
  | .yes, S => .ok true S
  | .val e, S => (evE P xc env e S).bind fun d S => match d with
    | .bl b => .ok b S
    | _ => .err
  | .tru e, S => (evE P xc env e S).bind fun d S => optM (truD d S) S
  | .and a b, S => (evT P xc env a S).bind fun k S => if k then evT P xc env b S else .ok false S
  | .or a b, S => (evT P xc env a S).bind fun k S => if k then .ok true S else evT P xc env b S
  | .not a, S => (evT P xc env a S).bind fun k S => .ok (!k) S
def evI (P : Pg) (xc : Option XC) (env : Env) : I → M Src
  | .seq e, S => (evE P xc env e S).bind fun x S => optM (seqSrc x S) S
  | .rng1 e, S => (evE P xc env e S).bind fun x S => optM (rngOp [x]) S
  | .rng2 a b, S => (evE P xc env a S).bind fun x S => (evE P xc env b S).bind fun y S => optM (rngOp [x, y]) S
  | .enum e, S => (evE P xc env e S).bind fun x S => match x with
    | .ref l => match getL S l with
      | some _ => .ok (.enumL l) S
      | none => .err
    | .tup ds => .ok (.fixB (enumD 0 ds)) S
    | _ => .err
  | .zip a b, S => (evE P xc env a S).bind fun x S => (evE P xc env b S).bind fun y S => match x, y with
    | .ref l, .ref m => match getL S l, getL S m with
      | some _, some _ => .ok (.zipL l m) S
      | _, _ => .err
    | .tup ds, .tup es => .ok (.fix (List.zipWith (fun d e => .tup [d, e]) ds es)) S
    | .str z, .tup es => .ok (.fixB (List.zipWith (fun c e => .tup [.str ⟨#[c]⟩, e]) z.cps.toList es)) S
    | _, _ => .err
  | .revr es, S => .err
def asgG (P : Pg) (xc : Option XC) (env : Env) : G → D → M Env
  | .name i, d, S => .ok (env.set i (.val d)) S
  | .tup n gs, d, S => match d with
    | .tup ds => if ds.length = n then asgGs P xc env gs ds S else .err
    | _ => .err
  | .sub a i, d, S => (evE P xc env a S).noX.bind fun x S => (evE P xc env i S).noX.bind fun y S => match setIdx x y d S with
    | some S' => .ok env S'
    | none => .err
def asgGs (P : Pg) (xc : Option XC) (env : Env) : Gs → List D → M Env
  | .nil, ds, S => match ds with
    | [] => .ok env S
    | _ => .err
  | .cons g gs, ds, S => match ds with
    | [] => .err
    | d :: ds => (asgG P xc env g d S).bind fun env S => asgGs P xc env gs ds S
end
/-- behind an except suite: its name is gone; nothing is raised there -/
def RS.outX (i : Option Nat) (r : RS) : RS := match r with
  | .ok f env S => match i with
    | none => if noExc env then .ok f env S else .err
    | some i => if noExc (env.set i .no) then .ok f (env.set i .no) S else .err
  | _ => .err
def clsAt (x : D) (S : Store) : Option Nat := match x with
  | .ref l => match S[l]? with
    | some (.ins c _) => some c
    | _ => none
  | _ => none
def getLI (x k : D) (S : Store) : Option D := match x, k with
  | .ref l, .int i => match S[l]? with
    | some (.lst ds) => atI ds i
    | _ => none
  | _, _ => none
mutual
def exS (P : Pg) (xc : Option XC) : S → Env → Store → RS
  | .asg g e, env, S => (evE P xc env e S).toS env fun d S => (asgG P xc env g d S).toS env fun env S => .ok .nx env S
  | .asgI a i e, env, S => (evE P xc env e S).toS env fun d S => (evE P xc env a S).noX.toS env fun x S => (evE P xc env i S).noX.toS env fun y S => match setIdxD x y d S with
    | some S' => .ok .nx env S'
    | none => .err
  | .asgF a f e, env, S => (evE P xc env e S).toS env fun d S => (evE P xc env a S).toS env fun x S => match setFld P.na x d f S with
    | some S' => .ok .nx env S'
    | none => .err
  | .par i j es, env, S => (evEs P xc env es S).toS env fun ds S => match ds with
    | [v, w] => .ok .nx ((env.set i (.val v)).set j (.val w)) S
    | _ => .err
  | .par3 i j k es, env, S => (evEs P xc env es S).toS env fun ds S => match ds with
    | [v, w, u] => .ok .nx (((env.set i (.val v)).set j (.val w)).set k (.val u)) S
    | _ => .err
  | .aug i o e, env, S => match getV env i with
    | some x => (evE P xc env e S).toS env fun y S => (augOp o x y S).toS env fun z S => .ok .nx (env.set i (.val z)) S
    | none => .err
  | .augF a f o e, env, S => (evE P xc env a S).toS env fun x S => let c := clsAt x S; match getFld x f S with
    | some v => (evE P xc env e S).toS env fun y S => (augOp o v y S).toS env fun z S' => if clsAt x S' = c then (match setFld P.na x z f S' with
      | some S' => .ok .nx env S'
      | none => .err) else .err
    | none => .err
  | .augI a i o e, env, S => (evE P xc env a S).toS env fun x S => (evE P xc env i S).toS env fun k S => match getLI x k S with
    | some v => (evE P xc env e S).toS env fun y S => (augOp o v y S).toS env fun z S => match setIdx x k z S with
      | some S' => .ok .nx env S'
      | none => .err
    | none => .err
  | .ife t a b, env, S => (evT P xc env t S).toS env fun k S => if k then exSs P xc a env S else exSs P xc b env S
  | .while_ t b, env, S => whileLoop (fun env S => evT P xc env t S) (fun env S => exSs P xc b env S) turns env S
  | .for_ it g b, env, S => (evI P xc env it S).toS env fun src S => forLoop src (fun d env S => asgG P xc env g d S) (fun env S => exSs P xc b env S) turns 0 env S
  | .ret e, env, S => (evE P xc env e S).toS env fun d S => .ok (.rt d) env S
  | .retN, env, S => .ok (.rt .non) env S
  | .drop e, env, S => (evE P xc env e S).toS env fun _ S => .ok .nx env S
  | .pass, env, S => .ok .nx env S
  | .brk, env, S => .ok .bk env S
  | .cont, env, S => .ok .ct env S
  | .raise c k es, env, S => (evEs P xc env es S).toS env fun ds S => match k with
    | .init fs => if ds.length = fs.length then .exc ⟨c, (fs.zip ds).reverse⟩ env S else .err
    | .bare => if ds.length ≤ LIM then .exc ⟨c, []⟩ env S else .err
  | .try_ b hs, env, S => match exSs P xc b env S with
    | .exc x env1 S1 => exHs P x hs env1 S1
    | r => r
def exSs (P : Pg) (xc : Option XC) : Ss → Env → Store → RS
  | .nil, env, S => .ok .nx env S
  | .cons s ss, env, S => (exS P xc s env S).seq fun env S => exSs P xc ss env S
def exHs (P : Pg) (x : XC) : Hs → Env → Store → RS
  | .nil, env, S => .exc x env S
  | .cons c i b hs, env, S => match P.exm x.c c with
    | none => .err
    | some false => exHs P x hs env S
    | some true => if noExc env then (match i with
      | none => RS.outX none (exSs P (some x) b env S)
      | some i => RS.outX (some i) (exSs P (some x) b (env.set i .exc) S)) else .err
end
/-- a def: its slots, its parameters, its body -/
structure Df where
  n : Nat
  k : Nat
  body : Ss
def startE (n : Nat) (ds : List D) : Env := ds.map .val ++ List.replicate (n - ds.length) .no
def runBody (P : Pg) (d : Df) (ds : List D) : M D := fun S => if ds.length = d.k then (match exSs P none d.body (startE d.n ds) S with
  | .ok .nx _ S => .ok .non S
  | .ok (.rt v) _ S => .ok v S
  | .exc x _ S => .exc x S
  | _ => .err) else .err
/-- the defs by number, the constants: calls by levels -/
structure Tab where
  df : Nat → Option Df
  con : Nat → D
  na : Nat → Str → Bool
  exm : Nat → Nat → Option Bool
def runR (T : Tab) : Nat → Nat → List D → M D
  | 0, _, _ => fun _ => .err
  | n + 1, f, ds => fun S => match T.df f with
    | some d => runBody ⟨runR T n, T.con, T.na, T.exm⟩ d ds S
    | none => .err
@[irreducible] def run : Tab → Nat → Nat → List D → M D := runR
theorem run_eq : run = runR := by
  unfold run
  rfl
def pgAt (T : Tab) (n : Nat) : Pg := ⟨run T n, T.con, T.na, T.exm⟩
theorem run_zero (T : Tab) (f : Nat) (ds : List D) (S : Store) : run T 0 f ds S = .err := by
  rw [run_eq]
  rfl
theorem run_succ (T : Tab) (n f : Nat) (ds : List D) (S : Store) : run T (n + 1) f ds S = match T.df f with
    | some d => runBody (pgAt T n) d ds S
    | none => .err := by
  unfold pgAt
  rw [run_eq]
  rfl
end VI

set_option Elab.async false
set_option linter.all false
set_option maxRecDepth 100000
/-! printed by geneq.py: one equation a constructor. -/
namespace VI
open PySem L2
theorem evE_var {P : Pg} {xc env i S} : evE P xc env (.var i : VI.E) S = (optM (getV env i) S) := rfl
theorem evE_int {P : Pg} {xc env i S} : evE P xc env (.int i : VI.E) S = (.ok (.int i) S) := rfl
theorem evE_bl {P : Pg} {xc env b S} : evE P xc env (.bl b : VI.E) S = (.ok (.bl b) S) := rfl
theorem evE_non {P : Pg} {xc env S} : evE P xc env (.non : VI.E) S = (.ok .non S) := rfl
theorem evE_str {P : Pg} {xc env s S} : evE P xc env (.str s : VI.E) S = (.ok (.str s) S) := rfl
theorem evE_gcon {P : Pg} {xc env k S} : evE P xc env (.gcon k : VI.E) S = (.ok (P.con k) S) := rfl
theorem evE_bin {P : Pg} {xc env o a b S} : evE P xc env (.bin o a b : VI.E) S = ((evE P xc env a S).bind fun x S => (evE P xc env b S).bind fun y S => binOp o x y S) := rfl
theorem evE_neg {P : Pg} {xc env a S} : evE P xc env (.neg a : VI.E) S = ((evE P xc env a S).bind fun x S => match x with
    | .int i => .ok (.int (-i)) S
    | _ => .err) := rfl
theorem evE_cmp {P : Pg} {xc env o a b S} : evE P xc env (.cmp o a b : VI.E) S = ((evE P xc env a S).bind fun x S => (evE P xc env b S).bind fun y S => (optM (cmpOp o x y S) S).bind fun k S => .ok (.bl k) S) := rfl
theorem evE_chain {P : Pg} {xc env o p a b c S} : evE P xc env (.chain o p a b c : VI.E) S = ((evE P xc env a S).bind fun x S => (evE P xc env b S).bind fun y S => (optM (cmpOp o x y S) S).bind fun k S => if k then (evE P xc env c S).bind fun z S => (optM (cmpOp p y z S) S).bind fun k S => .ok (.bl k) S else .ok (.bl false) S) := rfl
theorem evE_andE {P : Pg} {xc env a b S} : evE P xc env (.andE a b : VI.E) S = ((evE P xc env a S).bind fun x S => match x with
    | .bl k => if k then evE P xc env b S else .ok (.bl false) S
    | _ => .err) := rfl
theorem evE_orE {P : Pg} {xc env a b S} : evE P xc env (.orE a b : VI.E) S = ((evE P xc env a S).bind fun x S => match x with
    | .bl k => if k then .ok (.bl true) S else evE P xc env b S
    | _ => .err) := rfl
theorem evE_notE {P : Pg} {xc env a S} : evE P xc env (.notE a : VI.E) S = ((evE P xc env a S).bind fun x S => (optM (truD x S) S).bind fun k S => .ok (.bl (!k)) S) := rfl
theorem evE_ife {P : Pg} {xc env t a b S} : evE P xc env (.ife t a b : VI.E) S = ((evT P xc env t S).bind fun k S => if k then evE P xc env a S else evE P xc env b S) := rfl
theorem evE_idx {P : Pg} {xc env a b S} : evE P xc env (.idx a b : VI.E) S = ((evE P xc env a S).bind fun x S => (evE P xc env b S).bind fun y S => optM (idxOp x y S) S) := rfl
theorem evE_sl {P : Pg} {xc env a lo hi S} : evE P xc env (.sl a lo hi : VI.E) S = ((evE P xc env a S).bind fun x S => (evO P xc env lo S).bind fun l S => (evO P xc env hi S).bind fun h S => slOp x l h S) := rfl
theorem evE_rev {P : Pg} {xc env a S} : evE P xc env (.rev a : VI.E) S = ((evE P xc env a S).bind fun x S => revOp x S) := rfl
theorem evE_tup {P : Pg} {xc env es S} : evE P xc env (.tup es : VI.E) S = ((evEs P xc env es S).bind fun ds S => if ds.length ≤ LIM then .ok (.tup ds) S else .err) := rfl
theorem evE_lst {P : Pg} {xc env es S} : evE P xc env (.lst es : VI.E) S = ((evEs P xc env es S).bind fun ds S => if ds.length ≤ LIM then .ok (.ref S.length) (S ++ [.lst ds]) else .err) := rfl
theorem evE_fld {P : Pg} {xc env a f S} : evE P xc env (.fld a f : VI.E) S = ((evE P xc env a S).bind fun x S => optM (getFld x f S) S) := rfl
theorem evE_call {P : Pg} {xc env f es S} : evE P xc env (.call f es : VI.E) S = ((evEs P xc env es S).bind fun ds S => P.call f ds S) := rfl
theorem evE_meth {P : Pg} {xc env m cs a es S} : evE P xc env (.meth m cs a es : VI.E) S = ((evE P xc env a S).noX.bind fun x S => match x with
    | .ref l => match S[l]? with
      | some (.ins c fs) => match getF m fs, cs.lookup c with
        | none, some f => (evEs P xc env es S).bind fun ds S => P.call f (.ref l :: ds) S
        | _, _ => .err
      | _ => .err
    | _ => .err) := rfl
theorem evE_mk {P : Pg} {xc env c f es S} : evE P xc env (.mk c f es : VI.E) S = ((evEs P xc env es S).bind fun ds S => (P.call f (.ref S.length :: ds) (S ++ [.ins c []])).bind fun d S1 => match d with
    | .non => .ok (.ref S.length) S1
    | _ => .err) := rfl
theorem evE_gfn {P : Pg} {xc env f S} : evE P xc env (.gfn f : VI.E) S = (.ok (.fn f) S) := rfl
theorem evE_callE {P : Pg} {xc env fs a es S} : evE P xc env (.callE fs a es : VI.E) S = ((evE P xc env a S).noX.bind fun x S => match x with
    | .fn f => if fs.contains f then (evEs P xc env es S).bind fun ds S => P.call f ds S else .err
    | _ => .err) := rfl
theorem evE_isi {P : Pg} {xc env a t S} : evE P xc env (.isi a t : VI.E) S = ((evE P xc env a S).bind fun x S => (optM (isiOp x t S) S).bind fun k S => .ok (.bl k) S) := rfl
theorem evE_blt {P : Pg} {xc env b es S} : evE P xc env (.blt b es : VI.E) S = ((evEs P xc env es S).bind fun ds S => bltOp b ds S) := rfl
theorem evE_bm {P : Pg} {xc env m a es S} : evE P xc env (.bm m a es : VI.E) S = ((evE P xc env a S).bind fun x S => if isLst x S then (evEs P xc env es S).bind fun ds S => bmOp m x ds S else .err) := rfl
theorem evE_lc {P : Pg} {xc env it own g t e S} : evE P xc env (.lc it own g t e : VI.E) S = ((evI P xc env it S).bind fun src S => if (slotsG g).all (own.contains ·) then lcLoop src (fun d env S => asgG P none env g d S) (wipeE env own) (fun env S => (evT P none env t S).noX) (fun env S => (evE P none env e S).noX) S.length turns 0 (S ++ [.lst []]) else .err) := rfl
theorem evE_lc2 {P : Pg} {xc env it own g t it1 own1 g1 t1 e S} : evE P xc env (.lc2 it own g t it1 own1 g1 t1 e : VI.E) S = ((evI P xc env it S).bind fun src S => if (slotsG g).all (own.contains ·) && ((slotsG g1).all (own1.contains ·) && own1.all (own.contains ·)) then lc2Loop src (fun d env S => asgG P none env g d S) (wipeE env own) (fun env S => (evT P none env t S).noX) (fun env1 S1 => (evI P none env1 it1 S1).noX.bind fun src1 S1 => lcLoop src1 (fun d env S => asgG P none env g1 d S) (wipeE env1 own1) (fun env S => (evT P none env t1 S).noX) (fun env S => (evE P none env e S).noX) S.length turns 0 S1) S.length turns 0 (S ++ [.lst []]) else .err) := rfl
theorem evE_lrng1 {P : Pg} {xc env k a S} : evE P xc env (.lrng1 k a : VI.E) S = ((evE P xc env a S).bind fun x S => match x with
    | .int j => lrngOp k 0 j S
    | _ => .err) := rfl
theorem evE_lrng2 {P : Pg} {xc env k a b S} : evE P xc env (.lrng2 k a b : VI.E) S = ((evE P xc env a S).bind fun x S => (evE P xc env b S).bind fun y S => match x, y with
    | .int i, .int j => lrngOp k i j S
    | _, _ => .err) := rfl
theorem evE_kget {P : Pg} {xc env kvs a S} : evE P xc env (.kget kvs a : VI.E) S = ((evE P xc env a S).bind fun x S => match x with
    | .str z => match getF z kvs with
      | some d => if isScal d then .ok d S else .err
      | none => .ok .non S
    | _ => .err) := rfl
theorem evE_kidx {P : Pg} {xc env kvs a S} : evE P xc env (.kidx kvs a : VI.E) S = ((evE P xc env a S).bind fun x S => match x with
    | .str z => match getF z kvs with
      | some d => if isScal d then .ok d S else .err
      | none => .err
    | _ => .err) := rfl
theorem evE_kin {P : Pg} {xc env neg kvs a S} : evE P xc env (.kin neg kvs a : VI.E) S = ((evE P xc env a S).bind fun x S => match x with
    | .str z => .ok (.bl ((getF z kvs).isSome != neg)) S
    | _ => .err) := rfl
theorem evE_dnew {P : Pg} {xc env S} : evE P xc env (.dnew : VI.E) S = (.ok (.ref S.length) (S ++ [.dK []])) := rfl
theorem evE_disp {P : Pg} {xc env es S} : evE P xc env (.disp es : VI.E) S = ((evEs P xc env es (S ++ [.dK []])).bind fun ds S1 => dispOp S.length ds S1) := rfl
theorem evE_dget1 {P : Pg} {xc env a k S} : evE P xc env (.dget1 a k : VI.E) S = ((evE P xc env a S).bind fun x S => if isDK x S then (evE P xc env k S).bind fun y S => optM (dget2Op x y .non S) S else .err) := rfl
theorem evE_dget2 {P : Pg} {xc env a k d S} : evE P xc env (.dget2 a k d : VI.E) S = ((evE P xc env a S).bind fun x S => if isDK x S then (evE P xc env k S).bind fun y S => (evE P xc env d S).bind fun z S => optM (dget2Op x y z S) S else .err) := rfl
theorem evE_srtItems {P : Pg} {xc env a S} : evE P xc env (.srtItems a : VI.E) S = ((evE P xc env a S).bind fun x S => srtItemsOp x S) := rfl
theorem evE_srtSet {P : Pg} {xc env a S} : evE P xc env (.srtSet a : VI.E) S = ((evE P xc env a S).bind fun x S => srtSetOp x S) := rfl
theorem evE_lenSet {P : Pg} {xc env a S} : evE P xc env (.lenSet a : VI.E) S = ((evE P xc env a S).bind fun x S => lenSetOp x S) := rfl
theorem evE_excIs {P : Pg} {xc env i b S} : evE P xc env (.excIs i b : VI.E) S = (match env[i]?, xc with
    | some .exc, some x => match (b.lookup x.c : Option Bool) with
      | some k => .ok (.bl k) S
      | none => .err
    | _, _ => .err) := rfl
theorem evE_excFld {P : Pg} {xc env i f cs S} : evE P xc env (.excFld i f cs : VI.E) S = (match env[i]?, xc with
    | some .exc, some x => if cs.contains x.c then optM (getF f x.fs) S else .err
    | _, _ => .err) := rfl
theorem evEs_nil {P : Pg} {xc env S} : evEs P xc env (.nil : VI.Es) S = (.ok [] S) := rfl
theorem evEs_cons {P : Pg} {xc env e es S} : evEs P xc env (.cons e es : VI.Es) S = ((evE P xc env e S).bind fun d S => (evEs P xc env es S).bind fun ds S => .ok (d :: ds) S) := rfl
theorem evO_no {P : Pg} {xc env S} : evO P xc env (.no : VI.O) S = (.ok none S) := rfl
theorem evO_yes {P : Pg} {xc env e S} : evO P xc env (.yes e : VI.O) S = ((evE P xc env e S).bind fun d S => match d with
    | .int i => .ok (some i) S
    | _ => .err) := rfl
theorem evT_yes {P : Pg} {xc env S} : evT P xc env (.yes : VI.T) S = (.ok true S) := rfl
theorem evT_val {P : Pg} {xc env e S} : evT P xc env (.val e : VI.T) S = ((evE P xc env e S).bind fun d S => match d with
    | .bl b => .ok b S
    | _ => .err) := rfl
theorem evT_tru {P : Pg} {xc env e S} : evT P xc env (.tru e : VI.T) S = ((evE P xc env e S).bind fun d S => optM (truD d S) S) := rfl
theorem evT_and {P : Pg} {xc env a b S} : evT P xc env (.and a b : VI.T) S = ((evT P xc env a S).bind fun k S => if k then evT P xc env b S else .ok false S) := rfl
theorem evT_or {P : Pg} {xc env a b S} : evT P xc env (.or a b : VI.T) S = ((evT P xc env a S).bind fun k S => if k then .ok true S else evT P xc env b S) := rfl
theorem evT_not {P : Pg} {xc env a S} : evT P xc env (.not a : VI.T) S = ((evT P xc env a S).bind fun k S => .ok (!k) S) := rfl
theorem evI_seq {P : Pg} {xc env e S} : evI P xc env (.seq e : VI.I) S = ((evE P xc env e S).bind fun x S => optM (seqSrc x S) S) := rfl
theorem evI_rng1 {P : Pg} {xc env e S} : evI P xc env (.rng1 e : VI.I) S = ((evE P xc env e S).bind fun x S => optM (rngOp [x]) S) := rfl
theorem evI_rng2 {P : Pg} {xc env a b S} : evI P xc env (.rng2 a b : VI.I) S = ((evE P xc env a S).bind fun x S => (evE P xc env b S).bind fun y S => optM (rngOp [x, y]) S) := rfl
theorem evI_enum {P : Pg} {xc env e S} : evI P xc env (.enum e : VI.I) S = ((evE P xc env e S).bind fun x S => match x with
    | .ref l => match getL S l with
      | some _ => .ok (.enumL l) S
      | none => .err
    | .tup ds => .ok (.fixB (enumD 0 ds)) S
    | _ => .err) := rfl
theorem evI_zip {P : Pg} {xc env a b S} : evI P xc env (.zip a b : VI.I) S = ((evE P xc env a S).bind fun x S => (evE P xc env b S).bind fun y S => match x, y with
    | .ref l, .ref m => match getL S l, getL S m with
      | some _, some _ => .ok (.zipL l m) S
      | _, _ => .err
    | .tup ds, .tup es => .ok (.fix (List.zipWith (fun d e => .tup [d, e]) ds es)) S
    | .str z, .tup es => .ok (.fixB (List.zipWith (fun c e => .tup [.str ⟨#[c]⟩, e]) z.cps.toList es)) S
    | _, _ => .err) := rfl
theorem evI_revr {P : Pg} {xc env es S} : evI P xc env (.revr es : VI.I) S = (.err) := rfl
theorem asgG_name {P : Pg} {xc env i d S} : asgG P xc env (.name i : VI.G) d S = (.ok (env.set i (.val d)) S) := rfl
theorem asgG_tup {P : Pg} {xc env n gs d S} : asgG P xc env (.tup n gs : VI.G) d S = (match d with
    | .tup ds => if ds.length = n then asgGs P xc env gs ds S else .err
    | _ => .err) := rfl
theorem asgG_sub {P : Pg} {xc env a i d S} : asgG P xc env (.sub a i : VI.G) d S = ((evE P xc env a S).noX.bind fun x S => (evE P xc env i S).noX.bind fun y S => match setIdx x y d S with
    | some S' => .ok env S'
    | none => .err) := rfl
theorem asgGs_nil {P : Pg} {xc env ds S} : asgGs P xc env (.nil : VI.Gs) ds S = (match ds with
    | [] => .ok env S
    | _ => .err) := rfl
theorem asgGs_cons {P : Pg} {xc env g gs ds S} : asgGs P xc env (.cons g gs : VI.Gs) ds S = (match ds with
    | [] => .err
    | d :: ds => (asgG P xc env g d S).bind fun env S => asgGs P xc env gs ds S) := rfl
theorem exS_asg {P : Pg} {xc g e env S} : exS P xc (.asg g e : VI.S) env S = ((evE P xc env e S).toS env fun d S => (asgG P xc env g d S).toS env fun env S => .ok .nx env S) := rfl
theorem exS_asgI {P : Pg} {xc a i e env S} : exS P xc (.asgI a i e : VI.S) env S = ((evE P xc env e S).toS env fun d S => (evE P xc env a S).noX.toS env fun x S => (evE P xc env i S).noX.toS env fun y S => match setIdxD x y d S with
    | some S' => .ok .nx env S'
    | none => .err) := rfl
theorem exS_asgF {P : Pg} {xc a f e env S} : exS P xc (.asgF a f e : VI.S) env S = ((evE P xc env e S).toS env fun d S => (evE P xc env a S).toS env fun x S => match setFld P.na x d f S with
    | some S' => .ok .nx env S'
    | none => .err) := rfl
theorem exS_par {P : Pg} {xc i j es env S} : exS P xc (.par i j es : VI.S) env S = ((evEs P xc env es S).toS env fun ds S => match ds with
    | [v, w] => .ok .nx ((env.set i (.val v)).set j (.val w)) S
    | _ => .err) := rfl
theorem exS_par3 {P : Pg} {xc i j k es env S} : exS P xc (.par3 i j k es : VI.S) env S = ((evEs P xc env es S).toS env fun ds S => match ds with
    | [v, w, u] => .ok .nx (((env.set i (.val v)).set j (.val w)).set k (.val u)) S
    | _ => .err) := rfl
theorem exS_aug {P : Pg} {xc i o e env S} : exS P xc (.aug i o e : VI.S) env S = (match getV env i with
    | some x => (evE P xc env e S).toS env fun y S => (augOp o x y S).toS env fun z S => .ok .nx (env.set i (.val z)) S
    | none => .err) := rfl
theorem exS_augF {P : Pg} {xc a f o e env S} : exS P xc (.augF a f o e : VI.S) env S = ((evE P xc env a S).toS env fun x S => let c := clsAt x S; match getFld x f S with
    | some v => (evE P xc env e S).toS env fun y S => (augOp o v y S).toS env fun z S' => if clsAt x S' = c then (match setFld P.na x z f S' with
      | some S' => .ok .nx env S'
      | none => .err) else .err
    | none => .err) := rfl
theorem exS_augI {P : Pg} {xc a i o e env S} : exS P xc (.augI a i o e : VI.S) env S = ((evE P xc env a S).toS env fun x S => (evE P xc env i S).toS env fun k S => match getLI x k S with
    | some v => (evE P xc env e S).toS env fun y S => (augOp o v y S).toS env fun z S => match setIdx x k z S with
      | some S' => .ok .nx env S'
      | none => .err
    | none => .err) := rfl
theorem exS_ife {P : Pg} {xc t a b env S} : exS P xc (.ife t a b : VI.S) env S = ((evT P xc env t S).toS env fun k S => if k then exSs P xc a env S else exSs P xc b env S) := rfl
theorem exS_while {P : Pg} {xc t b env S} : exS P xc (.while_ t b : VI.S) env S = (whileLoop (fun env S => evT P xc env t S) (fun env S => exSs P xc b env S) turns env S) := rfl
theorem exS_for {P : Pg} {xc it g b env S} : exS P xc (.for_ it g b : VI.S) env S = ((evI P xc env it S).toS env fun src S => forLoop src (fun d env S => asgG P xc env g d S) (fun env S => exSs P xc b env S) turns 0 env S) := rfl
theorem exS_ret {P : Pg} {xc e env S} : exS P xc (.ret e : VI.S) env S = ((evE P xc env e S).toS env fun d S => .ok (.rt d) env S) := rfl
theorem exS_retN {P : Pg} {xc env S} : exS P xc (.retN : VI.S) env S = (.ok (.rt .non) env S) := rfl
theorem exS_drop {P : Pg} {xc e env S} : exS P xc (.drop e : VI.S) env S = ((evE P xc env e S).toS env fun _ S => .ok .nx env S) := rfl
theorem exS_pass {P : Pg} {xc env S} : exS P xc (.pass : VI.S) env S = (.ok .nx env S) := rfl
theorem exS_brk {P : Pg} {xc env S} : exS P xc (.brk : VI.S) env S = (.ok .bk env S) := rfl
theorem exS_cont {P : Pg} {xc env S} : exS P xc (.cont : VI.S) env S = (.ok .ct env S) := rfl
theorem exS_raise {P : Pg} {xc c k es env S} : exS P xc (.raise c k es : VI.S) env S = ((evEs P xc env es S).toS env fun ds S => match k with
    | .init fs => if ds.length = fs.length then .exc ⟨c, (fs.zip ds).reverse⟩ env S else .err
    | .bare => if ds.length ≤ LIM then .exc ⟨c, []⟩ env S else .err) := rfl
theorem exS_try {P : Pg} {xc b hs env S} : exS P xc (.try_ b hs : VI.S) env S = (match exSs P xc b env S with
    | .exc x env1 S1 => exHs P x hs env1 S1
    | r => r) := rfl
theorem exSs_nil {P : Pg} {xc env S} : exSs P xc (.nil : VI.Ss) env S = (.ok .nx env S) := rfl
theorem exSs_cons {P : Pg} {xc s ss env S} : exSs P xc (.cons s ss : VI.Ss) env S = ((exS P xc s env S).seq fun env S => exSs P xc ss env S) := rfl
theorem exHs_nil {P : Pg} {x env S} : exHs P x (.nil : VI.Hs) env S = (.exc x env S) := rfl
theorem exHs_cons {P : Pg} {x c i b hs env S} : exHs P x (.cons c i b hs : VI.Hs) env S = (match P.exm x.c c with
    | none => .err
    | some false => exHs P x hs env S
    | some true => if noExc env then (match i with
      | none => RS.outX none (exSs P (some x) b env S)
      | some i => RS.outX (some i) (exSs P (some x) b (env.set i .exc) S)) else .err) := rfl
end VI

set_option Elab.async false
set_option linter.all false
set_option maxRecDepth 100000
/-! VIc: the readings of the small tree's operations, and that they hold. -/
namespace VI
open PySem L2

/-! ### readings of operations -/
def rOr (r r' : R2) : R2 := fun x y H Q => r x y H Q ∨ r' x y H Q
theorem OpR.or' {X : Cx} {f : Value → Value → Sem Value} {r r' : R2} (h : OpR X f r) (h' : OpR X f r') : OpR X f (rOr r r') :=
  fun pins s σ H x y v u Q I rx ry q => q.elim (h pins s σ H x y v u Q I rx ry) (h' pins s σ H x y v u Q I rx ry)
def rStrAdd : R2 := fun x y H Q => ∃ i j, x = .str i ∧ y = .str j ∧ i.length + j.length ≤ sizeLine ∧ Q (.str (i ++ j)) H
def rBin (K : PySem.W.Frag) : BO → R2
  | .add => rOr (rI0 fun i j => .int (i + j)) (rOr (rCatA K) (rOr rCat rStrAdd))
  | .sub => rI0 fun i j => .int (i - j)
  | .mul => rOr (rI CMul fun i j => .int (i * j)) (rOr rRep (rRepT K))
  | .fdiv => rI CDiv fun i j => .int (i / j)
  | .mod => rI (fun _ j => 0 < j) fun i j => .int (i % j)
  | .pow => rI CPow fun i j => .int (i ^ j.toNat)
  | .shl => rI CPow fun i j => .int (i * 2 ^ j.toNat)
  | .shr => rI (fun _ j => 0 ≤ j) fun i j => .int (i / 2 ^ j.toNat)
  | .and => rI0 fun i j => .int (Builtin.bitAnd i j)
  | .or => rI0 fun i j => .int (Builtin.bitOr i j)
  | .xor => rI0 fun i j => .int (Builtin.bitXor i j)
def rIsN (neg : Bool) : R2 := fun x y H Q => y = .non ∧ Q (.bl (if neg then !decide (x = .non) else decide (x = .non))) H
/-- is True, is False, of any value -/
def rIsX (neg : Bool) : R2 := fun x y H Q => ∃ b, y = .bl b ∧ Q (.bl (if neg then !decide (x = .bl b) else decide (x = .bl b))) H
def rIsR (neg : Bool) : R2 := fun x y H Q => ∃ a b oa ob, x = .ref a ∧ y = .ref b ∧ H a = some oa ∧ isObj oa = true ∧ H b = some ob ∧ isObj ob = true ∧ Q (.bl (if neg then !decide (a = b) else decide (a = b))) H
def rInStr (neg : Bool) : R2 := fun x y H Q => ∃ i j, x = .str i ∧ y = .str j ∧ Q (.bl (if neg then !(!(Builtin.Str.occurrences j i 0 j.length 1).isEmpty) else (!(Builtin.Str.occurrences j i 0 j.length 1).isEmpty))) H
/-- in, not in, of data at any depth -/
def rInData (K : PySem.W.Frag) (neg : Bool) : R2 := fun x y H Q => ∃ d ds, Dp K H x d ∧ (Dp K H y (.list ds) ∨ Dp K H y (.tuple ds)) ∧ SeqAt.shaped d = true ∧ SeqAt.shaped (.list ds) = true ∧ Q (.bl (if neg then !(ds.any fun z => PyData.eqv z d) else ds.any fun z => PyData.eqv z d)) H
/-- in, not in, of a dict -/
def rInDk (neg : Bool) : R2 := fun y x H Q => ∃ a o, x = .ref a ∧ DGet H a y o ∧ Q (.bl (if neg then !o.isSome else o.isSome)) H
def rIxDk : R2 := fun x y H Q => ∃ a v, x = .ref a ∧ DGet H a y (some v) ∧ Q v H
def rIxX (K : PySem.W.Frag) : R2 := rOr (rIx K) rIxDk
def rCmp (K : PySem.W.Frag) : CO → R2
  | .eq => rOr rEq (rEqD K)
  | .ne => rOr rNe (rNeD K)
  | .lt => rI0 fun i j => .bl (decide (i < j))
  | .le => rI0 fun i j => .bl (decide (i ≤ j))
  | .gt => rI0 fun i j => .bl (decide (j < i))
  | .ge => rI0 fun i j => .bl (decide (j ≤ i))
  | .is => rOr (rIsN false) (rOr (rIsX false) (rIsR false))
  | .isn => rOr (rIsN true) (rOr (rIsX true) (rIsR true))
  | .inn => rOr (rIn K false) (rOr (rInStr false) (rOr (rInData K false) (rInDk false)))
  | .nin => rOr (rIn K true) (rOr (rInStr true) (rOr (rInData K true) (rInDk true)))

section
variable {X : Cx}
theorem op_isX : OpR X (compareOp .Is) (rIsX false) := by
  intro pins s σ H x y v u Q I rx ry h
  obtain ⟨b, rfl, q⟩ := h
  cases (show u = Value.bool b from ry)
  by_cases e : x = .bl b
  · subst e
    cases (show v = Value.bool b from rx)
    exact wpAny_is_self rfl ⟨.bl true, H, I, rfl, by simpa using q⟩
  · have ne : v ≠ .bool b := fun z => e (by
      subst z
      cases x with
      | bl c => cases (show Value.bool b = Value.bool c from rx); rfl
      | non => cases rx
      | int i => obtain ⟨t, q⟩ := rx; cases q
      | str i => obtain ⟨t, q⟩ := rx; cases q
      | byt i => obtain ⟨t, q⟩ := rx; cases q
      | flt i => obtain ⟨t, q⟩ := rx; cases q
      | ref a => cases rx
      | ty n => cases rx)
    refine PySem.wpAny_is_other ?_ ne ⟨.bl false, H, I, rfl, by simpa [e] using q⟩
    cases v <;> first
      | rfl
      | (cases x <;> first
          | (cases rx; done)
          | (obtain ⟨t, z⟩ := rx; cases z; done))
theorem op_notX : OpR X (compareOp .IsNot) (rIsX true) := by
  intro pins s σ H x y v u Q I rx ry h
  obtain ⟨b, rfl, q⟩ := h
  cases (show u = Value.bool b from ry)
  by_cases e : x = .bl b
  · subst e
    cases (show v = Value.bool b from rx)
    exact wpAny_isNot_self rfl ⟨.bl false, H, I, rfl, by simpa using q⟩
  · have ne : v ≠ .bool b := fun z => e (by
      subst z
      cases x with
      | bl c => cases (show Value.bool b = Value.bool c from rx); rfl
      | non => cases rx
      | int i => obtain ⟨t, q⟩ := rx; cases q
      | str i => obtain ⟨t, q⟩ := rx; cases q
      | byt i => obtain ⟨t, q⟩ := rx; cases q
      | flt i => obtain ⟨t, q⟩ := rx; cases q
      | ref a => cases rx
      | ty n => cases rx)
    refine PySem.wpAny_isNot_other ?_ ne ⟨.bl true, H, I, rfl, by simpa [e] using q⟩
    cases v <;> first
      | rfl
      | (cases x <;> first
          | (cases rx; done)
          | (obtain ⟨t, z⟩ := rx; cases z; done))
theorem op_bin_add : OpR X (binaryOp .Add) (rBin X.K .add) := OpR.or' op_add (OpR.or' op_catA (OpR.or' op_cat op_add_str))
theorem op_bin_sub : OpR X (binaryOp .Sub) (rBin X.K .sub) := op_sub
theorem op_bin_mul : OpR X (binaryOp .Mult) (rBin X.K .mul) := OpR.or' op_mul (OpR.or' op_rep op_repT)
theorem op_bin_fdiv : OpR X (binaryOp .FloorDiv) (rBin X.K .fdiv) := op_fdiv
theorem op_bin_mod : OpR X (binaryOp .Mod) (rBin X.K .mod) := op_mod
theorem op_bin_pow : OpR X (binaryOp .Pow) (rBin X.K .pow) := op_pow
theorem op_bin_shl : OpR X (binaryOp .LShift) (rBin X.K .shl) := op_shl
theorem op_bin_shr : OpR X (binaryOp .RShift) (rBin X.K .shr) := op_shr
theorem op_bin_and : OpR X (binaryOp .BitAnd) (rBin X.K .and) := op_and
theorem op_bin_or : OpR X (binaryOp .BitOr) (rBin X.K .or) := op_or
theorem op_bin_xor : OpR X (binaryOp .BitXor) (rBin X.K .xor) := op_xor
theorem op_cmp_eq (hu : X.A.units + 64 < cLine) : OpR X (compareOp .Eq) (rCmp X.K .eq) := OpR.or' op_eq (op_eqD hu)
theorem op_cmp_ne (hu : X.A.units + 64 < cLine) : OpR X (compareOp .NotEq) (rCmp X.K .ne) := OpR.or' op_ne (op_neD hu)
theorem op_cmp_lt : OpR X (compareOp .Lt) (rCmp X.K .lt) := op_lt
theorem op_cmp_le : OpR X (compareOp .LtE) (rCmp X.K .le) := op_le
theorem op_cmp_gt : OpR X (compareOp .Gt) (rCmp X.K .gt) := op_gt
theorem op_cmp_ge : OpR X (compareOp .GtE) (rCmp X.K .ge) := op_ge
theorem op_cmp_is : OpR X (compareOp .Is) (rCmp X.K .is) := OpR.or' op_isN (OpR.or' op_isX op_is_ref)
theorem op_cmp_isn : OpR X (compareOp .IsNot) (rCmp X.K .isn) := OpR.or' op_notN (OpR.or' op_notX op_isnot_ref)
theorem op_inData (hu : X.A.units + 65 < cLine) : OpR X (compareOp .In) (rInData X.K false) := by
  intro pins s σ H x y v u Q I rx ry h
  obtain ⟨d, ds, hd, he, sd, se, q⟩ := h
  obtain ⟨as, r1⟩ := Dp.reads I d x v hd rx
  rcases he with he | he
  · obtain ⟨bs, r2⟩ := Dp.reads I (.list ds) y u he ry
    exact SeqAt.in_list_reads r2 r1 (SeqAt.canLay_of_shaped se) (SeqAt.canLay_of_shaped sd) (PyProof.Rows.room_in_shaped sd hu) ⟨.bl _, H, I, rfl, q⟩
  · obtain ⟨bs, r2⟩ := Dp.reads I (.tuple ds) y u he ry
    exact SeqAt.in_tuple_reads r2 r1 (SeqAt.canLay_of_shaped se) (SeqAt.canLay_of_shaped sd) (PyProof.Rows.room_in_shaped sd hu) ⟨.bl _, H, I, rfl, q⟩
theorem op_notInData (hu : X.A.units + 65 < cLine) : OpR X (compareOp .NotIn) (rInData X.K true) := by
  intro pins s σ H x y v u Q I rx ry h
  obtain ⟨d, ds, hd, he, sd, se, q⟩ := h
  obtain ⟨as, r1⟩ := Dp.reads I d x v hd rx
  rcases he with he | he
  · obtain ⟨bs, r2⟩ := Dp.reads I (.list ds) y u he ry
    exact SeqAt.notIn_list_reads r2 r1 (SeqAt.canLay_of_shaped se) (SeqAt.canLay_of_shaped sd) (PyProof.Rows.room_in_shaped sd hu) ⟨.bl _, H, I, rfl, q⟩
  · obtain ⟨bs, r2⟩ := Dp.reads I (.tuple ds) y u he ry
    exact SeqAt.notIn_tuple_reads r2 r1 (SeqAt.canLay_of_shaped se) (SeqAt.canLay_of_shaped sd) (PyProof.Rows.room_in_shaped sd hu) ⟨.bl _, H, I, rfl, q⟩
theorem op_inDk (hu : X.A.units + 65 < cLine) : OpR X (compareOp .In) (rInDk false) := by
  intro pins s σ H x y v u Q I rx ry h
  obtain ⟨a, o, rfl, g, q⟩ := h
  obtain rfl : u = Value.ref a := ry
  exact d_in (by omega) I g rx fun s' I' => ⟨.bl o.isSome, H, I', rfl, q⟩
theorem op_notInDk (hu : X.A.units + 65 < cLine) : OpR X (compareOp .NotIn) (rInDk true) := by
  intro pins s σ H x y v u Q I rx ry h
  obtain ⟨a, o, rfl, g, q⟩ := h
  obtain rfl : u = Value.ref a := ry
  exact d_notIn (by omega) I g rx fun s' I' => ⟨.bl (!o.isSome), H, I', rfl, q⟩
theorem op_cmp_in (hu : X.A.units + 65 < cLine) : OpR X (compareOp .In) (rCmp X.K .inn) := OpR.or' op_in_seq (OpR.or' op_in_str (OpR.or' (op_inData hu) (op_inDk hu)))
theorem op_cmp_nin (hu : X.A.units + 65 < cLine) : OpR X (compareOp .NotIn) (rCmp X.K .nin) := OpR.or' op_notIn_seq (OpR.or' op_notIn_str (OpR.or' (op_notInData hu) (op_notInDk hu)))
theorem ix_dk (hu : X.A.units + 65 < cLine) : IxR X rIxDk := by
  intro value slice pins s σ H x y v u Q I rx ry h hs
  obtain ⟨a, z, rfl, g, q⟩ := h
  obtain rfl : v = Value.ref a := rx
  exact PyProof.Rows.tail_any (dict_typeIs I g) PySem.F.slot_dict_getitem.lookup (d_getItem (by omega) I g ry fun w' s' I' rw' => ⟨z, H, I', rw', q⟩) hs
theorem ix_X (hu : X.A.units + 65 < cLine) : IxR X (rIxX X.K) := ix_seq.or (ix_dk hu)
end

/-! ### that they hold -/
abbrev Kv (g : Glb) (μ : Nat → Addr) (n : Nat) (H : Hp) (Q : VK) : D → Store → Prop := fun d S' => ∀ v μ' H', Ext g μ n H μ' S'.length H' → Sim g μ' S' H' → Rl g μ' S'.length H' d v → Q v H'
abbrev Kb (g : Glb) (μ : Nat → Addr) (n : Nat) (H : Hp) (Q : Bool → Hp → Prop) : Bool → Store → Prop := fun b S' => ∀ μ' H', Ext g μ n H μ' S'.length H' → Sim g μ' S' H' → Q b H'
section
variable {g : Glb} {μ : Nat → Addr} {S : Store} {H : Hp} {x y : V} {dx dy : D} {Q : VK} {X0 : XC → Store → Prop}
theorem Rl.tup_inv {n : Nat} {ds : List D} (h : Rl g μ n H (.tup ds) x) : ∃ a xs, x = .ref a ∧ SqT g.K H a xs ∧ Rls g μ n H ds xs := by unfold Rl at h; exact h
theorem Rl.rol_inv {n : Nat} {ds : List D} (h : Rl g μ n H (.rol ds) x) : ∃ a xs, x = .ref a ∧ SqZ g.K H a xs ∧ Rls g μ n H ds xs := by unfold Rl at h; exact h
theorem Rl.ref_inv {n : Nat} {l : Nat} (h : Rl g μ n H (.ref l) x) : x = .ref (μ l) ∧ l < n := by unfold Rl at h; exact h
theorem Rl.int_inv {n : Nat} {i : Int} (h : Rl g μ n H (.int i) x) : x = .int i := by unfold Rl at h; exact h
theorem Rl.bl_inv {n : Nat} {i : Bool} (h : Rl g μ n H (.bl i) x) : x = .bl i := by unfold Rl at h; exact h
theorem Rl.str_inv {n : Nat} {i : Str} (h : Rl g μ n H (.str i) x) : x = .str i := by unfold Rl at h; exact h
theorem Rl.non_inv {n : Nat} (h : Rl g μ n H .non x) : x = .non := by unfold Rl at h; exact h
theorem Rl.int_i {n : Nat} {i : Int} : Rl g μ n H (.int i) (.int i) := by unfold Rl; rfl
theorem Rl.bl_i {n : Nat} {i : Bool} : Rl g μ n H (.bl i) (.bl i) := by unfold Rl; rfl
theorem Rl.str_i {n : Nat} {i : Str} : Rl g μ n H (.str i) (.str i) := by unfold Rl; rfl
theorem Rl.non_i {n : Nat} : Rl g μ n H .non .non := by unfold Rl; rfl
theorem Rl.ref_i {n : Nat} {l : Nat} (h : l < n) : Rl g μ n H (.ref l) (.ref (μ l)) := by unfold Rl; exact ⟨rfl, h⟩
theorem LIM_eq : LIM = sizeLine := by rw [sizeLine_eq]; rfl
theorem Kv.here {d : D} {v : V} (k : Kv g μ S.length H Q d S) (s : Sim g μ S H) (r : Rl g μ S.length H d v) : Q v H := k v μ H Ext.refl s r
/-- a list's cell as it is read -/
theorem getL_sound (s : Sim g μ S H) {l : Nat} {ds : List D} (h : getL S l = some ds) : ∃ xs, SqL g.K H (μ l) xs ∧ Rls g μ S.length H ds xs := by
  unfold getL at h
  split at h
  · rename_i es e
    cases h
    obtain ⟨xs, h1, h2⟩ := s.cell l _ e
    exact ⟨xs, .inl (.inl h1), h2⟩
  · cases h
theorem atI_Rls {n : Nat} {ds : List D} {xs : List V} {i : Int} {d : D} (h : Rls g μ n H ds xs) (e : atI ds i = some d) : ∃ v, atI xs i = some v ∧ Rl g μ n H d v := by
  unfold atI at e ⊢
  rw [← h.length]
  cases q : ixN ds.length i with
  | none => rw [q] at e; cases e
  | some j =>
    rw [q] at e
    exact h.get e
theorem opI_sound {o : BO} {i j k : Int} (e : opI o i j = some k) (h : Q (.int k) H) : rBin g.K o (.int i) (.int j) H Q := by
  cases o with
  | add => cases e; exact .inl ⟨i, j, rfl, rfl, h⟩
  | sub => cases e; exact ⟨i, j, rfl, rfl, h⟩
  | mul =>
    unfold opI at e
    dsimp only at e
    split at e
    · rename_i c
      cases e
      refine .inl ⟨i, j, rfl, rfl, ?_, h⟩
      simp only [two64, Bool.or_eq_true, Bool.and_eq_true, decide_eq_true_eq] at c
      exact c
    · cases e
  | fdiv =>
    unfold opI at e
    dsimp only at e
    split at e
    · rename_i c
      cases e
      simp only [Bool.and_eq_true, decide_eq_true_eq] at c
      exact ⟨i, j, rfl, rfl, c, h⟩
    · cases e
  | mod =>
    unfold opI at e
    dsimp only at e
    split at e
    · rename_i c
      cases e
      simp only [decide_eq_true_eq] at c
      exact ⟨i, j, rfl, rfl, c, h⟩
    · cases e
  | pow =>
    unfold opI at e
    dsimp only at e
    split at e
    · rename_i c
      cases e
      simp only [powOk, Bool.and_eq_true, decide_eq_true_eq] at c
      exact ⟨i, j, rfl, rfl, c, h⟩
    · cases e
  | shl =>
    unfold opI at e
    dsimp only at e
    split at e
    · rename_i c
      cases e
      simp only [powOk, Bool.and_eq_true, decide_eq_true_eq] at c
      exact ⟨i, j, rfl, rfl, c, h⟩
    · cases e
  | shr =>
    unfold opI at e
    dsimp only at e
    split at e
    · rename_i c
      cases e
      simp only [decide_eq_true_eq] at c
      exact ⟨i, j, rfl, rfl, c, h⟩
    · cases e
  | and => cases e; exact ⟨i, j, rfl, rfl, h⟩
  | or => cases e; exact ⟨i, j, rfl, rfl, h⟩
  | xor => cases e; exact ⟨i, j, rfl, rfl, h⟩
theorem opAdd_sound (s : Sim g μ S H) (rx : Rl g μ S.length H dx x) (ry : Rl g μ S.length H dy y) (h : (opAdd dx dy S).want (Kv g μ S.length H Q) X0) : rBin g.K .add x y H Q := by
  unfold opAdd at h
  split at h
  · rename_i a b
    split at h
    · rename_i hl
      obtain ⟨p, xs, rfl, h1, h2⟩ := rx.tup_inv
      obtain ⟨q, ys, rfl, h3, h4⟩ := ry.tup_inv
      refine .inr (.inl ⟨p, q, xs, ys, rfl, rfl, h1, h3, by rw [← h2.length, ← h4.length, ← LIM_eq]; exact hl, fun e => ?_, fun _ e => ?_, fun _ _ r hr => ?_⟩)
      · subst e
        have : a = [] := List.eq_nil_of_length_eq_zero h2.length
        subst this
        refine Kv.here h s ?_
        unfold Rl
        exact ⟨q, ys, rfl, h3, h4⟩
      · subst e
        have : b = [] := List.eq_nil_of_length_eq_zero h4.length
        subst this
        refine Kv.here h s ?_
        rw [List.append_nil]
        unfold Rl
        exact ⟨p, xs, rfl, h1, h2⟩
      · obtain ⟨z1, z2, z3⟩ := s.atup hr (Rls.append h2 h4)
        exact h _ _ _ z2 z1 z3
    · exact absurd h id
  · rename_i a b
    split at h
    · rename_i hl
      refine .inr (.inr (.inr ⟨a, b, rx.str_inv, ry.str_inv, by rw [← LIM_eq]; exact hl, Kv.here h s Rl.str_i⟩))
    · exact absurd h id
  · rename_i l m
    obtain ⟨rfl, l1⟩ := rx.ref_inv
    obtain ⟨rfl, l2⟩ := ry.ref_inv
    split at h
    · rename_i a b e1 e2
      split at h
      · rename_i hl
        obtain ⟨xs, h1, h2⟩ := s.lst e1
        obtain ⟨ys, h3, h4⟩ := s.lst e2
        refine .inr (.inr (.inl ⟨_, _, xs, ys, rfl, rfl, h1, h3, by rw [← h2.length, ← h4.length, ← LIM_eq]; exact hl, fun p hp => ?_⟩))
        obtain ⟨z1, z2, z3⟩ := s.alst hp (Rls.append h2 h4)
        exact h _ _ _ z2 z1 z3
      · exact absurd h id
    · exact absurd h id
  · exact absurd h id
theorem opMul_sound (s : Sim g μ S H) (rx : Rl g μ S.length H dx x) (ry : Rl g μ S.length H dy y) (h : (opMul dx dy S).want (Kv g μ S.length H Q) X0) : rBin g.K .mul x y H Q := by
  unfold opMul at h
  split at h
  · rename_i l k
    obtain ⟨rfl, l1⟩ := rx.ref_inv
    obtain rfl := ry.int_inv
    split at h
    · rename_i a e1
      split at h
      · rename_i c
        simp only [Bool.and_eq_true, decide_eq_true_eq] at c
        obtain ⟨xs, h1, h2⟩ := s.lst e1
        refine .inr (.inl ⟨_, k, xs, rfl, rfl, h1, c.1, c.2.1, by rw [← h2.length, ← LIM_eq]; exact c.2.2, fun p hp => ?_⟩)
        obtain ⟨z1, z2, z3⟩ := s.alst hp (Rls.rep k.toNat h2)
        exact h _ _ _ z2 z1 z3
      · exact absurd h id
    · exact absurd h id
  · rename_i a k
    obtain ⟨p, xs, rfl, h1, h2⟩ := rx.tup_inv
    obtain rfl := ry.int_inv
    split at h
    · rename_i c
      simp only [Bool.and_eq_true, decide_eq_true_eq] at c
      refine .inr (.inr ⟨p, k, xs, rfl, rfl, h1, fun z => c.1 (by rw [h2.length, z]; rfl), c.2.1, c.2.2.1, by rw [← h2.length]; exact c.2.2.2, fun q hq => ?_⟩)
      obtain ⟨z1, z2, z3⟩ := s.atup hq (Rls.rep k.toNat h2)
      exact h _ _ _ z2 z1 z3
    · exact absurd h id
  · exact absurd h id
theorem binOp_sound {o : BO} (s : Sim g μ S H) (rx : Rl g μ S.length H dx x) (ry : Rl g μ S.length H dy y) (h : (binOp o dx dy S).want (Kv g μ S.length H Q) X0) : rBin g.K o x y H Q := by
  unfold binOp at h
  split at h
  · rename_i i j
    obtain rfl := rx.int_inv
    obtain rfl := ry.int_inv
    split at h
    · rename_i k e
      exact opI_sound e (Kv.here h s Rl.int_i)
    · exact absurd h id
  · split at h
    · exact opAdd_sound s rx ry h
    · exact opMul_sound s rx ry h
    · exact absurd h id
/-- data, read deep -/
theorem optAll_sound {n : Nat} : ∀ {ds : List D} {l : List PyData} {xs : List V}, (∀ d ∈ ds, ∀ p v, toPy n S d = some p → Rl g μ S.length H d v → Dp g.K H v p) → optAll (ds.map (toPy n S)) = some l → Rls g μ S.length H ds xs → DpAll g.K H xs l
  | [], l, xs, ih, e, r => by
    unfold Rls at r
    subst r
    cases e
    exact .nil
  | d :: ds, l, xs, ih, e, r => by
    unfold Rls at r
    obtain ⟨x, ys, rfl, h1, h2⟩ := r
    rw [List.map_cons] at e
    unfold optAll at e
    split at e
    · rename_i q
      cases q
    · cases e
    · rename_i p r' q
      injection q with q1 q2
      split at e
      · rename_i l' q3
        cases e
        exact .cons (ih d List.mem_cons_self p x q1 h1) (optAll_sound (fun d hd => ih d (List.mem_cons_of_mem _ hd)) (by rw [q2]; exact q3) h2)
      · cases e
theorem toPy_sound (s : Sim g μ S H) : ∀ (n : Nat) (d : D) (p : PyData) (v : V), toPy n S d = some p → Rl g μ S.length H d v → Dp g.K H v p
  | 0, d, p, v, e, r => by cases e
  | n + 1, d, p, v, e, r => by
    unfold toPy at e
    split at e
    · cases e; rw [r.non_inv]; exact .non
    · cases e; rw [r.bl_inv]; exact .bl _
    · cases e; rw [r.int_inv]; exact .int _
    · cases e; rw [r.str_inv]; exact .str _
    · split at e
      · rename_i l q
        cases e
        obtain ⟨a, xs, rfl, h1, h2⟩ := r.tup_inv
        exact .tup h1 (optAll_sound (fun d _ p v e r => toPy_sound s n d p v e r) q h2)
      · cases e
    · split at e
      · rename_i ds q1
        split at e
        · rename_i l q
          cases e
          obtain ⟨rfl, _⟩ := r.ref_inv
          obtain ⟨xs, h1, h2⟩ := getL_sound s q1
          exact .lst h1 (optAll_sound (fun d _ p v e r => toPy_sound s n d p v e r) q h2)
        · cases e
      · cases e
    · cases e
theorem scal_sound {n : Nat} (rx : Rl g μ n H dx x) (ry : Rl g μ n H dy y) (h : scalD dx dy = true) : scal x y = true ∧ decide (x = y) = sameD dx dy := by
  unfold scalD at h
  split at h
  all_goals first
    | (cases h; done)
    | skip
  all_goals (unfold Rl at rx ry; subst rx; subst ry; refine ⟨rfl, ?_⟩; simp [sameD])
theorem eqOp_sound {k : Bool} (s : Sim g μ S H) (rx : Rl g μ S.length H dx x) (ry : Rl g μ S.length H dy y) (e : eqOp dx dy S = some k) (h : Q (.bl k) H) : rCmp g.K .eq x y H Q := by
  unfold eqOp at e
  split at e
  · rename_i c
    cases e
    obtain ⟨h1, h2⟩ := scal_sound rx ry c
    exact .inl ⟨h1, by rw [h2]; exact h⟩
  · split at e
    · rename_i p q e1 e2
      split at e
      · rename_i c
        cases e
        rw [Bool.and_eq_true] at c
        exact .inr ⟨p, q, toPy_sound s _ _ _ _ e1 rx, toPy_sound s _ _ _ _ e2 ry, c.1, c.2, h⟩
      · cases e
    · cases e
theorem neOp_sound {k : Bool} (s : Sim g μ S H) (rx : Rl g μ S.length H dx x) (ry : Rl g μ S.length H dy y) (e : eqOp dx dy S = some k) (h : Q (.bl (!k)) H) : rCmp g.K .ne x y H Q := by
  unfold eqOp at e
  split at e
  · rename_i c
    cases e
    obtain ⟨h1, h2⟩ := scal_sound rx ry c
    exact .inl ⟨h1, by rw [h2]; exact h⟩
  · split at e
    · rename_i p q e1 e2
      split at e
      · rename_i c
        cases e
        rw [Bool.and_eq_true] at c
        exact .inr ⟨p, q, toPy_sound s _ _ _ _ e1 rx, toPy_sound s _ _ _ _ e2 ry, c.1, c.2, h⟩
      · cases e
    · cases e
theorem objAt_sound (s : Sim g μ S H) {l : Nat} (h : objAt S l = true) : ∃ o, H (μ l) = some o ∧ isObj o = true := by
  unfold objAt at h
  split at h
  · rename_i e
    obtain ⟨xs, h1, _⟩ := s.cell l _ e
    exact ⟨_, h1, rfl⟩
  · rename_i e
    obtain ⟨dx, fv, h1, _⟩ := s.cell l _ e
    exact ⟨_, h1, rfl⟩
  · cases h
theorem Rl.eq_non {n : Nat} (rx : Rl g μ n H dx x) : decide (x = .non) = isNonD dx := by
  cases dx with
  | tup ds => obtain ⟨a, xs, rfl, _⟩ := rx.tup_inv; rfl
  | rol ds => obtain ⟨a, xs, rfl, _⟩ := rx.rol_inv; rfl
  | ref l => obtain ⟨rfl, _⟩ := rx.ref_inv; rfl
  | _ => unfold Rl at rx; subst rx; rfl
theorem Rl.eq_bl {n : Nat} {b : Bool} (rx : Rl g μ n H dx x) : decide (x = .bl b) = isBlD b dx := by
  cases dx with
  | tup ds => obtain ⟨a, xs, rfl, _⟩ := rx.tup_inv; rfl
  | rol ds => obtain ⟨a, xs, rfl, _⟩ := rx.rol_inv; rfl
  | ref l => obtain ⟨rfl, _⟩ := rx.ref_inv; rfl
  | bl a => unfold Rl at rx; subst rx; simp [isBlD]
  | _ => unfold Rl at rx; subst rx; rfl
theorem isOp_sound {k neg : Bool} (s : Sim g μ S H) (rx : Rl g μ S.length H dx x) (ry : Rl g μ S.length H dy y) (e : isOp dx dy S = some k) (h : Q (.bl (if neg then !k else k)) H) : rOr (rIsN neg) (rOr (rIsX neg) (rIsR neg)) x y H Q := by
  unfold isOp at e
  split at e
  · rename_i l m
    split at e
    · rename_i c
      cases e
      rw [Bool.and_eq_true] at c
      obtain ⟨o1, h1, p1⟩ := objAt_sound s c.1
      obtain ⟨o2, h2, p2⟩ := objAt_sound s c.2
      obtain ⟨rfl, l1⟩ := rx.ref_inv
      obtain ⟨rfl, l2⟩ := ry.ref_inv
      refine .inr (.inr ⟨_, _, o1, o2, rfl, rfl, h1, p1, h2, p2, ?_⟩)
      have : decide (μ l = μ m) = decide (l = m) := by
        by_cases e : l = m
        · subst e; simp
        · have : ¬ μ l = μ m := fun z => e (s.inj l m l1 l2 z)
          simp [e, this]
      rw [this]
      exact h
    · cases e
  · cases e
    obtain rfl := ry.non_inv
    refine .inl ⟨rfl, ?_⟩
    rw [rx.eq_non]
    exact h
  · rename_i b _
    cases e
    obtain rfl := ry.bl_inv
    refine .inr (.inl ⟨_, rfl, ?_⟩)
    rw [rx.eq_bl]
    exact h
  · cases e
theorem flat_sound {n : Nat} (rx : Rl g μ n H dx x) (h : flatD dx = true) : flatV x = true := by
  cases dx <;> first
    | (cases h; done)
    | (unfold Rl at rx; subst rx; rfl)
theorem eqv_sound {n : Nat} (rx : Rl g μ n H dx x) (ry : Rl g μ n H dy y) (hx : flatD dx = true) (hy : flatD dy = true) : eqV x y = eqvD dx dy := by
  cases dx <;> first
    | (cases hx; done)
    | (unfold Rl at rx
       subst rx
       cases dy <;> first
         | (cases hy; done)
         | (unfold Rl at ry; subst ry; rfl))
theorem inSeq_all {n : Nat} (rx : Rl g μ n H dx x) (hx : flatD dx = true) : ∀ {ds : List D} {xs : List V}, Rls g μ n H ds xs → ds.all flatD = true → xs.all flatV = true ∧ inV x xs = ds.any fun y => eqvD y dx
  | [], xs, r, h => by unfold Rls at r; subst r; exact ⟨rfl, rfl⟩
  | d :: ds, xs, r, h => by
    unfold Rls at r
    obtain ⟨z, ys, rfl, h1, h2⟩ := r
    rw [List.all_cons, Bool.and_eq_true] at h
    obtain ⟨i1, i2⟩ := inSeq_all rx hx h2 h.2
    refine ⟨by rw [List.all_cons, flat_sound h1 h.1, i1]; rfl, ?_⟩
    unfold inV at i2 ⊢
    rw [List.any_cons, List.any_cons, i2, eqv_sound h1 rx h.1 hx]
theorem inSeq_sound {k neg : Bool} {n : Nat} {ds : List D} {xs : List V} {p : Addr} (rx : Rl g μ n H dx x) (rs : Rls g μ n H ds xs) (hs : SqL g.K H p xs ∨ SqT g.K H p xs) (e : inSeq dx ds = some k) (h : Q (.bl (if neg then !k else k)) H) : rIn g.K neg x (.ref p) H Q := by
  unfold inSeq at e
  split at e
  · rename_i c
    cases e
    rw [Bool.and_eq_true] at c
    obtain ⟨h1, h2⟩ := inSeq_all rx c.1 rs c.2
    exact ⟨p, xs, rfl, hs, flat_sound rx c.1, h1, by rw [h2]; exact h⟩
  · cases e
theorem inAny_sound {k neg : Bool} {ds : List D} {xs : List V} {p : Addr} (s : Sim g μ S H) (rx : Rl g μ S.length H dx x) (rs : Rls g μ S.length H ds xs) (hs : SqL g.K H p xs ∨ SqT g.K H p xs) (e : inAny dx ds S = some k) (h : Q (.bl (if neg then !k else k)) H) : rOr (rIn g.K neg) (rOr (rInStr neg) (rOr (rInData g.K neg) (rInDk neg))) x (.ref p) H Q := by
  unfold inAny at e
  cases q : inSeq dx ds with
  | some k' =>
    rw [q] at e
    cases e
    exact .inl (inSeq_sound rx rs hs q h)
  | none =>
    rw [q] at e
    dsimp only at e
    unfold inData at e
    split at e
    · rename_i p' ps e1 e2
      split at e
      · rename_i c
        rw [Bool.and_eq_true] at c
        cases e
        have items := optAll_sound (fun d _ p v e r => toPy_sound s 30 d p v e r) e2 rs
        refine .inr (.inr (.inl ⟨p', ps, toPy_sound s _ _ _ _ e1 rx, ?_, c.1, c.2, h⟩))
        rcases hs with hs | hs
        · exact .inl (.lst hs items)
        · exact .inr (.tup hs items)
      · cases e
    · cases e
theorem Rlk.dGet {n : Nat} {k : Key} : ∀ {kvs : List (Key × D)} {kv : List (Key × V)}, Rlk g μ n H kvs kv → match dGet k kvs with
    | some d => ∃ v, valV kv k = some v ∧ Rl g μ n H d v
    | none => valV kv k = none
  | [], kv, r => by
    unfold Rlk at r
    subst r
    rfl
  | (j, d) :: kvs, kv, r => by
    unfold Rlk at r
    obtain ⟨x, ys, rfl, h1, h2⟩ := r
    unfold VI.dGet
    by_cases c : j = k
    · rw [if_pos c, valV_pos (p := (j, x)) c]
      exact ⟨x, rfl, h1⟩
    · rw [if_neg c, valV_neg (p := (j, x)) c]
      exact Rlk.dGet h2
theorem Rlk.dGet_some {n : Nat} {k : Key} {kvs : List (Key × D)} {kv : List (Key × V)} (r : Rlk g μ n H kvs kv) : (valV kv k).isSome = (VI.dGet k kvs).isSome := by
  have := r.dGet (k := k)
  cases c : VI.dGet k kvs with
  | some d =>
    rw [c] at this
    obtain ⟨v, h1, _⟩ := this
    rw [h1]
    rfl
  | none =>
    rw [c] at this
    have this : valV kv k = none := this
    rw [this]
    rfl
theorem keyOf_kV {n : Nat} {d : D} {v : V} {k : Key} (h : keyOf d = some k) (r : Rl g μ n H d v) : v = kV k := by
  unfold keyOf at h
  split at h
  · cases h
    exact r.int_inv
  · cases h
    exact r.str_inv
  · cases h
theorem dkGet_sound {l : Nat} {k : Key} {d : D} (s : Sim g μ S H) (e : dkGet S l k = some d) : ∃ v, DGet H (μ l) (kV k) (some v) ∧ Rl g μ S.length H d v := by
  unfold dkGet at e
  split at e
  · rename_i kvs q
    obtain ⟨kv, h1, h2⟩ := s.cell l _ q
    have := h2.dGet (k := k)
    rw [e] at this
    obtain ⟨v, h3, h4⟩ := this
    refine ⟨v, ?_, h4⟩
    rw [← h3]
    exact DGet.k h1
  · cases e
theorem inOp_sound {k neg : Bool} (s : Sim g μ S H) (rx : Rl g μ S.length H dx x) (ry : Rl g μ S.length H dy y) (e : inOp dx dy S = some k) (h : Q (.bl (if neg then !k else k)) H) : rOr (rIn g.K neg) (rOr (rInStr neg) (rOr (rInData g.K neg) (rInDk neg))) x y H Q := by
  unfold inOp at e
  split at e
  · obtain ⟨a, xs, rfl, h1, h2⟩ := ry.tup_inv
    exact inAny_sound s rx h2 (.inr h1) e h
  · split at e
    · cases e
      refine .inr (.inl ⟨_, _, rx.str_inv, ry.str_inv, ?_⟩)
      exact h
    · cases e
  · rename_i l
    obtain ⟨rfl, l1⟩ := ry.ref_inv
    split at e
    · rename_i ds q
      obtain ⟨xs, h1, h2⟩ := s.cell l _ q
      exact inAny_sound s rx h2 (.inl (.inl (.inl h1))) e h
    · rename_i kvs q
      split at e
      · rename_i k' hk
        cases e
        obtain ⟨kv, h1, h2⟩ := s.cell l _ q
        refine .inr (.inr (.inr ⟨_, valV kv k', rfl, ?_, by rw [h2.dGet_some]; exact h⟩))
        rw [keyOf_kV hk rx]
        exact DGet.k h1
      · cases e
    · cases e
  · cases e
theorem ltOp_sound {k : Bool} {o : CO} (rx : Rl g μ S.length H dx x) (ry : Rl g μ S.length H dy y) (e : ltOp o dx dy = some k) (h : Q (.bl k) H) : rCmp g.K o x y H Q := by
  unfold ltOp at e
  split at e
  · rename_i i j
    obtain rfl := rx.int_inv
    obtain rfl := ry.int_inv
    split at e
    · cases e; exact ⟨i, j, rfl, rfl, h⟩
    · cases e; exact ⟨i, j, rfl, rfl, h⟩
    · cases e; exact ⟨i, j, rfl, rfl, h⟩
    · cases e; exact ⟨i, j, rfl, rfl, h⟩
    · cases e
  · cases e
theorem cmpOp_sound {k : Bool} {o : CO} (s : Sim g μ S H) (rx : Rl g μ S.length H dx x) (ry : Rl g μ S.length H dy y) (e : cmpOp o dx dy S = some k) (h : Q (.bl k) H) : rCmp g.K o x y H Q := by
  unfold cmpOp at e
  split at e
  · exact eqOp_sound s rx ry e h
  · obtain ⟨j, e1, e2⟩ := Option.map_eq_some_iff.mp e
    subst e2
    exact neOp_sound s rx ry e1 h
  · exact isOp_sound (neg := false) s rx ry e h
  · obtain ⟨j, e1, e2⟩ := Option.map_eq_some_iff.mp e
    subst e2
    exact isOp_sound (neg := true) s rx ry e1 h
  · exact inOp_sound (neg := false) s rx ry e h
  · obtain ⟨j, e1, e2⟩ := Option.map_eq_some_iff.mp e
    subst e2
    exact inOp_sound (neg := true) s rx ry e1 h
  · exact ltOp_sound rx ry e h
theorem truD_sound {k : Bool} (s : Sim g μ S H) (rx : Rl g μ S.length H dx x) (e : truD dx S = some k) : TruV g.K x H k := by
  unfold truD at e
  split at e
  · cases e; rw [rx.non_inv]; rfl
  · cases e; rw [rx.bl_inv]; rfl
  · cases e; rw [rx.int_inv]; rfl
  · split at e
    · rename_i c
      cases e
      rw [rx.str_inv]
      exact ⟨by rw [← LIM_eq]; exact c, rfl⟩
    · cases e
  · rename_i ds
    cases e
    obtain ⟨a, xs, rfl, h1, h2⟩ := rx.tup_inv
    refine .inr (.inl ⟨xs, h1, ?_⟩)
    cases ds with
    | nil => unfold Rls at h2; subst h2; rfl
    | cons d ds => unfold Rls at h2; obtain ⟨z, ys, rfl, _⟩ := h2; rfl
  · rename_i ds
    cases e
    obtain ⟨a, xs, rfl, h1, h2⟩ := rx.rol_inv
    refine .inl ⟨xs, h1.l, ?_⟩
    cases ds with
    | nil => unfold Rls at h2; subst h2; rfl
    | cons d ds => unfold Rls at h2; obtain ⟨z, ys, rfl, _⟩ := h2; rfl
  · rename_i l
    obtain ⟨rfl, l1⟩ := rx.ref_inv
    have emp : ∀ {ds : List D} {xs : List V}, Rls g μ S.length H ds xs → (!xs.isEmpty) = !ds.isEmpty := by
      intro ds xs h2
      cases ds with
      | nil => unfold Rls at h2; subst h2; rfl
      | cons d ds => unfold Rls at h2; obtain ⟨z, ys, rfl, _⟩ := h2; rfl
    split at e
    · rename_i ds q
      cases e
      obtain ⟨xs, h1, h2⟩ := s.cell l _ q
      exact .inl ⟨xs, .inl (.inl h1), (emp h2).symm⟩
    · rename_i kvs q
      cases e
      obtain ⟨xs, h1, h2⟩ := s.cell l _ q
      refine .inr (.inr ⟨xs, h1, ?_⟩)
      cases kvs with
      | nil => unfold Rlk at h2; subst h2; rfl
      | cons d ds => obtain ⟨k, d⟩ := d; unfold Rlk at h2; obtain ⟨z, ys, rfl, _⟩ := h2; rfl
    · cases e
  · cases e
theorem idxOp_sound {d : D} (s : Sim g μ S H) (rx : Rl g μ S.length H dx x) (ry : Rl g μ S.length H dy y) (e : idxOp dx dy S = some d) (h : ∀ v, Rl g μ S.length H d v → Q v H) : rIxX g.K x y H Q := by
  unfold idxOp at e
  split at e
  · rename_i ds i
    obtain ⟨a, xs, rfl, h1, h2⟩ := rx.tup_inv
    obtain rfl := ry.int_inv
    obtain ⟨v, h3, h4⟩ := atI_Rls h2 e
    exact .inl (.inr (.inl ⟨a, xs, i, v, rfl, rfl, h1, h3, h v h4⟩))
  · rename_i ds i
    obtain ⟨a, xs, rfl, h1, h2⟩ := rx.rol_inv
    obtain rfl := ry.int_inv
    obtain ⟨v, h3, h4⟩ := atI_Rls h2 e
    exact .inl (.inl ⟨a, xs, i, v, rfl, rfl, h1.l, h3, h v h4⟩)
  · rename_i z i
    split at e
    · rename_i c
      obtain ⟨w, e1, e2⟩ := Option.map_eq_some_iff.mp e
      subst e2
      exact .inl (.inr (.inr ⟨z, i, w, rx.str_inv, ry.int_inv, by rw [← LIM_eq]; exact c, e1, h _ Rl.str_i⟩))
    · cases e
  · rename_i l i
    obtain ⟨rfl, l1⟩ := rx.ref_inv
    obtain rfl := ry.int_inv
    split at e
    · rename_i ds q
      obtain ⟨xs, h1, h2⟩ := getL_sound s q
      obtain ⟨v, h3, h4⟩ := atI_Rls h2 e
      exact .inl (.inl ⟨_, xs, i, v, rfl, rfl, h1, h3, h v h4⟩)
    · obtain ⟨v, h3, h4⟩ := dkGet_sound s e
      exact .inr ⟨_, v, rfl, h3, h v h4⟩
  · rename_i l z
    obtain ⟨rfl, l1⟩ := rx.ref_inv
    obtain rfl := ry.str_inv
    obtain ⟨v, h3, h4⟩ := dkGet_sound s e
    exact .inr ⟨_, v, rfl, h3, h v h4⟩
  · cases e
end
end VI

set_option Elab.async false
set_option linter.all false
set_option maxRecDepth 100000
/-! VId: built-ins, fields, stores: readings, and that they hold. -/
namespace VI
open PySem L2

def rSlX (K : PySem.W.Frag) : V → Option Int → Option Int → Hp → VK → Prop := fun x lo hi H Q => rSlL K x lo hi H Q ∨ rSlA K x lo hi H Q
theorem sl_X {X : Cx} : SlR X (rSlX X.K) := sl_list.or sl_tupA
abbrev RC := List V → Hp → VK → Prop
def rcOr (r r' : RC) : RC := fun xs H Q => r xs H Q ∨ r' xs H Q
theorem CallR.or' {X : Cx} {f : Value} {r r' : RC} (h : CallR X f r) (h' : CallR X f r') : CallR X f (rcOr r r') :=
  fun pins s σ H xs us Q I rx q => q.elim (h pins s σ H xs us Q I rx) (h' pins s σ H xs us Q I rx)
def rLenSeq (K : PySem.W.Frag) : RC := fun xs H Q => ∃ p ys, xs = [.ref p] ∧ (SqL K H p ys ∨ SqT K H p ys) ∧ Q (.int ys.length) H
def rLenDk : RC := fun xs H Q => ∃ p kvs, xs = [.ref p] ∧ H p = some (.dK kvs) ∧ Q (.int kvs.length) H
def rLenStr : RC := fun xs H Q => ∃ z, xs = [.str z] ∧ z.length ≤ sizeLine ∧ Q (.int z.length) H
def rInt1 : RC := fun xs H Q => (∃ i, xs = [.int i] ∧ Q (.int i) H) ∨ ∃ k, xs = [.bl k] ∧ Q (.int (if k then 1 else 0)) H
def rBool1 : RC := fun xs H Q => (∃ i, xs = [.int i] ∧ Q (.bl (i != 0)) H) ∨ ∃ k, xs = [.bl k] ∧ Q (.bl k) H
def rTupOf (K : PySem.W.Frag) : RC := fun xs H Q => ∃ p ys, xs = [.ref p] ∧ ((SqL K H p ys ∧ ∀ l, H l = none → Q (.ref l) (upd H l (.tup ys))) ∨ (SqT K H p ys ∧ Q (.ref p) H))
def rLstOf (K : PySem.W.Frag) : RC := fun xs H Q => ∃ p ys, xs = [.ref p] ∧ (SqL K H p ys ∨ SqT K H p ys) ∧ ∀ l, H l = none → Q (.ref l) (upd H l (.lst ys))
def rMin2 : RC := fun xs H Q => ∃ i j, xs = [.int i, .int j] ∧ Q (.int (if j < i then j else i)) H
def rMax2 : RC := fun xs H Q => ∃ i j, xs = [.int i, .int j] ∧ Q (.int (if j > i then j else i)) H
def rAbs : RC := fun xs H Q => ∃ i, xs = [.int i] ∧ Q (.int (if i < 0 then -i else i)) H
def rNoC : RC := fun _ _ _ => False
def rBlt (K : PySem.W.Frag) : BF → RC
  | .len => rcOr (rLenSeq K) (rcOr rLenStr rLenDk)
  | .int => rInt1
  | .bool => rBool1
  | .tuple => rTupOf K
  | .list => rLstOf K
  | .min2 => rMin2
  | .max2 => rMax2
  | .abs => rAbs
  | .all => rAll K
  | .any => rAny K
  | .sum => rSum K
  | .min => rMin K
  | .max => rMax K
  | .sorted => rSortedI K
  | _ => rNoC
section
variable {X : Cx}
theorem call_len_dk : CallR X (.builtin "len") rLenDk := by
  intro pins s σ H xs us Q I r h
  obtain ⟨p, kvs, rfl, hp, q⟩ := h
  obtain ⟨u, rfl, rx⟩ := vals1 r
  obtain rfl : u = Value.ref p := rx
  exact d_len I (.inl hp) fun t s' I' => ⟨.int kvs.length, H, I', ⟨t, rfl⟩, q⟩
theorem cb_len : CallR X (.builtin "len") (rBlt X.K .len) := CallR.or' call_len_seq (CallR.or' call_len_str call_len_dk)
theorem cb_int : CallR X (.type "int") (rBlt X.K .int) := call_int1
theorem cb_bool : CallR X (.type "bool") (rBlt X.K .bool) := call_bool1
theorem cb_tuple : CallR X (.type "tuple") (rBlt X.K .tuple) := call_tuple_of
theorem cb_list : CallR X (.type "list") (rBlt X.K .list) := call_list_of
theorem cb_min2 (hc : X.calm = true) : CallR X (.builtin "min") (rBlt X.K .min2) := call_min2 hc
theorem cb_max2 (hc : X.calm = true) : CallR X (.builtin "max") (rBlt X.K .max2) := call_max2 hc
theorem cb_abs : CallR X (.builtin "abs") (rBlt X.K .abs) := call_abs
theorem cb_all (hc : X.calm = true) : CallR X (.builtin "all") (rBlt X.K .all) := cr_all hc
theorem cb_any (hc : X.calm = true) : CallR X (.builtin "any") (rBlt X.K .any) := cr_any hc
theorem cb_sum (hc : X.calm = true) : CallR X (.builtin "sum") (rBlt X.K .sum) := cr_sum hc
theorem cb_min (hc : X.calm = true) : CallR X (.builtin "min") (rBlt X.K .min) := cr_min hc
theorem cb_max (hc : X.calm = true) : CallR X (.builtin "max") (rBlt X.K .max) := cr_max hc
end
def rBM (K : PySem.W.Frag) : BM → V → List V → Hp → VK → Prop
  | .append => rAppend
  | .pop => rPop
  | .extend => rExtend
  | .popAt => rPopAt
  | .index => rIndex K
  | .count => rCntI K

section
variable {g : Glb} {μ : Nat → Addr} {S : Store} {H : Hp} {x y : V} {dx dy : D} {Q : VK} {X0 : XC → Store → Prop}
theorem cut_Rls {n : Nat} {ds : List D} {xs : List V} (lo hi : Option Int) (h : Rls g μ n H ds xs) : Rls g μ n H (cutD ds lo hi) (cutV xs lo hi) := by
  unfold cutD cutV
  rw [h.length]
  exact (h.drop _).take _
theorem slOp_sound {lo hi : Option Int} (s : Sim g μ S H) (rx : Rl g μ S.length H dx x) (h : (slOp dx lo hi S).want (Kv g μ S.length H Q) X0) : rSlX g.K x lo hi H Q := by
  unfold slOp at h
  split at h
  · obtain ⟨a, xs, rfl, h1, h2⟩ := rx.tup_inv
    have hc := cut_Rls lo hi h2
    refine .inr ⟨a, xs, rfl, h1, fun z => ?_, fun _ p hp => ?_⟩
    · have e : cutV xs lo hi = xs := by
        unfold cutV
        rw [z.1, z.2]
        simp
      rw [e] at hc
      refine Kv.here h s ?_
      unfold Rl
      exact ⟨a, xs, rfl, h1, hc⟩
    · obtain ⟨z1, z2, z3⟩ := s.atup hp hc
      exact h _ _ _ z2 z1 z3
  · rename_i l
    obtain ⟨rfl, _⟩ := rx.ref_inv
    split at h
    · rename_i ds q
      obtain ⟨xs, h1, h2⟩ := getL_sound s q
      refine .inl ⟨_, xs, rfl, h1, fun p hp => ?_⟩
      obtain ⟨z1, z2, z3⟩ := s.alst hp (cut_Rls lo hi h2)
      exact h _ _ _ z2 z1 z3
    · exact absurd h id
  · exact absurd h id
end
/-! ### xs[::-1], t[::-1] -/
section
open PySem.Spec PyProof.Rows HT
variable {prog : Program} {w : World} {A : Around} {E : Value → Shared → Prop} {z : Shared}
theorem adj_back (n : Nat) : Builtin.Slice.sliceAdjust none none (-1) (n : Int) = ((n : Int) - 1, (-1 : Int)) := by
  unfold Builtin.Slice.sliceAdjust
  simp
theorem places_back (n : Nat) : Builtin.Slice.slicePlaces ((n : Int) - 1) (-1) (-1) = n := by
  unfold Builtin.Slice.slicePlaces
  rw [if_neg (by decide)]
  split <;> simp <;> omega
theorem applied_back {sl : Addr} {vl vu vk : Value} {n : Nat} {Q : Int × Int × Nat → Shared → Prop} (k0 : z.heap.IsSliceOf sl vl vu vk) (pl : IsPart vl none) (pu : IsPart vu none) (pk : IsPart vk (some (-1)))
    (h : Q ((n : Int) - 1, -1, n) z) : wpAny (model prog w) A (Builtin.Slice.sliceApplied (.ref sl) (pure (n : Int))) Q E z := by
  obtain ⟨ob, k1, k2, k3⟩ := id k0
  unfold Builtin.Slice.sliceApplied Builtin.Slice.sliceFields
  have last : wpAny (model prog w) A (pure ((n : Int) - 1, (-1 : Int), n)) Q E z := wpAny_pure h
  refine wpAny_bind (wpAny_bind (wpAny_field k1 k3 (x := vl) rfl ?_))
  refine wpAny_bind (wpAny_field k1 k3 (x := vu) rfl ?_)
  refine wpAny_bind (wpAny_field k1 k3 (x := vk) rfl (wpAny_pure ?_))
  refine wpAny_bind (slicePart_ pk ?_)
  show wpAny _ _ (if ((-1 : Int) == 0) = true then _ else _) _ _ z
  rw [if_neg (by decide)]
  refine wpAny_bind (slicePart_ pl ?_)
  refine wpAny_bind (slicePart_ pu ?_)
  refine wpAny_bind (wpAny_pure ?_)
  show wpAny _ _ (match Builtin.Slice.sliceAdjust none none (-1) (n : Int) with
    | (lo, hi) => pure (lo, (-1 : Int), Builtin.Slice.slicePlaces lo hi (-1))) _ _ z
  rw [adj_back]
  show wpAny _ _ (pure ((n : Int) - 1, (-1 : Int), Builtin.Slice.slicePlaces ((n : Int) - 1) (-1) (-1))) _ _ z
  rw [places_back]
  exact last
theorem fm_eq {α β : Type} {f h : α → Option β} : ∀ {ms : List α}, (∀ m ∈ ms, f m = h m) → ms.filterMap f = ms.filterMap h
  | [], _ => rfl
  | a :: r, k => by
    rw [List.filterMap_cons, List.filterMap_cons, k a List.mem_cons_self, fm_eq fun m hm => k m (List.mem_cons_of_mem _ hm)]
theorem pick_back (xs : Array Value) : ((List.range xs.size).filterMap fun (m : Nat) => xs[(((xs.size : Int) - 1) + (m : Int) * (-1)).toNat]?) = xs.toList.reverse := by
  have e : ∀ m ∈ List.range xs.size, xs[(((xs.size : Int) - 1) + (m : Int) * (-1)).toNat]? = xs.toList.reverse[m]? := fun m hm => by
    have hm := List.mem_range.mp hm
    rw [show ((((xs.size : Int) - 1) + (m : Int) * (-1)).toNat) = xs.size - 1 - m by omega, List.getElem?_reverse (by simpa using hm)]
    simp
  rw [fm_eq e]
  have f : ∀ ys : List Value, (List.range ys.length).filterMap (fun m => ys[m]?) = ys := fun ys => by
    apply List.ext_getElem?
    intro i
    have h2 : (List.range ys.length).filterMap (fun m => ys[m]?) = (List.range ys.length).pmap (fun m (h : m < ys.length) => ys[m]) (fun m h => List.mem_range.mp h) := by
      generalize hg : (fun m h => List.mem_range.mp h : ∀ m ∈ List.range ys.length, m < ys.length) = pr
      clear hg
      revert pr
      generalize List.range ys.length = ms
      intro pr
      induction ms with
      | nil => rfl
      | cons a r ih =>
        rw [List.filterMap_cons, List.getElem?_eq_getElem (pr a List.mem_cons_self)]
        show _ :: _ = _
        rw [ih (fun m h => pr m (List.mem_cons_of_mem _ h))]
        rfl
    rw [h2, List.getElem?_pmap]
    by_cases hi : i < ys.length
    · simp [hi]
    · simp [hi]
  have g := f xs.toList.reverse
  rw [List.length_reverse, Array.length_toList] at g
  exact g
theorem back_tuple {t sl : Addr} {xs : Array Value} {vl vu vk : Value} {Q : Value → Shared → Prop} (k0 : IsTup z.heap t xs) (k1 : z.heap.IsSliceOf sl vl vu vk) (pl : IsPart vl none) (pu : IsPart vu none) (pk : IsPart vk (some (-1))) (hz : xs.size ≤ sizeLine)
    (h : Q (.ref z.heap.objs.size) { z with heap := z.heap.push { cls := .type "tuple", data := .seq xs.toList.reverse.toArray } }) : wpAny (model prog w) A (getItem (.ref t) (.ref sl)) Q E z := by
  have hs : sizeOk (.seq xs.toList.reverse.toArray) := by
    show xs.toList.reverse.toArray.size ≤ sizeLine
    simpa using hz
  obtain ⟨ob, k2, k3, k4⟩ := id k1
  have kT : z.TypeIs (.ref sl) "slice" := ⟨ob, k2, k3⟩
  unfold getItem
  try with_reducible refine wpAny_holding ?_
  first
    | refine wpAny_bind (wpAny_pure ?_)
    | skip
  refine wpAny_bind (wpAny_sequenceKey k0.typeIs (by decide) ?_)
  refine wpAny_bind (wpAny_callSpecial?_slot (name := Str.ofString "__getitem__") k0.typeIs slot_tuple_getitem ?_)
  refine wpAny_call_entry slot_tuple_getitem k0.typeIs entry_tuple_getitem ?_ (args_tuple_getitem _ _)
  show wpAny _ _ (Builtin.Tuple.tupleItemsOf (.ref t) >>= _) _ _ z
  refine wpAny_bind (tupleItemsOf_ k0 ?_)
  refine wpAny_bind (wpAny_typeOf kT ?_)
  rw [if_pos (by decide)]
  refine wpAny_bind (applied_back k1 pl pu pk ?_)
  show wpAny _ _ (if (((xs.size : Int) - 1) == 0 && (-1 : Int) == 1 && xs.size == xs.size) = true then _ else _) _ _ z
  rw [if_neg (by simp), pick_back]
  first
    | exact wpAny_bind (m := Builtin.Tuple.tupleExact _) (wpAny_newObj_type (wpAny_pure ⟨_, rfl, wpAny_pure h⟩) hs)
    | exact wpAny_bind (wpAny_bind (m := Builtin.Tuple.tupleExact _) (wpAny_newObj_type (wpAny_pure ⟨_, rfl, wpAny_pure h⟩) hs))
    | exact wpAny_bind (m := Builtin.Tuple.tupleExact _) (wpAny_newObj_type (wpAny_bind (wpAny_pure (wpAny_pure ⟨_, rfl, wpAny_pure h⟩))) hs)
end
def rRevX (K : PySem.W.Frag) : V → Hp → VK → Prop := fun x H Q => (∃ a xs, x = .ref a ∧ SqL K H a xs ∧ ∀ p, H p = none → Q (.ref p) (upd H p (.lst xs.reverse))) ∨ ∃ a xs, x = .ref a ∧ SqT K H a xs ∧ ∀ p, H p = none → Q (.ref p) (upd H p (.tup xs.reverse))
def tRevX (K : PySem.W.Frag) (te : TE) : TE := fun σ H Q => te σ H fun x H1 => rRevX K x H1 Q
section
open PySem.Spec PyProof.Rows HT
theorem pe_revX {X : Cx} {e : Expr} {te : TE} {k : Nat} {q1 q2 q3 pos : Pos} (he : PE X e te) : PE X (.Subscript e (.Slice none none (some (.UnaryOp .USub (.Constant (.int 1) k q1) q2)) q3) pos) (tRevX X.K te) := by
  constructor
  intro pins z σ H Q I h
  refine Subscript_ (thn (he.run pins z σ H _ I h) fun v z1 ⟨x, H1, I1, r1, j1⟩ => ?_)
  have part : PO X (some (.UnaryOp .USub (.Constant (.int 1) k q1) q2)) (tPart (tUn (rU fun i => .int (-i)) (tC (.int 1)))) := po_some (pe_un un_neg pe_int)
  refine wpAny_Slice (thn (po_none.run pins z1 σ H1 (fun o H2 => o = none ∧ H2 = H1) I1 ⟨rfl, rfl⟩) fun vl z2 ⟨_, H2, I2, pl, rfl, e2⟩ => ?_)
  rw [e2] at I2
  refine thn (po_none.run pins z2 σ H1 (fun o H3 => o = none ∧ H3 = H1) I2 ⟨rfl, rfl⟩) fun vu z3 ⟨_, H3, I3, pu, rfl, e3⟩ => ?_
  rw [e3] at I3
  refine thn (part.run pins z3 σ H1 (fun o H4 => o = some (-1) ∧ H4 = H1) I3 ⟨1, rfl, -1, rfl, rfl, rfl⟩) fun vk z4 ⟨_, H4, I4, pk, rfl, e4⟩ => ?_
  rw [e4] at I4
  have I5 : Inv X pins σ H1 { z4 with heap := z4.heap.push { cls := .type "slice", data := .fields #[vl, vu, vk] } } := I4.kept (t' := z4.toks) fun b ob q => Heap.get?_push_of_some _ q
  rcases j1 with ⟨a, xs, rfl, hx, q⟩ | ⟨a, xs, rfl, hx, q⟩
  · cases r1
    obtain ⟨its, r, ht, hz⟩ := I5.list hx
    have hl := r.length
    show wpAny _ X.A (subscriptTail e (.Slice none none (some (.UnaryOp .USub (.Constant (.int 1) k q1) q2)) q3) (.ref a) (.ref z4.heap.objs.size)) (EP X pins σ Q) X.xe { z4 with heap := z4.heap.push { cls := .type "slice", data := .fields #[vl, vu, vk] } }
    refine tail_any (ops := [.ref a, .ref z4.heap.objs.size]) ht.isList.typeIs (PySem.slot_list_getitem.lookup) ?_ (by with_unfolding_all rfl)
    refine wpAny_getItem_list_slice ht.isList (Heap.IsSliceOf.new _ vl vu vk) pl pu pk (by decide) ?_ (by rw [List.size_toArray]; omega)
    rw [PySem.W.krv_pick]
    have new : upd H1 { z4 with heap := z4.heap.push { cls := .type "slice", data := .fields #[vl, vu, vk] } }.heap.objs.size (.lst xs.reverse) = upd H1 { z4 with heap := z4.heap.push { cls := .type "slice", data := .fields #[vl, vu, vk] } }.heap.objs.size (.lst xs.reverse) := rfl
    refine ⟨.ref _, _, I5.laid (t' := z4.toks) (o := .lst xs.reverse) (fun b ob q => Heap.get?_push_of_some _ q) (Nat.le_refl _) ?_, rfl, q _ (I5.hok.fresh (Nat.le_refl _))⟩
    exact ⟨by simpa using hz, _, 0, r.reverse, Heap.get?_push_size _ rfl⟩
  · cases r1
    obtain ⟨its, r, ht, hz⟩ := I5.tuple hx
    have hl := r.length
    show wpAny _ X.A (subscriptTail e (.Slice none none (some (.UnaryOp .USub (.Constant (.int 1) k q1) q2)) q3) (.ref a) (.ref z4.heap.objs.size)) (EP X pins σ Q) X.xe { z4 with heap := z4.heap.push { cls := .type "slice", data := .fields #[vl, vu, vk] } }
    refine tail_any (ops := [.ref a, .ref z4.heap.objs.size]) ht.typeIs slot_tuple_getitem.lookup ?_ (by with_unfolding_all rfl)
    refine back_tuple ht (Heap.IsSliceOf.new _ vl vu vk) pl pu pk (by rw [List.size_toArray]; omega) ?_
    refine ⟨.ref _, _, I5.laid (t' := z4.toks) (o := .tup xs.reverse) (fun b ob q => Heap.get?_push_of_some _ q) (Nat.le_refl _) ?_, rfl, q _ (I5.hok.fresh (Nat.le_refl _))⟩
    exact ⟨by simpa using hz, _, by simpa using r.reverse, IsTup.new _ _⟩
end
section
variable {g : Glb} {μ : Nat → Addr} {S : Store} {H : Hp} {x y : V} {dx dy : D} {Q : VK} {X0 : XC → Store → Prop}
theorem revOp_sound (s : Sim g μ S H) (rx : Rl g μ S.length H dx x) (h : (revOp dx S).want (Kv g μ S.length H Q) X0) : rRevX g.K x H Q := by
  unfold revOp at h
  split at h
  · rename_i l
    obtain ⟨rfl, _⟩ := rx.ref_inv
    split at h
    · rename_i ds q
      obtain ⟨xs, h1, h2⟩ := getL_sound s q
      refine .inl ⟨_, xs, rfl, h1, fun p hp => ?_⟩
      obtain ⟨z1, z2, z3⟩ := s.alst hp h2.reverse
      exact h _ _ _ z2 z1 z3
    · exact absurd h id
  · rename_i ds
    obtain ⟨a, xs, rfl, k1, k2⟩ := rx.tup_inv
    refine .inr ⟨_, xs, rfl, k1, fun p hp => ?_⟩
    obtain ⟨z1, z2, z3⟩ := s.atup hp k2.reverse
    exact h _ _ _ z2 z1 z3
  · exact absurd h id
theorem Rls.nil_inv {n : Nat} {xs : List V} (h : Rls g μ n H [] xs) : xs = [] := by unfold Rls at h; exact h
theorem Rls.cons_inv {n : Nat} {d : D} {ds : List D} {xs : List V} (h : Rls g μ n H (d :: ds) xs) : ∃ x ys, xs = x :: ys ∧ Rl g μ n H d x ∧ Rls g μ n H ds ys := by unfold Rls at h; exact h
theorem Rls.one_inv {n : Nat} {d : D} {xs : List V} (h : Rls g μ n H [d] xs) : ∃ x, xs = [x] ∧ Rl g μ n H d x := by
  obtain ⟨x, ys, rfl, h1, h2⟩ := h.cons_inv
  rw [h2.nil_inv]
  exact ⟨x, rfl, h1⟩
theorem Rls.two_inv {n : Nat} {d e : D} {xs : List V} (h : Rls g μ n H [d, e] xs) : ∃ x y, xs = [x, y] ∧ Rl g μ n H d x ∧ Rl g μ n H e y := by
  obtain ⟨x, ys, rfl, h1, h2⟩ := h.cons_inv
  obtain ⟨y, rfl, h3⟩ := h2.one_inv
  exact ⟨x, y, rfl, h1, h3⟩
theorem tyName_sound {n : String} (s : Sim g μ S H) (rx : Rl g μ S.length H dx x) (e : tyName dx S = some n) : TyX g.K H x (.type n) := by
  unfold tyName at e
  split at e
  · cases e; rw [rx.non_inv]; exact .base .non
  · cases e; rw [rx.bl_inv]; exact .base (.bl _)
  · cases e; rw [rx.int_inv]; exact .base (.int _)
  · cases e; rw [rx.str_inv]; exact .base (.str _)
  · cases e
    obtain ⟨a, xs, rfl, h1, h2⟩ := rx.tup_inv
    rcases h1 with (h1 | ⟨o, h1⟩) | ⟨o, its, n, h1, h2, _⟩
    · exact .base (.tup h1)
    · exact .fTuple h1
    · exact .kTuple h1 h2
  · cases e
    obtain ⟨a, xs, rfl, h1, h2⟩ := rx.rol_inv
    rcases h1 with ⟨o, h1⟩ | h1
    · exact .base (.frz h1)
    · rcases h1 (fun _ => none) with (h1 | ⟨o, h1⟩) | ⟨o, its, n, h1, h2, _⟩
      · cases h1
      · cases h1
      · exact .kList h1 h2
  · rename_i l
    obtain ⟨rfl, _⟩ := rx.ref_inv
    split at e
    · rename_i q; cases e; obtain ⟨xs, h1, _⟩ := s.cell l _ q; exact .base (.lst h1)
    · rename_i q; cases e; obtain ⟨xs, h1, _⟩ := s.cell l _ q; exact .base (.dK h1)
    · rename_i q; cases e; obtain ⟨xs, h1, _⟩ := s.cell l _ q; exact .base (.dT h1)
    · cases e
  · cases e
theorem intsOf_sound {n : Nat} : ∀ {ds : List D} {is : List Int} {xs : List V}, intsOf ds = some is → Rls g μ n H ds xs → xs = is.map V.int
  | [], is, xs, e, r => by cases e; rw [r.nil_inv]; rfl
  | d :: ds, is, xs, e, r => by
    unfold intsOf at e
    split at e
    · rename_i q; cases q
    · rename_i i ds' q
      injection q with q1 q2
      subst q1 q2
      split at e
      · rename_i l q3
        cases e
        obtain ⟨x, ys, rfl, h1, h2⟩ := r.cons_inv
        rw [h1.int_inv, intsOf_sound q3 h2]
        rfl
      · cases e
    · cases e
theorem blsOf_sound {n : Nat} : ∀ {ds : List D} {is : List Bool} {xs : List V}, blsOf ds = some is → Rls g μ n H ds xs → xs = is.map V.bl
  | [], is, xs, e, r => by cases e; rw [r.nil_inv]; rfl
  | d :: ds, is, xs, e, r => by
    unfold blsOf at e
    split at e
    · rename_i q; cases q
    · rename_i i ds' q
      injection q with q1 q2
      subst q1 q2
      split at e
      · rename_i l q3
        cases e
        obtain ⟨x, ys, rfl, h1, h2⟩ := r.cons_inv
        rw [h1.bl_inv, blsOf_sound q3 h2]
        rfl
      · cases e
    · cases e
theorem minI_eq : ∀ {is : List Int} {m : Int}, m ∈ is → (∀ y, y ∈ is → m ≤ y) → minI is = m
  | [], m, h, _ => by cases h
  | [i], m, h, _ => by simp at h; rw [h]; rfl
  | i :: j :: r, m, h, hm => by
    have key : ∀ {is : List Int}, is ≠ [] → minI is ∈ is ∧ ∀ y, y ∈ is → minI is ≤ y := by
      intro is
      induction is with
      | nil => intro h; exact absurd rfl h
      | cons a l ih =>
        intro _
        cases l with
        | nil => exact ⟨by simp [minI], by simp [minI]⟩
        | cons b l =>
          obtain ⟨h1, h2⟩ := ih (List.cons_ne_nil _ _)
          unfold minI
          dsimp only
          split
          · rename_i c
            refine ⟨List.mem_cons_self, fun y hy => ?_⟩
            rcases List.mem_cons.mp hy with rfl | hy
            · exact Int.le_refl _
            · exact Int.le_trans c (h2 y hy)
          · rename_i c
            refine ⟨List.mem_cons_of_mem _ h1, fun y hy => ?_⟩
            rcases List.mem_cons.mp hy with rfl | hy
            · omega
            · exact h2 y hy
    obtain ⟨h1, h2⟩ := key (List.cons_ne_nil i (j :: r))
    exact Int.le_antisymm (h2 m h) (hm _ h1)
theorem maxI_eq : ∀ {is : List Int} {m : Int}, m ∈ is → (∀ y, y ∈ is → y ≤ m) → maxI is = m
  | [], m, h, _ => by cases h
  | [i], m, h, _ => by simp at h; rw [h]; rfl
  | i :: j :: r, m, h, hm => by
    have key : ∀ {is : List Int}, is ≠ [] → maxI is ∈ is ∧ ∀ y, y ∈ is → y ≤ maxI is := by
      intro is
      induction is with
      | nil => intro h; exact absurd rfl h
      | cons a l ih =>
        intro _
        cases l with
        | nil => exact ⟨by simp [maxI], by simp [maxI]⟩
        | cons b l =>
          obtain ⟨h1, h2⟩ := ih (List.cons_ne_nil _ _)
          unfold maxI
          dsimp only
          split
          · rename_i c
            refine ⟨List.mem_cons_self, fun y hy => ?_⟩
            rcases List.mem_cons.mp hy with rfl | hy
            · exact Int.le_refl _
            · exact Int.le_trans (h2 y hy) c
          · rename_i c
            refine ⟨List.mem_cons_of_mem _ h1, fun y hy => ?_⟩
            rcases List.mem_cons.mp hy with rfl | hy
            · omega
            · exact h2 y hy
    obtain ⟨h1, h2⟩ := key (List.cons_ne_nil i (j :: r))
    exact Int.le_antisymm (hm _ h1) (h2 m h)
theorem insI_perm (x : Int) : ∀ l : List Int, (insI x l).Perm (x :: l)
  | [] => List.Perm.refl _
  | y :: r => by
    unfold insI
    split
    · exact List.Perm.refl _
    · exact ((insI_perm x r).cons y).trans (List.Perm.swap x y r)
theorem sortI_perm : ∀ l : List Int, (sortI l).Perm l
  | [] => List.Perm.refl _
  | x :: r => (insI_perm x (sortI r)).trans ((sortI_perm r).cons x)
theorem insI_sorted (x : Int) : ∀ l : List Int, l.Pairwise (· ≤ ·) → (insI x l).Pairwise (· ≤ ·)
  | [], _ => by simp [insI]
  | y :: r, h => by
    rw [List.pairwise_cons] at h
    unfold insI
    split
    · rename_i c
      rw [List.pairwise_cons]
      refine ⟨fun z hz => ?_, by rw [List.pairwise_cons]; exact h⟩
      rcases List.mem_cons.mp hz with rfl | hz
      · exact c
      · exact Int.le_trans c (h.1 z hz)
    · rename_i c
      rw [List.pairwise_cons]
      refine ⟨fun z hz => ?_, insI_sorted x r h.2⟩
      rcases List.mem_cons.mp ((insI_perm x r).mem_iff.mp hz) with rfl | hz
      · omega
      · exact h.1 z hz
theorem sortI_sorted : ∀ l : List Int, (sortI l).Pairwise (· ≤ ·)
  | [] => List.Pairwise.nil
  | x :: r => insI_sorted x _ (sortI_sorted r)
theorem sorted_unique : ∀ {l m : List Int}, l.Perm m → l.Pairwise (· ≤ ·) → m.Pairwise (· ≤ ·) → l = m := by
  intro l m p hl hm
  exact p.eq_of_pairwise (fun a b _ _ h1 h2 => Int.le_antisymm h1 h2) hl hm
theorem Rlk.length0 {κ : Type} {n : Nat} : ∀ {fs : List (κ × D)} {fv : List (κ × V)}, Rlk g μ n H fs fv → fs.length = fv.length
  | [], fv, r => by unfold Rlk at r; subst r; rfl
  | (k, d) :: fs, fv, r => by
    unfold Rlk at r
    obtain ⟨x, ys, rfl, h1, h2⟩ := r
    simp [Rlk.length0 h2]
theorem bltOp_sound {b : BF} {ds : List D} {xs : List V} (s : Sim g μ S H) (r : Rls g μ S.length H ds xs) (h : (bltOp b ds S).want (Kv g μ S.length H Q) X0) : rBlt g.K b xs H Q := by
  unfold bltOp at h
  split at h
  · obtain ⟨x, rfl, r1⟩ := r.one_inv
    obtain ⟨a, ys, rfl, h1, h2⟩ := r1.tup_inv
    exact .inl ⟨a, ys, rfl, .inr h1, by rw [← h2.length]; exact Kv.here h s Rl.int_i⟩
  · obtain ⟨x, rfl, r1⟩ := r.one_inv
    obtain ⟨a, ys, rfl, h1, h2⟩ := r1.rol_inv
    exact .inl ⟨a, ys, rfl, .inl h1.l, by rw [← h2.length]; exact Kv.here h s Rl.int_i⟩
  · obtain ⟨x, rfl, r1⟩ := r.one_inv
    split at h
    · rename_i c
      rw [r1.str_inv]
      exact .inr (.inl ⟨_, rfl, by rw [← LIM_eq]; exact c, Kv.here h s Rl.int_i⟩)
    · exact absurd h id
  · obtain ⟨x, rfl, r1⟩ := r.one_inv
    rename_i l
    obtain ⟨rfl, _⟩ := r1.ref_inv
    split at h
    · rename_i ys q
      obtain ⟨zs, h1, h2⟩ := s.cell l _ q
      exact .inl ⟨_, zs, rfl, .inl (.inl (.inl h1)), by rw [← h2.length]; exact Kv.here h s Rl.int_i⟩
    · rename_i kvs q
      obtain ⟨zs, h1, h2⟩ := s.cell l _ q
      exact .inr (.inr ⟨_, zs, rfl, h1, by rw [← Rlk.length0 h2]; exact Kv.here h s Rl.int_i⟩)
    · exact absurd h id
  · obtain ⟨x, rfl, r1⟩ := r.one_inv
    rw [r1.int_inv]
    exact .inl ⟨_, rfl, Kv.here h s Rl.int_i⟩
  · obtain ⟨x, rfl, r1⟩ := r.one_inv
    rw [r1.bl_inv]
    exact .inr ⟨_, rfl, Kv.here h s Rl.int_i⟩
  · obtain ⟨x, rfl, r1⟩ := r.one_inv
    rw [r1.int_inv]
    exact .inl ⟨_, rfl, Kv.here h s Rl.bl_i⟩
  · obtain ⟨x, rfl, r1⟩ := r.one_inv
    rw [r1.bl_inv]
    exact .inr ⟨_, rfl, Kv.here h s Rl.bl_i⟩
  · obtain ⟨x, rfl, r1⟩ := r.one_inv
    obtain ⟨a, ys, e, h1, h2⟩ := r1.tup_inv
    subst e
    exact ⟨a, ys, rfl, .inr ⟨h1, Kv.here h s r1⟩⟩
  · obtain ⟨x, rfl, r1⟩ := r.one_inv
    obtain ⟨rfl, _⟩ := r1.ref_inv
    split at h
    · rename_i ys q
      obtain ⟨zs, h1, h2⟩ := getL_sound s q
      refine ⟨_, zs, rfl, .inl ⟨h1, fun p hp => ?_⟩⟩
      obtain ⟨z1, z2, z3⟩ := s.atup hp h2
      exact h _ _ _ z2 z1 z3
    · exact absurd h id
  · obtain ⟨x, rfl, r1⟩ := r.one_inv
    obtain ⟨a, ys, rfl, h1, h2⟩ := r1.tup_inv
    refine ⟨a, ys, rfl, .inr h1, fun p hp => ?_⟩
    obtain ⟨z1, z2, z3⟩ := s.alst hp h2
    exact h _ _ _ z2 z1 z3
  · obtain ⟨x, rfl, r1⟩ := r.one_inv
    obtain ⟨a, ys, rfl, h1, h2⟩ := r1.rol_inv
    refine ⟨a, ys, rfl, .inl h1.l, fun p hp => ?_⟩
    obtain ⟨z1, z2, z3⟩ := s.alst hp h2
    exact h _ _ _ z2 z1 z3
  · obtain ⟨x, rfl, r1⟩ := r.one_inv
    obtain ⟨rfl, _⟩ := r1.ref_inv
    split at h
    · rename_i ys q
      obtain ⟨zs, h1, h2⟩ := getL_sound s q
      refine ⟨_, zs, rfl, .inl h1, fun p hp => ?_⟩
      obtain ⟨z1, z2, z3⟩ := s.alst hp h2
      exact h _ _ _ z2 z1 z3
    · exact absurd h id
  · obtain ⟨x, y, rfl, r1, r2⟩ := r.two_inv
    rw [r1.int_inv, r2.int_inv]
    exact ⟨_, _, rfl, Kv.here h s Rl.int_i⟩
  · obtain ⟨x, y, rfl, r1, r2⟩ := r.two_inv
    rw [r1.int_inv, r2.int_inv]
    exact ⟨_, _, rfl, Kv.here h s Rl.int_i⟩
  · obtain ⟨x, rfl, r1⟩ := r.one_inv
    rw [r1.int_inv]
    exact ⟨_, rfl, Kv.here h s Rl.int_i⟩
  · obtain ⟨x, rfl, r1⟩ := r.one_inv
    obtain ⟨rfl, _⟩ := r1.ref_inv
    split at h
    · rename_i ys q
      obtain ⟨zs, h1, h2⟩ := getL_sound s q
      split at h
      · rename_i bs q2
        rw [blsOf_sound q2 h2] at h1
        exact ⟨_, bs, rfl, h1, Kv.here h s Rl.bl_i⟩
      · exact absurd h id
    · exact absurd h id
  · obtain ⟨x, rfl, r1⟩ := r.one_inv
    obtain ⟨rfl, _⟩ := r1.ref_inv
    split at h
    · rename_i ys q
      obtain ⟨zs, h1, h2⟩ := getL_sound s q
      split at h
      · rename_i bs q2
        rw [blsOf_sound q2 h2] at h1
        exact ⟨_, bs, rfl, h1, Kv.here h s Rl.bl_i⟩
      · exact absurd h id
    · exact absurd h id
  · obtain ⟨x, rfl, r1⟩ := r.one_inv
    obtain ⟨rfl, _⟩ := r1.ref_inv
    split at h
    · rename_i ys q
      obtain ⟨zs, h1, h2⟩ := getL_sound s q
      split at h
      · rename_i bs q2
        rw [intsOf_sound q2 h2] at h1
        exact ⟨_, bs, rfl, h1, Kv.here h s Rl.int_i⟩
      · exact absurd h id
    · exact absurd h id
  · obtain ⟨x, rfl, r1⟩ := r.one_inv
    obtain ⟨rfl, _⟩ := r1.ref_inv
    split at h
    · rename_i ys q
      obtain ⟨zs, h1, h2⟩ := getL_sound s q
      split at h
      · rename_i i is q2
        rw [intsOf_sound q2 h2] at h1
        refine ⟨_, i :: is, rfl, h1, Nat.succ_pos _, fun m hm hle => ?_⟩
        rw [← minI_eq hm hle]
        exact Kv.here h s Rl.int_i
      · exact absurd h id
    · exact absurd h id
  · obtain ⟨x, rfl, r1⟩ := r.one_inv
    obtain ⟨rfl, _⟩ := r1.ref_inv
    split at h
    · rename_i ys q
      obtain ⟨zs, h1, h2⟩ := getL_sound s q
      split at h
      · rename_i i is q2
        rw [intsOf_sound q2 h2] at h1
        refine ⟨_, i :: is, rfl, h1, Nat.succ_pos _, fun m hm hle => ?_⟩
        rw [← maxI_eq hm hle]
        exact Kv.here h s Rl.int_i
      · exact absurd h id
    · exact absurd h id
  · obtain ⟨x, rfl, r1⟩ := r.one_inv
    obtain ⟨rfl, _⟩ := r1.ref_inv
    split at h
    · rename_i ys q
      obtain ⟨zs, h1, h2⟩ := getL_sound s q
      split at h
      · rename_i is q2
        rw [intsOf_sound q2 h2] at h1
        refine ⟨_, is, rfl, h1, fun ns' p hp hs hn => ?_⟩
        rw [sorted_unique (hp.trans (sortI_perm is).symm) hs (sortI_sorted is)]
        obtain ⟨z1, z2, z3⟩ := s.alst hn (Rls.ints (sortI is))
        exact h _ _ _ z2 z1 z3
      · exact absurd h id
    · exact absurd h id
  · exact absurd h id
theorem Rls.eraseIdx' {n : Nat} (k : Nat) : ∀ {ds : List D} {xs : List V}, Rls g μ n H ds xs → Rls g μ n H (ds.eraseIdx k) (xs.eraseIdx k) := by
  intro ds xs h
  rw [List.eraseIdx_eq_take_drop_succ, List.eraseIdx_eq_take_drop_succ]
  exact (h.take _).append (h.drop _)
theorem bmOp_sound {m : BM} {ds : List D} {xs : List V} (s : Sim g μ S H) (rx : Rl g μ S.length H dx x) (r : Rls g μ S.length H ds xs) (h : (bmOp m dx ds S).want (Kv g μ S.length H Q) X0) : rBM g.K m x xs H Q := by
  unfold bmOp at h
  split at h
  · obtain ⟨y, rfl, r1⟩ := r.one_inv
    obtain ⟨rfl, _⟩ := rx.ref_inv
    split at h
    · rename_i ys q
      split at h
      · rename_i c
        obtain ⟨zs, h1, h2⟩ := s.lst q
        refine ⟨_, zs, y, rfl, rfl, h1, by rw [← h2.length, ← LIM_eq]; exact c, ?_⟩
        obtain ⟨z1, z2⟩ := s.wlst q (Rls.append h2 (Rls.one r1))
        exact h _ _ _ z2 z1 Rl.non_i
      · exact absurd h id
    · exact absurd h id
  · obtain rfl := r.nil_inv
    obtain ⟨rfl, _⟩ := rx.ref_inv
    split at h
    · rename_i ys q
      split at h
      · rename_i d q2
        obtain ⟨zs, h1, h2⟩ := s.lst q
        obtain ⟨v, h3, h4⟩ := h2.get q2
        refine ⟨_, zs, v, rfl, rfl, h1, by rw [← h2.length]; exact h3, ?_⟩
        have e1 : zs.dropLast = zs.take (zs.length - 1) := List.dropLast_eq_take
        have e2 : ys.dropLast = ys.take (ys.length - 1) := List.dropLast_eq_take
        have h5 : Rls g μ S.length H ys.dropLast zs.dropLast := by rw [e1, e2, h2.length]; exact h2.take _
        obtain ⟨z1, z2⟩ := s.wlst q h5
        exact h _ _ _ z2 z1 (Rl.ext z2 _ _ h4)
      · exact absurd h id
    · exact absurd h id
  · obtain ⟨y, rfl, r1⟩ := r.one_inv
    obtain ⟨rfl, _⟩ := rx.ref_inv
    obtain rfl := r1.int_inv
    split at h
    · rename_i ys q
      split at h
      · rename_i k q2
        split at h
        · rename_i d q3
          split at h
          · rename_i c
            simp only [small62, Bool.and_eq_true, decide_eq_true_eq] at c
            obtain ⟨zs, h1, h2⟩ := s.lst q
            obtain ⟨v, h3, h4⟩ := h2.get q3
            have hl := h2.length
            refine ⟨_, zs, _, k, v, rfl, rfl, h1, by omega, by omega, by rw [← hl]; exact (ixN_seq q2).1, h3, ?_⟩
            obtain ⟨z1, z2⟩ := s.wlst q (Rls.eraseIdx' k h2)
            exact h _ _ _ z2 z1 (Rl.ext z2 _ _ h4)
          · exact absurd h id
        · exact absurd h id
      · exact absurd h id
    · exact absurd h id
  · obtain ⟨y, rfl, r1⟩ := r.one_inv
    obtain ⟨rfl, _⟩ := rx.ref_inv
    split at h
    · rename_i ys q
      split at h
      · rename_i c
        rw [Bool.and_eq_true] at c
        split at h
        · rename_i j q2
          obtain ⟨zs, h1, h2⟩ := s.lst q
          obtain ⟨f1, f2⟩ := inSeq_all r1 c.1 h2 c.2
          obtain ⟨hj, e1, e2⟩ := List.findIdx?_eq_some_iff_getElem.mp q2
          have hg : ys[j]? = some ys[j] := List.getElem?_eq_getElem hj
          obtain ⟨v, h3, h4⟩ := h2.get hg
          have fl : ∀ (m : Nat) (d : D), ys[m]? = some d → flatD d = true := fun m d e => List.all_eq_true.mp c.2 d (List.mem_of_getElem? e)
          refine ⟨_, zs, y, j, v, rfl, rfl, .inl (.inl h1), flat_sound r1 c.1, f1, h3, by rw [eqv_sound h4 r1 (fl _ _ hg) c.1]; exact e1, fun m z' hm hz => ?_, Kv.here h s Rl.int_i⟩
          have hm2 : m < ys.length := by omega
          obtain ⟨v', h5, h6⟩ := h2.get (List.getElem?_eq_getElem hm2)
          rw [hz] at h5
          cases h5
          rw [eqv_sound h6 r1 (fl _ _ (List.getElem?_eq_getElem hm2)) c.1]
          simpa using e2 m hm
        · exact absurd h id
      · exact absurd h id
    · exact absurd h id
  · obtain ⟨y, rfl, r1⟩ := r.one_inv
    obtain ⟨rfl, _⟩ := rx.ref_inv
    obtain rfl := r1.int_inv
    split at h
    · rename_i ys q
      split at h
      · rename_i is q2
        obtain ⟨zs, h1, h2⟩ := s.lst q
        rw [intsOf_sound q2 h2] at h1
        exact ⟨_, is, _, rfl, rfl, .inl (.inl h1), Kv.here h s Rl.int_i⟩
      · exact absurd h id
    · exact absurd h id
  · obtain ⟨y, rfl, r1⟩ := r.one_inv
    obtain ⟨rfl, _⟩ := rx.ref_inv
    obtain ⟨rfl, _⟩ := r1.ref_inv
    split at h
    · rename_i ys ws q1 q2
      split at h
      · rename_i c
        obtain ⟨zs, h1, h2⟩ := s.lst q1
        obtain ⟨vs, h3, h4⟩ := s.lst q2
        refine ⟨_, _, zs, vs, rfl, rfl, h1, h3, by rw [← h2.length, ← h4.length, ← LIM_eq]; exact c, ?_⟩
        obtain ⟨z1, z2⟩ := s.wlst q1 (Rls.append h2 h4)
        exact h _ _ _ z2 z1 Rl.non_i
      · exact absurd h id
    · exact absurd h id
  · exact absurd h id
/-! ### fields -/
theorem getF_sound {n : Nat} {f : Str} : ∀ {fs : Fs} {fv : List (Str × V)} {d : D}, Rlk g μ n H fs fv → getF f fs = some d → ∃ v, fv.lookup f = some v ∧ Rl g μ n H d v ∧ (f, d) ∈ fs
  | [], fv, d, r, e => by cases e
  | (k, a) :: fs, fv, d, r, e => by
    unfold Rlk at r
    obtain ⟨x, ys, rfl, h1, h2⟩ := r
    unfold getF at e
    split at e
    · rename_i c
      subst c
      cases e
      exact ⟨x, by simp, h1, List.mem_cons_self⟩
    · rename_i c
      obtain ⟨v, h3, h4, h5⟩ := getF_sound h2 e
      refine ⟨v, ?_, h4, List.mem_cons_of_mem _ h5⟩
      rw [List.lookup_cons]
      have : (f == k) = false := by simpa using fun z => c z.symm
      rw [this]
      exact h3
theorem getF_none {n : Nat} {f : Str} : ∀ {fs : Fs} {fv : List (Str × V)}, Rlk g μ n H fs fv → getF f fs = none → fv.lookup f = none
  | [], fv, r, e => by unfold Rlk at r; subst r; rfl
  | (k, a) :: fs, fv, r, e => by
    unfold Rlk at r
    obtain ⟨x, ys, rfl, h1, h2⟩ := r
    unfold getF at e
    split at e
    · cases e
    · rename_i c
      rw [List.lookup_cons]
      have : (f == k) = false := by simpa using fun z => c z.symm
      rw [this]
      exact getF_none h2 e
theorem putD_sound {n : Nat} {f : Str} {d : D} {v : V} (hv : Rl g μ n H d v) : ∀ {fs : Fs} {fv : List (Str × V)}, Rlk g μ n H fs fv → Rlk g μ n H (putD f d fs) (putF f v fv)
  | [], fv, r => by
    unfold Rlk at r
    subst r
    show Rlk g μ n H [(f, d)] [(f, v)]
    unfold Rlk
    exact ⟨v, [], rfl, hv, by unfold Rlk; rfl⟩
  | (k, a) :: fs, fv, r => by
    unfold Rlk at r
    obtain ⟨x, ys, rfl, h1, h2⟩ := r
    unfold putD putF
    split
    · exact ⟨v, ys, rfl, hv, h2⟩
    · exact ⟨x, _, rfl, h1, putD_sound hv h2⟩
theorem putD_mem {f k : Str} {d e : D} : ∀ {fs : Fs}, (k, e) ∈ putD f d fs → k = f ∨ (k, e) ∈ fs
  | [], h => by simp [putD] at h; exact .inl h.1
  | (j, a) :: fs, h => by
    unfold putD at h
    split at h
    · rename_i c
      rcases List.mem_cons.mp h with h | h
      · injection h with h1 h2
        exact .inl (h1.trans c)
      · exact .inr (List.mem_cons_of_mem _ h)
    · rcases List.mem_cons.mp h with h | h
      · rw [h]
        exact .inr List.mem_cons_self
      · rcases putD_mem h with h | h
        · exact .inl h
        · exact .inr (List.mem_cons_of_mem _ h)
theorem hasF_mem {f : Str} : ∀ {fs : Fs}, hasF f fs = true → ∃ d, (f, d) ∈ fs
  | [], h => by cases h
  | (j, a) :: fs, h => by
    unfold hasF at h
    rw [Bool.or_eq_true, decide_eq_true_eq] at h
    rcases h with h | h
    · subst h
      exact ⟨a, List.mem_cons_self⟩
    · obtain ⟨d, h⟩ := hasF_mem h
      exact ⟨d, List.mem_cons_of_mem _ h⟩
theorem Rlk.length {κ : Type} {n : Nat} : ∀ {fs : List (κ × D)} {fv : List (κ × V)}, Rlk g μ n H fs fv → fs.length = fv.length
  | [], fv, r => by unfold Rlk at r; subst r; rfl
  | (k, a) :: fs, fv, r => by
    unfold Rlk at r
    obtain ⟨x, ys, rfl, h1, h2⟩ := r
    simp [Rlk.length h2]
theorem getFld_sound {f : Str} {d : D} (s : Sim g μ S H) (rx : Rl g μ S.length H dx x) (e : getFld dx f S = some d) :
    ∃ a C dp fs v, x = .ref a ∧ H a = some (.ins C dp fs) ∧ Cls g.K C ∧ NoAttr g.K C f ∧ fs.lookup f = some v ∧ Rl g μ S.length H d v ∧ ∃ c, clsAt dx S = some c ∧ C = g.C c := by
  unfold getFld at e
  split at e
  · rename_i l
    obtain ⟨rfl, _⟩ := rx.ref_inv
    split at e
    · rename_i c fs q
      obtain ⟨dp, fv, h1, h2, h3⟩ := s.cell l _ q
      obtain ⟨v, h4, h5, h6⟩ := getF_sound h2 e
      obtain ⟨h7, h8⟩ := h3 _ _ h6
      exact ⟨_, _, dp, fv, v, rfl, h1, h7, h8, h4, h5, c, by simp [clsAt, q], rfl⟩
    · cases e
  · cases e
theorem setFld_sound {na : Nat → Str → Bool} {f : Str} {S' : Store} (hna : ∀ c f, na c f = true → Cls g.K (g.C c) ∧ NoAttr g.K (g.C c) f) (s : Sim g μ S H) (rx : Rl g μ S.length H dx x) (ry : Rl g μ S.length H dy y) (e : setFld na dx dy f S = some S') :
    ∃ a C dp fs, x = .ref a ∧ H a = some (.ins C dp fs) ∧ Cls g.K C ∧ NoAttr g.K C f ∧ fs.length < 1000 ∧ Sim g μ S' (upd H a (.ins C dp (putF f y fs))) ∧ Ext g μ S.length H μ S'.length (upd H a (.ins C dp (putF f y fs))) ∧ ∃ c, clsAt dx S = some c ∧ C = g.C c := by
  unfold setFld at e
  split at e
  · rename_i l
    obtain ⟨rfl, l1⟩ := rx.ref_inv
    split at e
    · rename_i c fs q
      split at e
      · rename_i b
        cases e
        rw [Bool.and_eq_true, decide_eq_true_eq, Bool.or_eq_true] at b
        obtain ⟨dp, fv, h1, h2, h3⟩ := s.cell l _ q
        have hc : Cls g.K (g.C c) ∧ NoAttr g.K (g.C c) f := by
          rcases b.2 with b | b
          · obtain ⟨d, hd⟩ := hasF_mem b
            exact h3 _ _ hd
          · exact hna c f b
        have ex : Ext g μ S.length H μ S.length (upd H (μ l) (.ins (g.C c) dp (putF f y fv))) := Ext.mut h1 (by intro _ z; cases z) (by intro _ _ z; cases z) (by intro _ z; cases z)
        obtain ⟨z1, z2⟩ := s.write (c := .ins c (putD f dy fs)) l1 h1 (by intro _ _ z; cases z) ⟨dp, _, upd_same, putD_sound (Rl.ext ex _ _ ry) (Rlk.ext ex _ _ h2), fun k d hd => by
          rcases putD_mem hd with hk | hd
          · rw [hk]; exact hc
          · exact h3 _ _ hd⟩
        exact ⟨_, _, dp, fv, rfl, h1, hc.1, hc.2, by rw [← h2.length]; exact b.1, z1, z2, c, by simp [clsAt, q], rfl⟩
      · cases e
    · cases e
  · cases e
theorem setIdx_sound {dz : D} {z : V} {S' : Store} (s : Sim g μ S H) (rx : Rl g μ S.length H dx x) (ry : Rl g μ S.length H dy y) (rz : Rl g μ S.length H dz z) (e : setIdx dx dy dz S = some S') :
    ∃ p xs k j, x = .ref p ∧ y = .int k ∧ H p = some (.lst xs) ∧ ixN xs.length k = some j ∧ Sim g μ S' (upd H p (.lst (xs.set j z))) ∧ Ext g μ S.length H μ S'.length (upd H p (.lst (xs.set j z))) := by
  unfold setIdx at e
  split at e
  · rename_i l
    obtain ⟨rfl, l1⟩ := rx.ref_inv
    split at e
    · rename_i ds q
      split at e
      · rename_i k
        split at e
        · rename_i j q2
          cases e
          obtain ⟨xs, h1, h2⟩ := s.lst q
          obtain ⟨z1, z2⟩ := s.wlst q (h2.set j rz)
          exact ⟨_, xs, k, j, rfl, ry.int_inv, h1, by rw [← h2.length]; exact q2, z1, z2⟩
        · cases e
      · cases e
    · cases e
  · cases e
theorem getLI_sound {d : D} (s : Sim g μ S H) (rx : Rl g μ S.length H dx x) (ry : Rl g μ S.length H dy y) (e : getLI dx dy S = some d) : ∃ p xs i v, x = .ref p ∧ y = .int i ∧ H p = some (.lst xs) ∧ atI xs i = some v ∧ Rl g μ S.length H d v := by
  unfold getLI at e
  split at e
  · obtain ⟨rfl, l1⟩ := rx.ref_inv
    obtain rfl := ry.int_inv
    split at e
    · rename_i ds q
      obtain ⟨xs, h1, h2⟩ := s.lst q
      obtain ⟨v, h3, h4⟩ := atI_Rls h2 e
      exact ⟨_, xs, _, v, rfl, rfl, h1, h3, h4⟩
    · cases e
  · cases e
end
end VI

set_option Elab.async false
set_option linter.all false
set_option maxRecDepth 100000
set_option maxHeartbeats 2000000
/-! VIz: walks of enumerate(a tuple), zip(a text, a tuple). -/
namespace VI
open PySem PySem.Spec PyProof.Rows L2
/-- enumerate(t): a new pair each turn -/
def IteT (K : PySem.W.Frag) (a : Addr) : It where
  go := fun i H => ∃ (xs : List V) (x : V), SqT K H a xs ∧ xs[i]? = some x
  yld := fun i H v H' => ∃ T x, v = .ref T ∧ H T = none ∧ H' = upd H T (.tup [.int (i : Nat), x]) ∧ ∀ xs, SqT K H a xs → xs[i]? = some x
  stop := fun i H => ∃ xs : List V, SqT K H a xs ∧ xs.length = i
theorem meets_enum_tup (t : Addr) (items : Array Value) :
    Meets (Builtin.«enumerate.__new__» ⟨[.type "enumerate", .ref t], []⟩) (fun _ R s => s.heap.IsTuple t items ∧
      R (.ok (.ret (.ref (s.heap.push { cls := .type "tuple_iterator", data := .fields #[.ref t, .int 0 0] }).objs.size)))
        { s with heap := (s.heap.push { cls := .type "tuple_iterator", data := .fields #[.ref t, .int 0 0] }).push { cls := .type "enumerate", data := .fields #[.none, .bool false, .ref s.heap.objs.size, rawInt 0, .none, .none] } }) :=
  .of_wp fun prog w A R s h => by
    obtain ⟨hp, g, d, tk, os⟩ := s
    obtain ⟨hl, h⟩ := h
    have hsub := sub_enumerate
    have hT : Heap.IsTuple (Shared.heap ⟨hp, g, d, tk, os⟩) t items := hl
    wp_walk using wpAny_pyIter_tuple hT
    refine wpAny_stack_any fun st => wpAny_pure ?_
    split
    · rename_i c _ _ _ _ _
      cases (c == Value.type "enumerate")
      · wp_walk using wpAny_pyIter_tuple hT
        exact ⟨_, rfl, h⟩
      · wp_walk using wpAny_pyIter_tuple hT
        exact ⟨_, rfl, h⟩
    · wp_walk using wpAny_pyIter_tuple hT
      exact ⟨_, rfl, h⟩
section
variable {prog : Program} {w : World} {A : Around} {E : Value → Shared → Prop} {s : Shared}
theorem call_enum_tup {t : Addr} {items : Array Value} {Q : Value → Shared → Prop} (hL : s.heap.IsTuple t items)
    (h : ∀ h', IsEnum h' (s.heap.objs.size + 1) s.heap.objs.size 0 .none → h'.IsTupleIter s.heap.objs.size t 0 → h'.objs.size = s.heap.objs.size + 2 →
      (∀ b o, s.heap.get? b = some o → h'.get? b = some o) → Q (.ref (s.heap.objs.size + 1)) { s with heap := h' }) : wpAny (model prog w) A (call (.type "enumerate") [.ref t]) Q E s := by
  refine callType_new F.called_enumerate (by decide) (F.typeCall_enumerate_1 _) (F.newCall_enumerate_1 _) (fun obj => F.args_object_init_2 obj _) F.entry_enumerate_new (meets_enum_tup t items) ⟨hL, ?_⟩
  generalize hi : ({ cls := .type "tuple_iterator", data := .fields #[.ref t, .int 0 0] } : Obj) = oi
  have hz : (s.heap.push oi).objs.size = s.heap.objs.size + 1 := Heap.size_push ..
  have hfi : oi.isFreed = false := by subst hi; rfl
  show _ ∧ _
  rw [hz]
  have he : IsEnum ((s.heap.push oi).push { cls := .type "enumerate", data := .fields #[.none, .bool false, .ref s.heap.objs.size, rawInt 0, .none, .none] }) (s.heap.objs.size + 1) s.heap.objs.size 0 .none := by
    have q := Heap.get?_push_size (s.heap.push oi) (o := { cls := .type "enumerate", data := .fields #[.none, .bool false, .ref s.heap.objs.size, rawInt 0, .none, .none] }) rfl
    rw [hz] at q
    exact q
  have old : ∀ b o, s.heap.get? b = some o → ((s.heap.push oi).push { cls := .type "enumerate", data := .fields #[.none, .bool false, .ref s.heap.objs.size, rawInt 0, .none, .none] }).get? b = some o := fun b o x => Heap.get?_push_of_some _ (Heap.get?_push_of_some _ x)
  have hit : ((s.heap.push oi).push { cls := .type "enumerate", data := .fields #[.none, .bool false, .ref s.heap.objs.size, rawInt 0, .none, .none] }).IsTupleIter s.heap.objs.size t 0 := by
    refine ⟨oi, Heap.get?_push_of_some _ (Heap.get?_push_size _ hfi), ?_, ?_⟩
    · subst hi; rfl
    · subst hi; rfl
  exact ⟨⟨_, he, rfl⟩, h _ he hit (by rw [Heap.size_push, hz]) old⟩
end
theorem turn_enumT {P : Program} {w : World} {K : PySem.W.Frag} {elts : List Expr} {kk : Nat} {tpos : Pos} (a e it : Addr) :
    Turn P w K (.Tuple elts kk tpos) (IteT K a) [e, it] e (fun i h => (∃ old, IsEnum h e it ((i : Nat) : Int) old) ∧ h.IsTupleIter it a i ∧ e ≠ it ∧ a ≠ it ∧ a ≠ e) where
  mem := by simp
  obj := fun i h st b hb => by
    obtain ⟨⟨old, he⟩, ⟨o, ho, hc, hd⟩, _⟩ := st
    have e' : b = e ∨ b = it := by simpa using hb
    rcases e' with rfl | rfl
    · exact ⟨_, he, fun v q => nomatch q⟩
    · exact ⟨o, ho, fun v q => by rw [hd] at q; cases q⟩
  keep := fun i h h' st k => by
    obtain ⟨⟨old, he⟩, hi, r⟩ := st
    exact ⟨⟨old, k e (by simp) _ he⟩, hi.at fun o q => k it (by simp) o q, r⟩
  item := by
    intro X hP hw hK hc i pins s σ H E I hf st hg
    subst hP hw hK
    obtain ⟨⟨old, he⟩, hit, hne, hai, hae⟩ := st
    obtain ⟨xs, x, hq, hx⟩ := hg
    obtain ⟨its, rv, p, hz⟩ := I.tuple hq
    obtain ⟨u, hu, ru⟩ := rv.get hx
    have hel : e < s.heap.objs.size := Heap.lt_size he
    have hil : it < s.heap.objs.size := by obtain ⟨_, q, _⟩ := hit; exact Heap.lt_size q
    have hlt : i < its.toArray.size := by
      have := (List.getElem?_eq_some_iff.mp hu).1
      simpa using this
    have hh : X.A.in1.handled = none := I.ok.hd hc
    refine wpAny_pyNext_enum_itemD (Draws.tuple (A := X.A.in1) hh it a hai its.toArray) he ⟨hit, p⟩ hlt hne (by simp [hne, Ne.symm hae]) fun x' h' tk hx' ho hst hT hsz hk => ?_
    have ex : x' = u := by
      have h1 : its[i]? = some x' := by simpa using hx'
      rw [hu] at h1
      exact (Option.some.inj h1).symm
    subst ex
    refine ⟨_, rfl, wpAny_letOwnedTupleGo_enum (s := { s with heap := h', toks := tk + 1 }) ho fun h'' he' sb => ?_⟩
    have hT2 : h''.get? s.heap.objs.size = some { cls := .type "tuple", data := .seq #[.int i tk, x'] } := (sb.2 _ (Nat.ne_of_gt hel)).trans hT
    have new : ObjOk X.prog X.w (upd H s.heap.objs.size (.tup [.int (i : Nat), x])) h'' s.heap.objs.size (.tup [.int (i : Nat), x]) :=
      ⟨by show 2 ≤ sizeLine; decide, [.int i tk, x'], .cons ⟨_, rfl⟩ (.cons ru .nil), ⟨_, hT2, rfl, _, rfl⟩⟩
    have I1 : Inv X pins σ (upd H s.heap.objs.size (.tup [.int (i : Nat), x])) { s with heap := h'', toks := tk + 1 } := by
      refine I.turnedNew (ch := [e, it]) (fun b ob hb q => ?_) hf (Nat.le_refl _) new
      have hbe : b ≠ e := fun z => hb (by simp [z])
      have hbi : b ≠ it := fun z => hb (by simp [z])
      exact (sb.2 b hbe).trans (hk b ob hbe hbi q)
    have new2 : (IteT X.K a).yld i H (.ref s.heap.objs.size) (upd H s.heap.objs.size (.tup [.int (i : Nat), x])) :=
      ⟨_, x, rfl, I.hok.fresh (Nat.le_refl _), rfl, fun ys hy => by rw [I.tuple_inj hy hq]; exact hx⟩
    refine ⟨.ref s.heap.objs.size, _, I1, rfl, new2, ⟨⟨x', ?_⟩, hst.1.at fun o q => (sb.2 it (Ne.symm hne)).trans q, hne, hai, hae⟩, fun b hb => ?_⟩
    · have e1 : ((i + 1 : Nat) : Int) = (i : Int) + 1 := by omega
      rw [e1]
      exact he'
    · have hb' : b < s.heap.objs.size := by
        have e' : b = e ∨ b = it := by simpa using hb
        rcases e' with rfl | rfl
        · exact hel
        · exact hil
      rw [upd_ne (Nat.ne_of_lt hb')]
      exact (hf b hb).1
  done := by
    intro X hP hw hK hc i pins s σ H E I hf st hg
    subst hP hw hK
    obtain ⟨⟨old, he⟩, hit, hne, hai, hae⟩ := st
    obtain ⟨xs, hq, hx⟩ := hg
    obtain ⟨its, rv, p, hz⟩ := I.tuple hq
    obtain ⟨f0, f1, f2, f3, f4, f5⟩ := hf it (by simp)
    have hl : its.toArray.size = i := by
      have := rv.length
      simp
      omega
    have hh : X.A.in1.handled = none := I.ok.hd hc
    refine wpAny_pyNext_enum_endD (Draws.tuple (A := X.A.in1) hh it a hai its.toArray) he ⟨by rw [hl]; exact hit, p⟩ fun h' eb => ⟨rfl, ?_⟩
    exact I.turned (t' := s.toks) (fun b o hb q => eb b o hb q) f0 f1 f3 f4 f5
  self := fun A i s Q E st h => by
    obtain ⟨⟨_, he⟩, _⟩ := st
    exact wpAny_pyIter_enum he h
/-- enumerate over a list or a tuple -/
def iEnumX (K : PySem.W.Frag) (ta : TA) : TI := fun σ H R => ta σ H fun vs H1 => ∃ a xs, vs = [.ref a] ∧ ((SqL K H1 a xs ∧ R (Ite K a) H1) ∨ (SqT K H1 a xs ∧ R (IteT K a) H1))
theorem pi_enumX {X : Cx} {e : Expr} {ta : TA} {q pos tpos : Pos} {elts : List Expr} {kk : Nat} (hg : Gl X "enumerate") (hm : X.mg "enumerate" = none) (ha : PA X [e] ta) (hs : starEach [e] X.env = [(false, eval e X.env)] := by rfl) :
    PI X (.Tuple elts kk tpos) (.Call (.Name "enumerate" q) [e] [] pos) (iEnumX X.K ta) := by
  constructor
  intro pins s σ H R I h
  refine Call_ (ld_blt I hg hm boot_enumerate (PyProof.Rows.callWith_type1 (thn (ha.run pos pins s σ H _ I h) fun us s1 ⟨vs, H1, I1, r1, q1⟩ => ?_) hs rfl))
  obtain ⟨a, xs, rfl, q1⟩ := q1
  cases r1 with
  | cons r rr =>
    cases rr
    cases r
    have cells : ∀ b ∈ [s1.heap.objs.size + 1, s1.heap.objs.size], FpOk X pins H1 b := fun b hb => by
      have e' : b = s1.heap.objs.size + 1 ∨ b = s1.heap.objs.size := by simpa using hb
      have hle : s1.heap.objs.size ≤ b := by omega
      exact I1.fpOk hle (I1.hok.fresh hle)
    rcases q1 with ⟨hq, z⟩ | ⟨hq, z⟩
    · obtain ⟨its, rv, p', hz⟩ := I1.list hq
      refine call_enumerate_list p'.isList fun h' he hit hsz hk => wpAny_pyIter_enum he ?_
      exact ⟨s1.heap.objs.size + 1, [s1.heap.objs.size + 1, s1.heap.objs.size], _, _, H1, rfl, I1.kept (t' := s1.toks) hk, turn_enum a (s1.heap.objs.size + 1) s1.heap.objs.size, ⟨⟨.none, he⟩, hit, Nat.succ_ne_self _⟩, cells, z⟩
    · obtain ⟨its, rv, p', hz⟩ := I1.tuple hq
      have hlt : a < s1.heap.objs.size := by obtain ⟨_, q, _⟩ := id p'; exact Heap.lt_size q
      refine call_enum_tup p' fun h' he hit hsz hk => wpAny_pyIter_enum he ?_
      exact ⟨s1.heap.objs.size + 1, [s1.heap.objs.size + 1, s1.heap.objs.size], _, _, H1, rfl, I1.kept (t' := s1.toks) hk, turn_enumT a (s1.heap.objs.size + 1) s1.heap.objs.size, ⟨⟨.none, he⟩, hit, Nat.succ_ne_self _, Nat.ne_of_lt hlt, Nat.ne_of_lt (Nat.lt_succ_of_lt hlt)⟩, cells, z⟩
/-! ### zip(a text, a tuple) -/
/-- zip(x, t): a new pair each turn -/
def ItzS (K : PySem.W.Frag) (z : Str) (b : Addr) : It where
  go := fun i H => ∃ (ys : List V) (y : V) (c : Nat), SqT K H b ys ∧ ys[i]? = some y ∧ z.cps[i]? = some c
  yld := fun i H v H' => ∃ T y c, v = .ref T ∧ H T = none ∧ H' = upd H T (.tup [.str ⟨#[c]⟩, y]) ∧ z.cps[i]? = some c ∧ ∀ ys, SqT K H b ys → ys[i]? = some y
  stop := fun i H => ∃ ys : List V, SqT K H b ys ∧ i ≤ ys.length ∧ i ≤ z.cps.size ∧ (i = z.cps.size ∨ i = ys.length)
theorem turn_zipS {P : Program} {w : World} {K : PySem.W.Frag} {elts : List Expr} {kk : Nat} {tpos : Pos} {x : Str} {t : Tok} {b z TI TO i1 i2 : Addr} (D : ZipSep2 z TI TO i1 i2 [i1] [i2, b]) (hb : b ≠ TI) :
    Turn P w K (.Tuple elts kk tpos) (ItzS K x b) [z, TI, TO, i1, i2] z (fun i h => IsZip h z TI TO .none ∧ IsTupOf2 h TI (.ref i1) (.ref i2) ∧ (∃ x y, IsTupOf2 h TO x y) ∧ h.IsStrIter i1 (strIterType x) x t i ∧ h.IsTupleIter i2 b i) where
  mem := by simp
  obj := fun i h st c hc => by
    obtain ⟨hz, hTI, ⟨x', y, hTO⟩, s1, ⟨o2, e2, _, d2⟩⟩ := st
    have e' : c = z ∨ c = TI ∨ c = TO ∨ c = i1 ∨ c = i2 := by simpa using hc
    rcases e' with rfl | rfl | rfl | rfl | rfl
    · exact ⟨_, hz, fun v q => nomatch q⟩
    · exact ⟨_, hTI, fun v q => nomatch q⟩
    · exact ⟨_, hTO, fun v q => nomatch q⟩
    · obtain ⟨o1, e1, _, d1⟩ := s1
      exact ⟨o1, e1, fun v q => by rw [d1] at q; cases q⟩
    · exact ⟨o2, e2, fun v q => by rw [d2] at q; cases q⟩
  keep := fun i h h' st k => by
    obtain ⟨hz, hTI, ⟨x', y, hTO⟩, h1, h2⟩ := st
    exact ⟨k z (by simp) _ hz, k TI (by simp) _ hTI, ⟨x', y, k TO (by simp) _ hTO⟩, (by obtain ⟨o, e, r⟩ := h1; exact ⟨o, k i1 (by simp) o e, r⟩), h2.at fun o q => k i2 (by simp) o q⟩
  item := by
    intro X hP hw hK hc i pins s σ H E I hf st hg
    subst hP hw hK
    obtain ⟨hz, hTI, ⟨x0, y0, hTO⟩, h1, h2⟩ := st
    obtain ⟨ys, y, c, hqy, hy, hx⟩ := hg
    obtain ⟨its, rv, p, _⟩ := I.tuple hqy
    obtain ⟨u, hu, ru⟩ := rv.get hy
    have hzl : z < s.heap.objs.size := Heap.lt_size hz
    have hh : X.A.in1.handled = none := I.ok.hd hc
    have hi2b : b ≠ i2 := fun e => by
      have := D.sep2_1
      obtain ⟨o, ho, hcl, _⟩ := h2
      obtain ⟨o', ho', hcl', _⟩ := p
      rw [e] at ho'
      rw [ho] at ho'
      cases ho'
      rw [hcl] at hcl'
      injection hcl' with e3
      exact absurd e3 (by decide +kernel)
    have hlt1 : i < x.cps.size := (Array.getElem?_eq_some_iff.mp hx).1
    have hlt2 : i < its.toArray.size := by
      have := (List.getElem?_eq_some_iff.mp hu).1
      simpa using this
    refine wpAny_pyNext_zipD2_item D (Draws.text (A := X.A.in1) hh i1 x t) (Draws.tuple (A := X.A.in1) hh i2 b hi2b its.toArray) hz hTI hTO h1 ⟨h2, p⟩ hlt1 hlt2 fun x1 x2 h' tk q1 q2 z' TO' st1 st2 hT hsz hk => ?_
    obtain ⟨c', tu, hc', rfl⟩ := q1
    rw [hx] at hc'
    cases hc'
    have ex : x2 = u := by
      have h1 : its[i]? = some x2 := by simpa using q2
      rw [hu] at h1
      exact (Option.some.inj h1).symm
    subst ex
    refine ⟨_, rfl, wpAny_letOwnedTupleGo_zip (s := { s with heap := h', toks := tk }) z' fun h'' z'' sb => ?_⟩
    have hT2 : h''.get? s.heap.objs.size = some { cls := .type "tuple", data := .seq #[.str ⟨#[c]⟩ tu, x2] } := (sb.2 _ (Nat.ne_of_gt hzl)).trans hT
    have new : ObjOk X.prog X.w (upd H s.heap.objs.size (.tup [.str ⟨#[c]⟩, y])) h'' s.heap.objs.size (.tup [.str ⟨#[c]⟩, y]) :=
      ⟨by show 2 ≤ sizeLine; decide, [.str ⟨#[c]⟩ tu, x2], .cons ⟨_, rfl⟩ (.cons ru .nil), ⟨_, hT2, rfl, _, rfl⟩⟩
    have I1 : Inv X pins σ (upd H s.heap.objs.size (.tup [.str ⟨#[c]⟩, y])) { s with heap := h'', toks := tk } := by
      refine I.turnedNew (t' := tk) (ch := [z, TI, TO, i1, i2]) (fun c o hb q => ?_) hf (Nat.le_refl _) new
      have n1 : c ≠ z := fun q' => hb (by simp [q'])
      exact (sb.2 c n1).trans (hk c o n1 (fun q' => hb (by simp [q'])) (fun q' => hb (by simp [q'])) (fun q' => hb (by simp [q'])) q)
    have new2 : (ItzS X.K x b).yld i H (.ref s.heap.objs.size) (upd H s.heap.objs.size (.tup [.str ⟨#[c]⟩, y])) :=
      ⟨_, y, c, rfl, I.hok.fresh (Nat.le_refl _), rfl, hx, fun l hl => by rw [I.tuple_inj hl hqy]; exact hy⟩
    have TITO := D.TITO
    refine ⟨.ref s.heap.objs.size, _, I1, rfl, new2, ⟨z'', ?_, ⟨.str ⟨#[c]⟩ tu, x2, ?_⟩, ?_, ?_⟩, fun c hcm => ?_⟩
    · exact (sb.2 _ D.TIz).trans (hk _ _ D.TIz D.TITO D.TIi1 D.TIi2 hTI)
    · exact (sb.2 _ D.TOz).trans TO'
    · obtain ⟨o, e, r⟩ := st1
      exact ⟨o, (sb.2 _ (Ne.symm D.zi1)).trans e, r⟩
    · exact st2.1.at fun o q => (sb.2 _ (Ne.symm D.zi2)).trans q
    · have hlt : c < s.heap.objs.size := by
        have e' : c = z ∨ c = TI ∨ c = TO ∨ c = i1 ∨ c = i2 := by simpa using hcm
        rcases e' with rfl | rfl | rfl | rfl | rfl
        · exact hzl
        · exact Heap.lt_size hTI
        · exact Heap.lt_size hTO
        · obtain ⟨_, e1, _⟩ := h1; exact Heap.lt_size e1
        · obtain ⟨_, e2, _⟩ := h2; exact Heap.lt_size e2
      rw [upd_ne (Nat.ne_of_lt hlt)]
      exact (hf c hcm).1
  done := by
    intro X hP hw hK hc i pins s σ H E I hf st hg
    subst hP hw hK
    obtain ⟨hz, hTI, ⟨x0, y0, hTO⟩, h1, h2⟩ := st
    obtain ⟨ys, hqy, l1, l2, hend⟩ := hg
    obtain ⟨its, rv, p, _⟩ := I.tuple hqy
    have hl : its.toArray.size = ys.length := by simpa using rv.length.symm
    have hh : X.A.in1.handled = none := I.ok.hd hc
    have hi2b : b ≠ i2 := fun e => by
      obtain ⟨o, ho, hcl, _⟩ := h2
      obtain ⟨o', ho', hcl', _⟩ := p
      rw [e] at ho'
      rw [ho] at ho'
      cases ho'
      rw [hcl] at hcl'
      injection hcl' with e3
      exact absurd e3 (by decide +kernel)
    refine wpAny_pyNext_zipD2_end D (Draws.text (A := X.A.in1) hh i1 x t) (Draws.tuple (A := X.A.in1) hh i2 b hi2b its.toArray) hz hTI hTO h1 ⟨h2, p⟩ l2 (by omega) (by omega) fun h' tk hk => ⟨rfl, ?_⟩
    refine I.turnedL (t' := tk) (ch := [z, TI, TO, i1, i2]) (fun c o hb q => ?_) hf
    exact hk c o (fun q' => hb (by simp [q'])) (fun q' => hb (by simp [q'])) (fun q' => hb (by simp [q'])) (fun q' => hb (by simp [q'])) q
  self := fun A i s Q E st h => wpAny_pyIter_zip st.1 h
/-- zip of two lists, two tuples, or a text and a tuple -/
def iZipX (K : PySem.W.Frag) (ta : TA) : TI := fun σ H R => RZ.iZipA K ta σ H R ∨ ta σ H fun vs H1 => ∃ z b ys, vs = [.str z, .ref b] ∧ SqT K H1 b ys ∧ R (ItzS K z b) H1
theorem pi_zipX {X : Cx} {e e2 : Expr} {ta : TA} {q pos tpos : Pos} {elts : List Expr} {kk : Nat} (hg : Gl X "zip") (hm : X.mg "zip" = none) (ha : PA X [e, e2] ta)
    (hs : starEach [e, e2] X.env = (false, eval e X.env) :: starEach [e2] X.env := by rfl) (hpl : (backTo pos (starEach [e2] X.env)).any (·.1) = false := by rfl) :
    PI X (.Tuple elts kk tpos) (.Call (.Name "zip" q) [e, e2] [] pos) (iZipX X.K ta) := by
  constructor
  intro pins s σ H R I h
  rcases h with h | h
  · exact (RZ.pi_zipA hg hm ha hs hpl).run pins s σ H R I h
  refine Call_ (ld_blt I hg hm PyProof.Rows.boot_zip (PyProof.Rows.callWith_type1 (thn (ha.run pos pins s σ H _ I h) fun us s1 ⟨vs, H1, I1, r1, q1⟩ => ?_) hs hpl))
  obtain ⟨zt, b, ys, rfl, hq, z⟩ := q1
  cases r1 with
  | cons r rr =>
    cases rr with
    | cons r' rr =>
      cases rr
      obtain ⟨tk, rfl⟩ := r
      cases r'
      have cells : ∀ c ∈ [s1.heap.objs.size + 4, s1.heap.objs.size + 2, s1.heap.objs.size + 3, s1.heap.objs.size, s1.heap.objs.size + 1], FpOk X pins H1 c := fun c hcm => by
        have e' : c = s1.heap.objs.size + 4 ∨ c = s1.heap.objs.size + 2 ∨ c = s1.heap.objs.size + 3 ∨ c = s1.heap.objs.size ∨ c = s1.heap.objs.size + 1 := by simpa using hcm
        have hle : s1.heap.objs.size ≤ c := by omega
        exact I1.fpOk hle (I1.hok.fresh hle)
      obtain ⟨its, rv, p1, _⟩ := I1.tuple hq
      have hlt : b < s1.heap.objs.size := by obtain ⟨_, q, _⟩ := id p1; exact Heap.lt_size q
      refine zip_begins2 (begins_text zt tk) (begins_tuple b its.toArray) trivial p1 fun h' hz hTI hTO g1 g2 hsz hk => wpAny_pyIter_zip hz ?_
      have nb : ∀ k, b ≠ s1.heap.objs.size + k := fun k e => Nat.lt_irrefl b (Nat.lt_of_lt_of_le hlt (by rw [e]; exact Nat.le_add_right _ _))
      have apart : ZipSep2 (s1.heap.objs.size + 4) (s1.heap.objs.size + 2) (s1.heap.objs.size + 3) s1.heap.objs.size (s1.heap.objs.size + 1) [s1.heap.objs.size] [s1.heap.objs.size + 1, b] := by
        have n0 := nb 0
        have n2 := nb 2
        have n3 := nb 3
        have n4 := nb 4
        constructor <;> simp [Ne.symm n4, Ne.symm n3, Ne.symm n2, Ne.symm n0]
        exact Ne.symm n0
      refine ⟨s1.heap.objs.size + 4, _, _, _, H1, rfl, I1.kept (t' := s1.toks) hk, turn_zipS (t := tk) apart (nb 2), ⟨hz, hTI, ⟨_, _, hTO⟩, ⟨_, g1, rfl, rfl⟩, ⟨_, g2, rfl, rfl⟩⟩, cells, z⟩
end VI

set_option Elab.async false
set_option linter.all false
set_option maxRecDepth 100000
set_option maxHeartbeats 4000000
/-! VIw0: set(a list of ints). -/
namespace VI
open PySem PySem.Spec PyProof.Rows L2
section
variable {P : Program} {w : World} {A : Around} {E : Value → Shared → Prop} {s : Shared}
theorem call_set_lstI {l : Addr} {items : Array Value} (ns : List Int) {Q : Value → Shared → Prop} (hh : A.handled = none) (hl : s.heap.IsList l items) (hit : IntsAre items.toList ns) (hb : ns.length + 1 < scanBound)
    (h : ∀ (h' : Heap) (tk c : Nat), SetR w h' s.heap.objs.size (fun j => decide (j ∈ ns)) c → c ≤ ns.length → (∀ b o, s.heap.get? b = some o → h'.get? b = some o) → Q (.ref s.heap.objs.size) { s with heap := h', toks := tk }) :
    wpAny (model P w) A (call (.type "set") [.ref l]) Q E s := by
  have hisz : items.size = ns.length := by
    have q := IntsAre.length hit
    rw [Array.length_toList] at q
    exact q
  obtain ⟨c, tl, hmro⟩ := F.called_set.mro
  have hmade := F.called_set.made
  have hsub := F.called_set.sub
  refine wpAny_call (codeAny_of_tree ?_)
  show wpAny _ _ (callAny (.type "set") _) _ _ _
  refine wpAny_pure ⟨Code.quiet_builtin _ (by decide +kernel), codeAny_builtin F.entry_type_call ?_⟩
  rw [Around.under_plain (weight_type_call_type "set" [.ref l] []) rfl]
  have h1 := F.called_set.notType
  have h2 := F.called_set.canCreate
  have hct := F.typeCall_set_1 (.ref l)
  repeat (any_goals (first | assumption | wp_step))

  refine codeAny_mono (code_set_led1 (.ref l) (E := E) (Q₁ := fun obj s₁ => obj = .ref s.heap.objs.size ∧ s₁ = { s with heap := s.heap.push { cls := .type "set", dict := none, data := .set #[] 0 (.fresh 0 0 (!w.params.followText "set-order")) } }) ⟨rfl, rfl⟩) fun r s₁ hr => ?_
  cases r with
  | error e => exact hr
  | ok fl =>
    cases fl with
    | ret obj =>
      obtain ⟨rfl, rfl⟩ := hr
      have hS : (s.heap.push { cls := .type "set", dict := none, data := .set #[] 0 (.fresh 0 0 (!w.params.followText "set-order")) }).get? s.heap.objs.size = some { cls := .type "set", dict := none, data := .set #[] 0 (.fresh 0 0 (!w.params.followText "set-order")) } := Heap.get?_push_size _ rfl
      have hT : Shared.TypeIs { s with heap := s.heap.push { cls := .type "set", dict := none, data := .set #[] 0 (.fresh 0 0 (!w.params.followText "set-order")) } } (.ref s.heap.objs.size) "set" := ⟨_, hS, rfl⟩
      have hli := F.called_set.init.lookup
      have hbi := F.called_set.init.bind (.ref s.heap.objs.size)
      repeat (any_goals (first | assumption | wp_step))

      refine codeAny_mono (codeAny_call_builtin (R := wants (fun r s₂ => r = .none ∧ ∃ h' tk c, s₂ = { s with heap := h', toks := tk } ∧ SetR w h' s.heap.objs.size (fun j => decide (j ∈ ns)) c ∧ c ≤ ns.length ∧
          (∀ b o, s.heap.get? b = some o → h'.get? b = some o)) E) F.called_set.init.plain F.entry_set_init (check_set_init_1 hT ?_)) fun r₂ s₂ hr₂ => ?_
      · obtain ⟨ol, hol, hcl, nl, hdl⟩ := hl
        obtain ⟨ocls, odict, odata, oslots⟩ := ol
        simp only at hcl hdl
        subst hcl; subst hdl
        have hol' : (s.heap.push { cls := .type "set", dict := none, data := .set #[] 0 (.fresh 0 0 (!w.params.followText "set-order")) }).get? l = some { cls := .type "list", dict := odict, data := .seq items nl, slots := oslots } := Heap.get?_push_of_some _ hol
        have hsls := F.sub_list_set
        have hslf := F.sub_list_frozenset
        have hne : (Value.type "list" == Value.type "dict") = false := by decide
        have hl1 : (s.heap.push { cls := .type "set", dict := none, data := .set #[] 0 (.fresh 0 0 (!w.params.followText "set-order")) }).IsList l items := ⟨_, hol', rfl, nl, rfl⟩
        unfold Builtin.«set.__init__» noKeywords Builtin.Frozenset.updateFrom
        generalize hPI : pyIter = PI
        wp_walk
        subst hPI

        refine wpAny_pyIter_list hl1 ?_
        refine wpAny_bind (wpAny_runValue ?_)
        have hlS : l < s.heap.objs.size := Heap.lt_size hol
        have hh3 : A.in1.in1.in1.handled = none := by simp [hh]
        have hz1 : (s.heap.push { cls := .type "set", dict := none, data := .set #[] 0 (.fresh 0 0 (!w.params.followText "set-order")) }).objs.size = s.heap.objs.size + 1 := Heap.size_push ..
        have hneI : l ≠ (s.heap.push { cls := .type "set", dict := none, data := .set #[] 0 (.fresh 0 0 (!w.params.followText "set-order")) }).objs.size := by
          rw [Heap.size_push]; exact Nat.ne_of_lt (Nat.lt_succ_of_lt hlS)
        have hSf : s.heap.objs.size ∉ [(s.heap.push { cls := .type "set", dict := none, data := .set #[] 0 (.fresh 0 0 (!w.params.followText "set-order")) }).objs.size, l] := by
          rw [Heap.size_push]; simp only [List.mem_cons, List.mem_singleton, List.not_mem_nil, or_false, not_or]
          exact ⟨Nat.ne_of_lt (Nat.lt_succ_self _), Nat.ne_of_gt hlS⟩
        have hval : ∀ (i : Nat) (v : Value), items[i]? = some v → ∃ k t, ns[i]? = some k ∧ v = .int k t := fun i v hv => by
          have hi : i < ns.length := by rw [← hisz]; exact (Array.getElem?_eq_some_iff.mp hv).1
          obtain ⟨t, e⟩ := PyProof.Rows.IntsAre.int_at hit i v (by rw [Array.getElem?_toList]; exact hv)
          refine ⟨ns[i], t, List.getElem?_eq_getElem hi, ?_⟩
          rw [e, List.getD_eq_getElem?_getD, List.getElem?_eq_getElem hi] <;> rfl
        refine set_update_ints ((Walks.list hh3 _ l hneI items).toS) s.heap.objs.size
          hSf ns hisz hb hval (items.size - 0) 0 _ (by omega) (Nat.zero_le _)
          ⟨⟨_, Heap.get?_push_size _ rfl, rfl, rfl⟩, (hl1.push _)⟩ ?hS0 ?hR
        case hS0 =>
          have hget : ((s.heap.push { cls := .type "set", dict := none, data := .set #[] 0 (.fresh 0 0 (!w.params.followText "set-order")) }).push { cls := .type "list_iterator", data := .fields #[.ref l, .int 0 0] }).get? s.heap.objs.size
              = some { cls := .type "set", dict := none, data := .set #[] 0 (.fresh 0 0 (!w.params.followText "set-order")) } := Heap.get?_push_of_some _ hS
          exact ⟨0, Nat.le_refl 0, setR_new_at hget⟩
        case hR =>
          intro s' c' hm hc' hS'
          obtain ⟨h', g2, d', tk', os'⟩ := s'
          have eg : g2 = s.gens := hm.gens
          have ed : d' = s.drawn := hm.drawn
          have eo : os' = s.os := hm.os
          subst eg; subst ed; subst eo
          show wpAny _ _ _ _ _ _
          refine wpAny_pure ?_
          show wpAny _ _ (ret Value.none) _ _ _
          rw [hisz] at hc'
          refine wpAny_pure ⟨rfl, h', tk', c', rfl, hS', hc', fun b o e => ?_⟩
          have hb0 : b < s.heap.objs.size := Heap.lt_size e
          have hb1 : b ≠ s.heap.objs.size := Nat.ne_of_lt hb0
          have hb2 : b ≠ (s.heap.push { cls := .type "set", dict := none, data := .set #[] 0 (.fresh 0 0 (!w.params.followText "set-order")) }).objs.size := by
            rw [Heap.size_push]; exact Nat.ne_of_lt (Nat.lt_succ_of_lt hb0)
          exact hm.heap b o (by simp only [List.mem_cons, List.mem_singleton, List.not_mem_nil, or_false, not_or]; exact ⟨hb1, hb2⟩) (Heap.get?_push_of_some _ (Heap.get?_push_of_some _ e))

      · cases r₂ with
        | error e => exact hr₂
        | ok fl₂ =>
          cases fl₂ with
          | ret r =>
            obtain ⟨rfl, h', tk, c', rfl, hS', hc', hk'⟩ := hr₂
            repeat (any_goals (first | assumption | wp_step))
            exact h _ _ _ hS' hc' hk'
          | _ => exact hr₂.elim
    | _ => exact hr.elim
end
end VI

set_option Elab.async false
set_option linter.all false
set_option maxRecDepth 100000
set_option maxHeartbeats 4000000
/-! VIw: dicts, sorted(d.items()), sorted(set(..)). -/
namespace VI
open PySem PySem.Spec PyProof.Rows L2
theorem pe_imp0 {X : Cx} {e : Expr} {t t' : TE} (h : PE X e t) (k : ∀ σ H Q, t' σ H Q → t σ H Q) : PE X e t' := ⟨fun pins s σ H Q I q => h.run pins s σ H Q I (k σ H Q q)⟩
/-! ### sorted(d.items()), ints to ints -/
def pairAt (h : Heap) (v : Value) : Int × Int := match v with
  | .ref a => match h.get? a with
    | some o => match o.data with
      | .seq xs _ => match xs.toList with
        | [.int i _, .int j _] => (i, j)
        | _ => (0, 0)
      | _ => (0, 0)
    | none => (0, 0)
  | _ => (0, 0)
def kvI (p : Int × Int) : L2.Key × V := (.inl p.1, .int p.2)
def rSrtIt : V → Hp → VK → Prop := fun x H Q => ∃ (d : Addr) (ps : List (Int × Int)), x = .ref d ∧ H d = some (.dK (ps.map kvI)) ∧ ∀ (H' : Hp) (l : Addr) (zs : List (Addr × Int × Int)), (∀ b o, H b = some o → H' b = some o) → H l = none → (zs.map (·.2)).Perm ps →
  (zs.map (·.2)).Pairwise (fun x y => SrtO.lexB y x = false) → H' l = some (.lst (zs.map fun z => V.ref z.1)) → (∀ z ∈ zs, H' z.1 = some (.tup [.int z.2.1, .int z.2.2])) → Q (.ref l) H'
def tSrtItems (te : TE) : TE := fun σ H Q => te σ H fun x H1 => rSrtIt x H1 Q
theorem pairs_get {K : Type} [DecidableEq K] {P : Program} {w : World} {knd : KeyKind P w K} : ∀ {es : List DictEntry} {kvs : List (K × Value)}, Pairs knd es kvs → ∀ {j : Nat} {e : DictEntry}, es[j]? = some e → ∃ p, kvs[j]? = some p ∧ knd.is p.1 e.key = true ∧ e.val = p.2
  | _, _, .nil, j, e, h => by simp at h
  | _, _, .cons h1 h2 t, 0, e, h => by
    simp at h
    subst h
    exact ⟨_, rfl, h1, h2⟩
  | _, _, .cons h1 h2 t, j + 1, e, h => by
    simp only [List.getElem?_cons_succ] at h ⊢
    exact pairs_get t h
section
variable {X : Cx} {e : Expr} {te : TE} {p apos cpos pos : Pos}
theorem run_sortedItems {pins : List (Addr × Obj)} {σ : L2.St} {H : Hp} {s : Shared} {Q : VK} {v d : Addr} (hc : X.calm = true) (I : L2.Inv X pins σ H s) (view : s.heap.IsItemsView v d) (q0 : rSrtIt (.ref d) H Q) :
    wpAny (model X.prog X.w) X.A (call (.builtin "sorted") [.ref v]) (EP X pins σ Q) X.xe s := by
  obtain ⟨d', ps, ed, ha, q⟩ := q0
  cases ed
  obtain ⟨hz, hd, vs, rel, o, es, ep, ho, hx, hdat, hes, hps, hn⟩ := dk_of I.hok ha
  have l1 : (ps.map kvI).length = vs.length := Paired.length rel
  rw [List.length_map] at l1
  have l2 : es.size = vs.length := by
    have := hps.length
    rw [Array.length_toList] at this
    exact this
  have hz' : ps.length ≤ sizeLine := by rw [List.length_map] at hz; exact hz
  have hh : X.A.handled = none := I.ok.hd hc
  refine DT.sortedI (es := es) (ep := ep) hh view ⟨o, ho, hx, hdat⟩ (by omega) fun h' tk as hk hlt hl hG => ?_
  have lak : as.length = ps.length := by omega
  have nd : as.Nodup := List.Pairwise.imp (fun h => Nat.ne_of_lt h) hG.rise
  have pr : ∀ (j : Nat) (b : Addr), as[j]? = some b → ∃ (e : Int × Int) (t u : Tok), ps[j]? = some e ∧ h'.get? b = some { cls := .type "tuple", data := .seq #[.int e.1 t, .int e.2 u] } := by
    intro j b hj
    obtain ⟨en, he, hg⟩ := hG.pairs j b hj
    have he' : es.toList[j]? = some en := by rw [Array.getElem?_toList]; exact he
    obtain ⟨p0, hp1, hp2, hp3⟩ := pairs_get hps he'
    obtain ⟨e0, he0, r1, r2⟩ := DX.pget rel hp1
    rw [List.getElem?_map] at he0
    cases hkj : ps[j]? with
    | none => rw [hkj] at he0; cases he0
    | some e =>
      rw [hkj] at he0
      have ee : kvI e = e0 := Option.some.inj he0
      subst ee
      have rk : RelV (kV (Sum.inl e.1)) en.key := by
        have : (kvI e).1 = p0.1 := r1
        have hp2' : keyIs p0.1 en.key = true := hp2
        rw [← this] at hp2'
        exact relV_key hp2'
      obtain ⟨t, et⟩ := rk
      obtain ⟨u, eu⟩ := (r2 : RelV (.int e.2) p0.2)
      refine ⟨e, t, u, rfl, ?_⟩
      rw [hg, et, hp3, eu]
  have hob : (h'.push { cls := .type "list", data := .seq (as.map Value.ref).toArray }).get? h'.objs.size = some (seqObj "list" (as.map Value.ref).toArray 0) := Heap.get?_push_size _ rfl
  have kb : ∀ b o, s.heap.get? b = some o → (h'.push { cls := .type "list", data := .seq (as.map Value.ref).toArray }).get? b = some o := fun b o e => Heap.get?_push_of_some _ (hk b o e)
  have ne0 : ∀ b o, h'.get? b = some o → b ≠ h'.objs.size := fun b o e => Nat.ne_of_lt (Heap.lt_size e)
  generalize hh2 : h'.push { cls := .type "list", data := .seq (as.map Value.ref).toArray } = h2 at hob kb ⊢
  have ka : ∀ b o, h'.get? b = some o → h2.get? b = some o := fun b o e => by rw [← hh2]; exact Heap.get?_push_of_some _ e
  have kp : ∀ (j : Nat) (b : Addr) (e : Int × Int), as[j]? = some b → ps[j]? = some e → pairAt h2 (.ref b) = e := by
    intro j b e hj he
    obtain ⟨e', t, u, he', hg⟩ := pr j b hj
    rw [he] at he'
    cases he'
    unfold pairAt
    dsimp only
    rw [ka _ _ hg]
  have at_ : ∀ v ∈ as.map Value.ref, ∃ (j : Nat) (b : Addr) (e : Int × Int), v = .ref b ∧ as[j]? = some b ∧ ps[j]? = some e := by
    intro v hv'
    obtain ⟨b, hb, rfl⟩ := List.mem_map.mp hv'
    obtain ⟨j, hj⟩ := List.mem_iff_getElem?.mp hb
    obtain ⟨e, _, _, he, _⟩ := pr j b hj
    exact ⟨j, b, e, rfl, hj, he⟩
  have hp : ∀ v ∈ as.map Value.ref, Srt.IsPair h2 v (pairAt h2 v).1 (pairAt h2 v).2 := by
    intro v hv'
    obtain ⟨j, b, e, rfl, hj, he⟩ := at_ v hv'
    obtain ⟨e', t, u, he', hg⟩ := pr j b hj
    rw [he] at he'
    cases he'
    rw [kp j b e hj he]
    exact ⟨b, _, t, u, _, rfl, ka _ _ hg, rfl, rfl⟩
  refine wpAny_call_entry PyProof.Rows.slot_list_sort ⟨_, hob, rfl⟩ PyProof.Rows.entry_list_sort
    (SrtO.list_sort_ord (SrtO.swo_lex (pairAt h2)) hob (by rw [List.length_map]; omega) (fun h2' => SrtO.pairs_sortableO (by omega) hp fun o e => ?_) fun out o1 o2 => ⟨.none, rfl, ?_⟩) (PyProof.Rows.args_list_sort _)
  · have e' : some o = some (seqObj "list" (as.map Value.ref).toArray 0) := e.symm.trans hob
    cases e'
    intro c
    exact absurd (Value.type.inj c) (by decide)
  · show EP X pins σ Q (.ref h'.objs.size) { s with heap := sortedHeap h2 h'.objs.size (as.map Value.ref) out.toArray, toks := tk }
    obtain ⟨zs, pz, ez⟩ := perm_lift (fun z : Addr × Int × Int => Value.ref z.1) o2.perm (as.zip ps) (by
      have m1 : (as.zip ps).map (·.1) = as := List.map_fst_zip (by rw [lak]; exact Nat.le_refl _)
      have : (as.zip ps).map (fun z => Value.ref z.1) = ((as.zip ps).map (·.1)).map Value.ref := by rw [List.map_map]; rfl
      rw [this, m1])
    have idx : ∀ z ∈ zs, ∃ j : Nat, as[j]? = some z.1 ∧ ps[j]? = some z.2 := by
      intro z' hz'
      obtain ⟨j, hj⟩ := List.mem_iff_getElem?.mp (pz.mem_iff.mp hz')
      exact ⟨j, List.getElem?_zip_eq_some.mp hj⟩
    have hout : out = zs.map fun z => Value.ref z.1 := ez.symm
    have hperm : (zs.map (·.2)).Perm ps := by
      have e := pz.map (·.2)
      have m2 : (as.zip ps).map (·.2) = ps := List.map_snd_zip (by rw [lak]; exact Nat.le_refl _)
      rw [m2] at e
      exact e
    have hsort : (zs.map (·.2)).Pairwise (fun x y => SrtO.lexB y x = false) := by
      have o1' : out.Pairwise (fun v u => SrtO.lexB (pairAt h2 u) (pairAt h2 v) = false) := o1
      rw [hout, List.pairwise_map] at o1'
      rw [List.pairwise_map]
      refine List.Pairwise.imp_of_mem (fun {x y} hx hy h => ?_) o1'
      obtain ⟨j, j1, j2⟩ := idx x hx
      obtain ⟨i, i1, i2⟩ := idx y hy
      rw [kp j _ _ j1 j2, kp i _ _ i1 i2] at h
      exact h
    have kF : ∀ b o, b ≠ h'.objs.size → h2.get? b = some o → (sortedHeap h2 h'.objs.size (as.map Value.ref) out.toArray).get? b = some o := fun b o hb e => (PyProof.Rows.sortedHeap_old hb (Heap.lt_size e)).trans e
    have kS : ∀ b o, s.heap.get? b = some o → (sortedHeap h2 h'.objs.size (as.map Value.ref) out.toArray).get? b = some o := fun b o e => kF b o (ne0 _ _ (hk b o e)) (kb b o e)
    obtain ⟨eF, heF⟩ := PyProof.Rows.sortedHeap_at (vs := as.map Value.ref) (out := out.toArray) hob
    have I1 : L2.Inv X pins σ H { s with heap := sortedHeap h2 h'.objs.size (as.map Value.ref) out.toArray, toks := tk } := I.kept (t' := tk) kS
    have hn0 : H h'.objs.size = none := I.hok.fresh (Nat.le_of_lt hlt)
    have hlen : (zs.map fun z => V.ref z.1).length ≤ sizeLine := by
      have e := hperm.length_eq
      rw [List.length_map] at e
      rw [List.length_map]
      omega
    have rv : Vals (zs.map fun z => V.ref z.1) out := by
      rw [hout]
      exact vals_maps (fun z : Addr × Int × Int => V.ref z.1) (fun z => Value.ref z.1) zs fun _ _ => rfl
    have I2 : L2.Inv X pins σ (upd H h'.objs.size (.lst (zs.map fun z => V.ref z.1))) { s with heap := sortedHeap h2 h'.objs.size (as.map Value.ref) out.toArray, toks := tk } :=
      I1.take (h' := sortedHeap h2 h'.objs.size (as.map Value.ref) out.toArray) (t' := tk) (fun b ob _ e => e) (I.fpOk (Nat.le_of_lt hlt) hn0) ⟨hlen, out, eF, rv, heF⟩
    obtain ⟨H2, I3, g, qt⟩ := DX.takeT (P := fun b vs => ∃ (j : Nat) (e : Int × Int), as[j]? = some b ∧ ps[j]? = some e ∧ vs = [.int e.1, .int e.2]) I as _ I2 nd fun b hb => by
      obtain ⟨j, hj⟩ := List.mem_iff_getElem?.mp hb
      obtain ⟨e, t, u, he, hg⟩ := pr j b hj
      have hbl : s.heap.objs.size ≤ b := Nat.le_of_lt (hG.above b hb)
      refine ⟨hbl, ?_, [.int e.1, .int e.2], ⟨j, e, hj, he, rfl⟩, fun H3 => ⟨(by rw [sizeLine_eq]; show 2 ≤ 16777216; omega), [Value.int e.1 t, Value.int e.2 u], .cons ⟨t, rfl⟩ (.cons ⟨u, rfl⟩ .nil), ⟨_, kF _ _ (ne0 _ _ hg) (ka _ _ hg), rfl, 0, rfl⟩⟩⟩
      rw [upd_ne (ne0 _ _ hg)]
      exact I.hok.fresh hbl
    have gr : ∀ b o, H b = some o → H2 b = some o := fun b o e => g b o (by rw [upd_ne (ne_of_none e hn0)]; exact e)
    refine ⟨.ref h'.objs.size, H2, I3, rfl, q H2 h'.objs.size zs gr hn0 hperm hsort (g _ _ upd_same) fun z' hz' => ?_⟩
    obtain ⟨i, i1, i2⟩ := idx z' hz'
    obtain ⟨vs, ⟨j, e, j1, j2, ev⟩, hH⟩ := qt z'.1 (List.mem_of_getElem? i1)
    have eij : i = j := (List.getElem?_inj (List.getElem?_eq_some_iff.mp i1).1 nd).mp (i1.trans j1.symm)
    subst eij
    have ee : e = z'.2 := Option.some.inj (j2.symm.trans i2)
    rw [ev, ee] at hH
    exact hH
theorem pe_srtItems (hc : X.calm = true) (he : PE X e te) (hg : Gl X "sorted") (hm : X.mg "sorted" = none) (hv : bootBuiltins "sorted" = some (.builtin "sorted")) (hbase : attributeBase e "items" X.env (eval e X.env) = eval e X.env := by rfl) (hline : (apos.endLine == cpos.line) = true := by rfl)
    (hs : starEach [.Call (.Attribute e "items" apos) [] [] cpos] X.env = (false, eval (.Call (.Attribute e "items" apos) [] [] cpos) X.env) :: starEach [] X.env := by rfl) :
    PE X (.Call (.Name "sorted" p) [.Call (.Attribute e "items" apos) [] [] cpos] [] pos) (tSrtItems te) := by
  refine ⟨fun pins s σ H Q I hq => ?_⟩
  refine wpAny_Call_Name_kw (ld_blt I hg hm hv ?_)
  refine PyProof.Rows.callWith_builtin1 (PyProof.Rows.args_cons ?_ hs) hs rfl
  refine wpAny_Call_method (T := "dict") (id := "dict.items") hbase rfl hline F.plainAttrs_dict F.slot_dict_items F.type_dict_items (thn (he.run pins s σ H _ I hq) fun u s1 ⟨x, H1, I1, rx, q⟩ => ?_)
  obtain ⟨d, ps, ex, hd, q⟩ := id q
  subst ex
  obtain rfl : u = Value.ref d := rx
  obtain ⟨hz, hs0, vs, kv, hdo⟩ := I1.hok d _ hd
  have I2 : L2.Inv X pins σ H1 { s1 with heap := s1.heap.push { cls := .type "dict_items", data := .fields #[.ref d] } } := I1.kept (t' := s1.toks) fun b ob q => Heap.get?_push_of_some _ q
  refine ⟨hdo.typeIs, hdo.mapOf.noDict, ?_⟩
  show wpAny _ _ (callWith cpos (.builtin "dict.items") [.ref d] [] []) _ X.xe s1
  refine method_meetsIn F.slot_dict_items F.entry_dict_items rfl (PySem.evalArgs_none ⟨rfl, hdo.typeIs, F.args_dict_items_1 _, _, meets_dict_items (mixKind X.prog X.w) d hs0, ⟨vs, hdo⟩, ?_⟩)
  refine PyProof.Rows.args_nil ?_
  exact run_sortedItems hc I2 ⟨_, Heap.get?_push_size _ rfl, rfl, rfl⟩ q
end
/-! ### sorted(set(x)), len(set(x)) -/
def SetSrc (K : PySem.W.Frag) (H : Hp) (x : V) (ns U : List Int) : Prop := (∃ l, x = .ref l ∧ (SqL K H l (ns.map V.int) ∨ SqT K H l (ns.map V.int))) ∧ (∀ k, k ∈ U ↔ k ∈ ns) ∧ U.Pairwise (· < ·) ∧ ns.length ≤ 4000
def tSrtSet (K : PySem.W.Frag) (te : TE) : TE := fun σ H Q => te σ H fun x H1 => ∃ ns U, SetSrc K H1 x ns U ∧ U.length < 64 ∧ ∀ l, H1 l = none → Q (.ref l) (upd H1 l (.lst (U.map V.int)))
def tLenSetX (K : PySem.W.Frag) (te : TE) : TE := fun σ H Q => te σ H fun x H1 => ∃ ns U, SetSrc K H1 x ns U ∧ Q (.int (U.length : Nat)) H1
theorem len_le_of_sub {α : Type} [DecidableEq α] : ∀ {l u : List α}, l.Nodup → (∀ x ∈ l, x ∈ u) → l.length ≤ u.length
  | [], u, _, _ => Nat.zero_le _
  | a :: l, u, hn, h => by
    obtain ⟨h1, h2⟩ := List.nodup_cons.mp hn
    have ha := h a List.mem_cons_self
    have := len_le_of_sub (u := u.erase a) h2 fun x hx => by
      have hx' := h x (List.mem_cons_of_mem _ hx)
      exact (List.mem_erase_of_ne (fun e => by subst e; exact h1 hx)).mpr hx'
    rw [List.length_erase_of_mem ha] at this
    have : 0 < u.length := List.length_pos_of_mem ha
    simp only [List.length_cons]
    omega
theorem lt_nodup : ∀ {l : List Int}, l.Pairwise (· < ·) → l.Nodup := fun h => h.imp fun h => Int.ne_of_lt h
/-- strictly ascending rows with the same members are one -/
theorem asc_uniq : ∀ {l m : List Int}, l.Pairwise (· < ·) → m.Pairwise (· < ·) → (∀ k, k ∈ l ↔ k ∈ m) → l = m
  | [], [], _, _, _ => rfl
  | [], y :: m, _, _, h => absurd ((h y).mpr List.mem_cons_self) (by simp)
  | x :: l, [], _, _, h => absurd ((h x).mp List.mem_cons_self) (by simp)
  | x :: l, y :: m, hl, hm, h => by
    obtain ⟨l1, l2⟩ := List.pairwise_cons.mp hl
    obtain ⟨m1, m2⟩ := List.pairwise_cons.mp hm
    have e : x = y := by
      rcases List.mem_cons.mp ((h x).mp List.mem_cons_self) with e | hx
      · exact e
      · rcases List.mem_cons.mp ((h y).mpr List.mem_cons_self) with e | hy
        · exact e.symm
        · have a := l1 y hy
          have b := m1 x hx
          omega
    subst e
    rw [asc_uniq l2 m2 fun k => ?_]
    constructor
    · intro hk
      rcases List.mem_cons.mp ((h k).mp (List.mem_cons_of_mem _ hk)) with e | hk'
      · have := l1 k hk
        omega
      · exact hk'
    · intro hk
      rcases List.mem_cons.mp ((h k).mpr (List.mem_cons_of_mem _ hk)) with e | hk'
      · have := m1 k hk
        omega
      · exact hk'
theorem setR_len {w : World} {h : Heap} {a : Addr} {n : Nat} {ns U : List Int} (R : SetR w h a (fun j => decide (j ∈ ns)) n) (hm : ∀ k, k ∈ U ↔ k ∈ ns) (hU : U.Pairwise (· < ·)) : n = U.length := by
  obtain ⟨o, es, ep, t, ho, hex, hd, g, nd, hS, hb, hf, hn, hr, hl⟩ := R
  have e1 : (es.toList.map L2.keyOf).length = n := by rw [List.length_map, Array.length_toList]; exact hn
  have a1 := len_le_of_sub (u := U) nd fun x hx => (hm x).mpr (of_decide_eq_true ((hS x).mpr hx))
  have a2 := len_le_of_sub (l := U) (u := es.toList.map L2.keyOf) (lt_nodup hU) fun x hx => (hS x).mp (decide_eq_true ((hm x).mp hx))
  omega
section
variable {X : Cx} {a : Expr} {ta : TE} {p p2 q pos : Pos}
/-- set(x) -/
theorem run_set {pins : List (Addr × Obj)} {σ : L2.St} {H : Hp} {s : Shared} {x : V} {v : Value} {ns U : List Int} {Q : Value → Shared → Prop} {E : Value → Shared → Prop} (hc : X.calm = true) (I : L2.Inv X pins σ H s) (rx : RelV x v) (S : SetSrc X.K H x ns U)
    (h : ∀ (a : Addr) (s' : Shared), SetR X.w s'.heap a (fun j => decide (j ∈ ns)) U.length → L2.Inv X pins σ H s' → Q (.ref a) s') : wpAny (model X.prog X.w) X.A (call (.type "set") [v]) Q E s := by
  obtain ⟨⟨l, rfl, hq⟩, hm, hU, hl⟩ := S
  obtain rfl : v = Value.ref l := rx
  rcases hq with hq | hq
  · obtain ⟨its, r, pl, hz⟩ := I.list hq
    refine call_set_lstI ns (I.ok.hd hc) pl.isList (by simpa using RZ.intsAre_vals r) (by unfold scanBound; omega) fun h' tk c R hc' hk => ?_
    refine h _ _ ?_ (I.kept (t' := tk) fun b o e => hk b o e)
    rw [← setR_len R hm hU]
    exact R
  · obtain ⟨its, r, pl, hz⟩ := I.tuple hq
    refine call_set_tupI ns (I.ok.hd hc) pl (by simpa using RZ.intsAre_vals r) (by unfold scanBound; omega) fun h' tk c R hc' hk => ?_
    refine h _ _ ?_ (I.kept (t' := tk) fun b o e => hk b o e)
    rw [← setR_len R hm hU]
    exact R
theorem pe_srtSet (hc : X.calm = true) (hg : Gl X "sorted") (hm : X.mg "sorted" = none) (hv : bootBuiltins "sorted" = some (.builtin "sorted")) (hg2 : Gl X "set") (hm2 : X.mg "set" = none) (ha : PE X a ta)
    (na : starEach [a] X.env = (false, eval a X.env) :: starEach [] X.env := by rfl) : PE X (.Call (.Name "sorted" p) [.Call (.Name "set" p2) [a] [] q] [] pos) (tSrtSet X.K ta) := by
  refine ⟨fun pins s σ H Q I h => ?_⟩
  refine Call_ (ld_blt I hg hm hv ?_)
  refine PyProof.Rows.callWith_builtin1 (PyProof.Rows.args_cons ?_ rfl) rfl rfl
  refine Call_ (ld_blt I hg2 hm2 boot_set ?_)
  refine PyProof.Rows.callWith_type1 (PyProof.Rows.args_cons (thn (ha.run pins s σ H _ I h) fun v s1 ⟨x, H1, I1, r1, ns, U, S, h64, q1⟩ => PyProof.Rows.args_nil ?_) na) na rfl
  refine run_set hc I1 r1 S fun b s2 R I2 => PyProof.Rows.args_nil ?_
  refine sorted_set R (I2.ok.hd hc) h64 fun s' p out c ks k g o hp hgo hi hs hmm hl => ?_
  have eU : ks = U := asc_uniq hs S.2.2.1 fun k => by rw [hmm k, decide_eq_true_eq, S.2.1 k]
  subst eU
  have hlen : (ks.map V.int).length ≤ sizeLine := by rw [List.length_map, sizeLine_eq]; omega
  have hn : H1 p = none := I2.hok.fresh hp
  have J : L2.Inv X pins σ (upd H1 p (.lst (ks.map V.int))) { s2 with heap := s'.heap, gens := s'.gens, drawn := s'.drawn, toks := s'.toks } :=
    I2.call (ch := []) (Un.laid k hp hn) (I2.hok.laid k hp ⟨hlen, out.toList, c, vals_of_ints hi, hgo⟩) (by rw [g]; exact I2.bare) (fun _ z => nomatch z)
  have e : s' = { s2 with heap := s'.heap, gens := s'.gens, drawn := s'.drawn, toks := s'.toks } := by
    cases s'
    cases s2
    cases o
    rfl
  rw [e]
  exact ⟨.ref p, _, J, rfl, q1 p hn⟩
theorem pe_lenSetX (hc : X.calm = true) (hg : Gl X "len") (hm : X.mg "len" = none) (hg2 : Gl X "set") (hm2 : X.mg "set" = none) (ha : PE X a ta)
    (na : starEach [a] X.env = (false, eval a X.env) :: starEach [] X.env := by rfl) : PE X (.Call (.Name "len" p) [.Call (.Name "set" p2) [a] [] q] [] pos) (tLenSetX X.K ta) := by
  refine ⟨fun pins s σ H Q I h => ?_⟩
  refine Call_ (ld_blt I hg hm boot_len ?_)
  refine PyProof.Rows.callWith_builtin1 (PyProof.Rows.args_cons ?_ rfl) rfl rfl
  refine Call_ (ld_blt I hg2 hm2 boot_set ?_)
  refine PyProof.Rows.callWith_type1 (PyProof.Rows.args_cons (thn (ha.run pins s σ H _ I h) fun v s1 ⟨x, H1, I1, r1, ns, U, S, q1⟩ => PyProof.Rows.args_nil ?_) na) na rfl
  refine run_set hc I1 r1 S fun b s2 R I2 => PyProof.Rows.args_nil ?_
  obtain ⟨o, es, ep, t, ho, hex, hd, g, nd, hS, hb, hf, hn, hr, hl⟩ := R
  have hU : U.length ≤ 4000 := by
    have := len_le_of_sub (l := U) (u := ns) (lt_nodup S.2.2.1) fun x hx => (S.2.1 x).mp hx
    have := S.2.2.2
    omega
  exact call_len_set ho hex hd hf (by rw [hn]; omega) ⟨.int U.length, H1, I2.tok _, ⟨_, by rw [hn]⟩, q1⟩
end
/-! ### a display's keys and values by turns -/
def tA2 : List (TE × TE) → TA
  | [] => tNil
  | (a, b) :: r => tCons a (tCons b (tA2 r))
def tDispA (t : TA) : TE := fun σ H Q => ∀ p, H p = none → t σ (upd H p (.dK [])) fun vs H2 => H2 p = some (.dK []) ∧ ∃ kvs : List (L2.Key × V), pairUp vs = kvs.map (fun kv => (kV kv.1, kv.2)) ∧ kvs.length ≤ 15 ∧ Q (.ref p) (upd H2 p (.dK (mergeK [] kvs)))
theorem tPairs_A2 : ∀ (trs : List (TE × TE)) (σ : L2.St) (H : Hp) (Q : List (V × V) → Hp → Prop), tPairs trs σ H Q = tA2 trs σ H (fun vs H' => Q (pairUp vs) H')
  | [], σ, H, Q => rfl
  | (a, b) :: r, σ, H, Q => by
    show a σ H (fun x H1 => b σ H1 fun y H2 => tPairs r σ H2 fun ps H3 => Q ((x, y) :: ps) H3) = a σ H (fun x H1 => b σ H1 fun y H2 => tA2 r σ H2 fun vs H3 => Q (pairUp (x :: y :: vs)) H3)
    congr 1
    funext x H1
    congr 1
    funext y H2
    rw [tPairs_A2 r]
    rfl
theorem pe_dispA {X : Cx} {pos : Pos} {keys : List (Option Expr)} {values : List Expr} {trs : List (TE × TE)} (h : PPs X pos keys values trs) (hall : keys.all (·.isSome) = true) (hl : keys.length = values.length) (h0 : keys ≠ [])
    (h15 : keys.length ≤ 15) : PE X (.Dict keys values pos) (tDispA (tA2 trs)) := by
  refine pe_imp0 (pe_disp h hall hl h0 h15) fun σ H Q q => ?_
  intro p hp
  rw [tPairs_A2]
  exact q p hp
/-! ### over the store -/
theorem insP_perm (x : Int × Int) : ∀ l, (insP x l).Perm (x :: l)
  | [] => List.Perm.refl _
  | y :: r => by
    unfold insP
    split
    · exact List.Perm.refl _
    · exact ((insP_perm x r).cons y).trans (List.Perm.swap x y r)
theorem sortP_perm : ∀ l, (sortP l).Perm l
  | [] => List.Perm.refl _
  | x :: r => (insP_perm x (sortP r)).trans ((sortP_perm r).cons x)
theorem pairLe_iff {p q : Int × Int} : pairLe p q = true ↔ p.1 < q.1 ∨ (p.1 = q.1 ∧ p.2 ≤ q.2) := by
  unfold pairLe
  simp
theorem pairLe_no {p q : Int × Int} : SrtO.lexB q p = false ↔ pairLe p q = true := by
  rw [SrtO.lexB_no, pairLe_iff]
  omega
theorem insP_asc (x : Int × Int) : ∀ l, l.Pairwise (fun x y => SrtO.lexB y x = false) → (insP x l).Pairwise (fun x y => SrtO.lexB y x = false)
  | [], _ => List.pairwise_singleton _ _
  | y :: r, h => by
    obtain ⟨h1, h2⟩ := List.pairwise_cons.mp h
    unfold insP
    split
    · rename_i c
      refine List.pairwise_cons.mpr ⟨fun z hz => ?_, h⟩
      rw [pairLe_no]
      rcases List.mem_cons.mp hz with e | hz
      · subst e; exact c
      · have := h1 z hz
        rw [pairLe_no] at this
        rw [pairLe_iff] at c this ⊢
        omega
    · rename_i c
      refine List.pairwise_cons.mpr ⟨fun z hz => ?_, insP_asc x r h2⟩
      rw [pairLe_no]
      rcases List.mem_cons.mp ((insP_perm x r).mem_iff.mp hz) with e | hz
      · subst e
        rw [pairLe_iff] at c ⊢
        omega
      · have := h1 z hz
        rw [pairLe_no] at this
        exact this
theorem sortP_asc : ∀ l, (sortP l).Pairwise (fun x y => SrtO.lexB y x = false)
  | [] => List.Pairwise.nil
  | x :: r => insP_asc x _ (sortP_asc r)
theorem asc_perm_uniq : ∀ {l m : List (Int × Int)}, l.Pairwise (fun x y => SrtO.lexB y x = false) → m.Pairwise (fun x y => SrtO.lexB y x = false) → l.Perm m → l = m
  | [], m, _, _, h => (List.Perm.eq_nil h.symm).symm
  | x :: l, [], _, _, h => absurd h.length_eq (by simp)
  | x :: l, y :: m, hl, hm, h => by
    obtain ⟨l1, l2⟩ := List.pairwise_cons.mp hl
    obtain ⟨m1, m2⟩ := List.pairwise_cons.mp hm
    have e : x = y := by
      rcases List.mem_cons.mp (h.mem_iff.mp List.mem_cons_self) with e | hx
      · exact e
      · rcases List.mem_cons.mp (h.mem_iff.mpr List.mem_cons_self) with e | hy
        · exact e.symm
        · have a := l1 y hy
          have b := m1 x hx
          rw [pairLe_no, pairLe_iff] at a b
          exact Prod.ext (by omega) (by omega)
    subst e
    rw [asc_perm_uniq l2 m2 h.cons_inv]
theorem insU_mem (x k : Int) : ∀ l, k ∈ insU x l ↔ k = x ∨ k ∈ l
  | [] => by simp [insU]
  | y :: r => by
    unfold insU
    split
    · simp
    · split
      · rename_i e
        subst e
        simp
      · simp only [List.mem_cons, insU_mem x k r]
        constructor
        · rintro (h | h | h)
          · exact .inr (.inl h)
          · exact .inl h
          · exact .inr (.inr h)
        · rintro (h | h | h)
          · exact .inr (.inl h)
          · exact .inl h
          · exact .inr (.inr h)
theorem setI_mem (k : Int) : ∀ l, k ∈ setI l ↔ k ∈ l
  | [] => by simp [setI]
  | x :: r => by
    unfold setI
    rw [insU_mem, setI_mem k r, List.mem_cons]
theorem insU_asc (x : Int) : ∀ l, l.Pairwise (· < ·) → (insU x l).Pairwise (· < ·)
  | [], _ => List.pairwise_singleton _ _
  | y :: r, h => by
    obtain ⟨h1, h2⟩ := List.pairwise_cons.mp h
    unfold insU
    split
    · rename_i c
      refine List.pairwise_cons.mpr ⟨fun z hz => ?_, h⟩
      rcases List.mem_cons.mp hz with e | hz
      · omega
      · have := h1 z hz
        omega
    · split
      · exact h
      · refine List.pairwise_cons.mpr ⟨fun z hz => ?_, insU_asc x r h2⟩
        rcases (insU_mem x z r).mp hz with e | hz
        · omega
        · exact h1 z hz
theorem setI_asc : ∀ l, (setI l).Pairwise (· < ·)
  | [] => List.Pairwise.nil
  | x :: r => insU_asc x _ (setI_asc r)
section
variable {g : Glb} {μ : Nat → Addr} {S : Store} {H : Hp} {x y : V} {dx dy : D} {Q : VK} {X0 : XC → Store → Prop}
theorem SqZ.grow {H H' : Hp} (k : ∀ b o, H b = some o → H' b = some o) {K : PySem.W.Frag} {a : Addr} {xs : List V} (h : SqZ K H a xs) : SqZ K H' a xs := by
  rcases h with ⟨o, h⟩ | h
  · exact .inl ⟨o, k _ _ h⟩
  · exact .inr h
theorem SqT.grow {H H' : Hp} (k : ∀ b o, H b = some o → H' b = some o) {K : PySem.W.Frag} {a : Addr} {xs : List V} (h : SqT K H a xs) : SqT K H' a xs := by
  rcases h with (h | ⟨o, h⟩) | h
  · exact .inl (.inl (k _ _ h))
  · exact .inl (.inr ⟨o, k _ _ h⟩)
  · exact .inr h
/-- more is tracked -/
theorem Sim.grow {n : Nat} {H H' : Hp} (k : ∀ b o, H b = some o → H' b = some o) : Ext g μ n H μ n H' :=
  ⟨Nat.le_refl _, fun _ _ => rfl, fun _ _ h => VI.SqT.grow k h, fun _ _ h => VI.SqZ.grow k h, fun _ _ h => k _ _ h⟩
theorem Sim.grown {H' : Hp} (s : Sim g μ S H) (k : ∀ b o, H b = some o → H' b = some o) : Sim g μ S H' :=
  ⟨s.inj, fun l c h => by
    obtain ⟨u, h1, _⟩ := (s.cell l c h).some
    exact (s.cell l c h).ext (Sim.grow k) ((k _ _ h1).trans h1.symm)⟩
theorem Sim.adk (s : Sim g μ S H) {p : Addr} {kvs : List (Key × D)} {kv : List (Key × V)} (hp : H p = none) (hr : Rlk g μ S.length H kvs kv) :
    Sim g (muAdd μ S.length p) (S ++ [Cell.dK kvs]) (upd H p (.dK kv)) ∧ Ext g μ S.length H (muAdd μ S.length p) (S ++ [Cell.dK kvs]).length (upd H p (.dK kv)) ∧ Rl g (muAdd μ S.length p) (S ++ [Cell.dK kvs]).length (upd H p (.dK kv)) (.ref S.length) (.ref p) := by
  have ex : Ext g μ S.length H (muAdd μ S.length p) (S.length + 1) (upd H p (.dK kv)) := Ext.add hp
  refine ⟨s.alloc hp ⟨kv, upd_same, Rlk.ext ex _ _ hr⟩, by simpa using ex, ?_⟩
  unfold Rl
  exact ⟨by rw [muAdd_at], by simp⟩
theorem Sim.wdk (s : Sim g μ S H) {l : Nat} {kvs kvs' : List (Key × D)} {kv : List (Key × V)} (h : S[l]? = some (.dK kvs)) (hr : Rlk g μ S.length H kvs' kv) :
    Sim g μ (S.set l (.dK kvs')) (upd H (μ l) (.dK kv)) ∧ Ext g μ S.length H μ (S.set l (.dK kvs')).length (upd H (μ l) (.dK kv)) := by
  obtain ⟨xs, h1, h2⟩ := s.cell l _ h
  exact s.write (Sim.lt h) h1 (by intro _ _ z; cases z) ⟨kv, upd_same, Rlk.ext (Ext.mut h1 (by intro _ z; cases z) (by intro _ _ z; cases z) (by intro _ z; cases z)) _ _ hr⟩
theorem Rlk.nil_i {κ : Type} {n : Nat} : Rlk g μ n H ([] : List (κ × D)) [] := by unfold Rlk; rfl
theorem Rlk.append0 {κ : Type} {n : Nat} : ∀ {as bs : List (κ × D)} {xs ys : List (κ × V)}, Rlk g μ n H as xs → Rlk g μ n H bs ys → Rlk g μ n H (as ++ bs) (xs ++ ys)
  | [], bs, xs, ys, h, h' => by unfold Rlk at h; subst h; exact h'
  | (k, d) :: as, bs, xs, ys, h, h' => by
    unfold Rlk at h
    obtain ⟨x, zs, rfl, h1, h2⟩ := h
    show Rlk g μ n H ((k, d) :: (as ++ bs)) ((k, x) :: (zs ++ ys))
    unfold Rlk
    exact ⟨x, _, rfl, h1, Rlk.append0 h2 h'⟩
theorem Rlk.any {κ : Type} [DecidableEq κ] {n : Nat} (k : κ) : ∀ {as : List (κ × D)} {xs : List (κ × V)}, Rlk g μ n H as xs → (as.any fun p => decide (p.1 = k)) = xs.any fun p => decide (p.1 = k)
  | [], xs, h => by unfold Rlk at h; subst h; rfl
  | (j, d) :: as, xs, h => by
    unfold Rlk at h
    obtain ⟨x, zs, rfl, h1, h2⟩ := h
    rw [List.any_cons, List.any_cons, Rlk.any k h2]
theorem Rlk.mapk {κ : Type} [DecidableEq κ] {n : Nat} (k : κ) {d : D} {v : V} (hv : Rl g μ n H d v) : ∀ {as : List (κ × D)} {xs : List (κ × V)}, Rlk g μ n H as xs → Rlk g μ n H (as.map fun p => if p.1 = k then (p.1, d) else p) (xs.map fun p => if p.1 = k then (p.1, v) else p)
  | [], xs, h => by unfold Rlk at h; subst h; exact Rlk.nil_i
  | (j, e) :: as, xs, h => by
    unfold Rlk at h
    obtain ⟨x, zs, rfl, h1, h2⟩ := h
    rw [List.map_cons, List.map_cons]
    by_cases c : j = k
    · rw [if_pos c, if_pos c]
      unfold Rlk
      exact ⟨v, _, rfl, hv, Rlk.mapk k hv h2⟩
    · rw [if_neg c, if_neg c]
      unfold Rlk
      exact ⟨x, _, rfl, h1, Rlk.mapk k hv h2⟩
theorem Rlk.put {κ : Type} [DecidableEq κ] {n : Nat} {k : κ} {d : D} {v : V} (hv : Rl g μ n H d v) {as : List (κ × D)} {xs : List (κ × V)} (h : Rlk g μ n H as xs) : Rlk g μ n H (dPut k d as) (putK xs k v) := by
  unfold dPut putK
  rw [h.any k]
  split
  · exact h.mapk k hv
  · refine Rlk.append0 h ?_
    unfold Rlk
    exact ⟨v, [], rfl, hv, by unfold Rlk; rfl⟩
theorem Rlk.merge {κ : Type} [DecidableEq κ] {n : Nat} : ∀ {bs as : List (κ × D)} {xs ys : List (κ × V)}, Rlk g μ n H as xs → Rlk g μ n H bs ys → Rlk g μ n H (mergeD as bs) (ys.foldl (fun acc kv => putK acc kv.1 kv.2) xs)
  | [], as, xs, ys, h, h' => by unfold Rlk at h'; subst h'; exact h
  | (k, d) :: bs, as, xs, ys, h, h' => by
    unfold Rlk at h'
    obtain ⟨x, zs, rfl, h1, h2⟩ := h'
    exact Rlk.merge (as := dPut k d as) (xs := putK xs k x) (Rlk.put h1 h) h2
theorem setIdxD_sound {dz : D} {z : V} {S' : Store} (s : Sim g μ S H) (rx : Rl g μ S.length H dx x) (ry : Rl g μ S.length H dy y) (rz : Rl g μ S.length H dz z) {l : Nat} {kvs : List (Key × D)} (el : dx = .ref l) (ec : S[l]? = some (.dK kvs)) (e : setIdxD dx dy dz S = some S') :
    ∃ a H', x = .ref a ∧ DPut H a y z H' ∧ Sim g μ S' H' ∧ Ext g μ S.length H μ S'.length H' := by
  subst el
  obtain ⟨rfl, l1⟩ := rx.ref_inv
  unfold setIdxD at e
  dsimp only at e
  rw [ec] at e
  dsimp only at e
  split at e
  · rename_i k hk
    split at e
    · rename_i hl
      cases e
      obtain ⟨kv, h1, h2⟩ := s.cell l _ ec
      obtain ⟨z1, z2⟩ := s.wdk ec (Rlk.put (k := k) rz h2)
      rw [keyOf_kV hk ry]
      exact ⟨_, _, rfl, DPut.k h1 (by rw [← h2.length0, ← LIM_eq]; exact hl), z1, z2⟩
    · cases e
  · cases e
theorem setIdxD_else {dz : D} {S' : Store} (e : setIdxD dx dy dz S = some S') : (∃ l kvs, dx = .ref l ∧ S[l]? = some (.dK kvs)) ∨ setIdx dx dy dz S = some S' := by
  unfold setIdxD at e
  split at e
  · rename_i l
    split at e
    · rename_i kvs q
      exact .inl ⟨l, kvs, rfl, q⟩
    · exact .inr e
  · cases e
theorem isDK_inv (h : isDK dx S = true) : ∃ l kvs, dx = .ref l ∧ S[l]? = some (.dK kvs) := by
  unfold isDK at h
  split at h
  · split at h
    · rename_i kvs q
      exact ⟨_, kvs, rfl, q⟩
    · cases h
  · cases h
theorem isDK_sound (s : Sim g μ S H) (rx : Rl g μ S.length H dx x) (h : isDK dx S = true) : ∃ a, x = .ref a ∧ L2.IsD H a := by
  obtain ⟨l, kvs, rfl, q⟩ := isDK_inv h
  obtain ⟨rfl, l1⟩ := rx.ref_inv
  obtain ⟨kv, h1, h2⟩ := s.cell l _ q
  exact ⟨_, rfl, .inl ⟨kv, .inl h1⟩⟩
theorem dget2Op_sound {dz d : D} {z : V} (s : Sim g μ S H) (rx : Rl g μ S.length H dx x) (ry : Rl g μ S.length H dy y) (rz : Rl g μ S.length H dz z) (e : dget2Op dx dy dz S = some d) {a : Addr} (ea : x = .ref a) : ∃ o, DGet H a y o ∧ Rl g μ S.length H d (o.getD z) := by
  unfold dget2Op at e
  split at e
  · rename_i l
    obtain ⟨rfl, l1⟩ := rx.ref_inv
    cases ea
    split at e
    · rename_i kvs q
      split at e
      · rename_i k hk
        cases e
        obtain ⟨kv, h1, h2⟩ := s.cell l _ q
        rw [keyOf_kV hk ry]
        refine ⟨valV kv k, DGet.k h1, ?_⟩
        have := h2.dGet (k := k)
        cases c : dGet k kvs with
        | some d =>
          rw [c] at this
          obtain ⟨v, h3, h4⟩ := this
          rw [h3]
          exact h4
        | none =>
          rw [c] at this
          have this : valV kv k = none := this
          rw [this]
          exact rz
      · cases e
    · cases e
  · cases e
theorem intsAt_sound {is : List Int} (s : Sim g μ S H) (rx : Rl g μ S.length H dx x) (e : intsAt dx S = some is) (hl : is.length ≤ 4000) : SetSrc g.K H x is (setI is) := by
  refine ⟨?_, fun k => setI_mem k is, setI_asc is, hl⟩
  unfold intsAt at e
  split at e
  · obtain ⟨a, xs, rfl, h1, h2⟩ := rx.tup_inv
    refine ⟨a, rfl, .inr ?_⟩
    rw [← intsOf_sound e h2]
    exact h1
  · obtain ⟨rfl, l1⟩ := rx.ref_inv
    split at e
    · rename_i ds q
      obtain ⟨xs, h1, h2⟩ := getL_sound s q
      refine ⟨_, rfl, .inl ?_⟩
      rw [← intsOf_sound e h2]
      exact h1
    · cases e
  · cases e
theorem srtSetOp_sound (s : Sim g μ S H) (rx : Rl g μ S.length H dx x) (h : (srtSetOp dx S).want (Kv g μ S.length H Q) X0) : ∃ ns U, SetSrc g.K H x ns U ∧ U.length < 64 ∧ ∀ l, H l = none → Q (.ref l) (upd H l (.lst (U.map V.int))) := by
  unfold srtSetOp at h
  split at h
  · rename_i is e
    split at h
    · rename_i c
      simp only [Bool.and_eq_true, decide_eq_true_eq] at c
      refine ⟨is, setI is, intsAt_sound s rx e c.1, c.2, fun l hl => ?_⟩
      obtain ⟨z1, z2, z3⟩ := s.alst hl (Rls.ints (setI is))
      exact h _ _ _ z2 z1 z3
    · exact absurd h id
  · exact absurd h id
theorem lenSetOp_sound (s : Sim g μ S H) (rx : Rl g μ S.length H dx x) (h : (lenSetOp dx S).want (Kv g μ S.length H Q) X0) : ∃ ns U, SetSrc g.K H x ns U ∧ Q (.int (U.length : Nat)) H := by
  unfold lenSetOp at h
  split at h
  · rename_i is e
    split at h
    · rename_i c
      simp only [decide_eq_true_eq] at c
      exact ⟨is, setI is, intsAt_sound s rx e c, Kv.here h s Rl.int_i⟩
    · exact absurd h id
  · exact absurd h id
theorem itemsI_sound {n : Nat} : ∀ {kvs : List (Key × D)} {kv : List (Key × V)} {ps : List (Int × Int)}, Rlk g μ n H kvs kv → itemsI kvs = some ps → kv = ps.map kvI
  | [], kv, ps, r, e => by
    unfold Rlk at r
    subst r
    cases e
    rfl
  | (k, d) :: kvs, kv, ps, r, e => by
    unfold Rlk at r
    obtain ⟨x, ys, rfl, h1, h2⟩ := r
    unfold itemsI at e
    split at e
    · rename_i q
      cases q
    · rename_i i j r' q
      cases q
      split at e
      · rename_i l ql
        cases e
        rw [itemsI_sound h2 ql, h1.int_inv]
        rfl
      · cases e
    · cases e
theorem rls_pairs {n : Nat} {H : Hp} : ∀ zs : List (Addr × Int × Int), (∀ z ∈ zs, H z.1 = some (.tup [.int z.2.1, .int z.2.2])) → Rls g μ n H ((zs.map (·.2)).map fun p => D.tup [.int p.1, .int p.2]) (zs.map fun z => V.ref z.1)
  | [], _ => Rls.nil
  | z :: zs, h => by
    refine Rls.cons ?_ (rls_pairs zs fun y hy => h y (List.mem_cons_of_mem _ hy))
    unfold Rl
    exact ⟨z.1, _, rfl, .inl (.inl (h z List.mem_cons_self)), Rls.cons Rl.int_i (Rls.one Rl.int_i)⟩
theorem srtItemsOp_sound (s : Sim g μ S H) (rx : Rl g μ S.length H dx x) (h : (srtItemsOp dx S).want (Kv g μ S.length H Q) X0) : rSrtIt x H Q := by
  unfold srtItemsOp at h
  split at h
  · rename_i l
    obtain ⟨rfl, l1⟩ := rx.ref_inv
    split at h
    · rename_i kvs q
      split at h
      · rename_i ps e
        split at h
        · rename_i hl
          obtain ⟨kv, h1, h2⟩ := s.cell l _ q
          rw [itemsI_sound h2 e] at h1
          refine ⟨_, ps, rfl, h1, fun H' l zs k hn hp hs hl' hz => ?_⟩
          have eq : zs.map (·.2) = sortP ps := asc_perm_uniq hs (sortP_asc ps) (hp.trans (sortP_perm ps).symm)
          -- without the list
          have k0 : ∀ b o, H b = some o → (fun b => if b = l then none else H' b) b = some o := fun b o e => by
            show (if b = l then none else H' b) = some o
            rw [if_neg (ne_of_none e hn)]
            exact k b o e
          have hu : upd (fun b => if b = l then none else H' b) l (.lst (zs.map fun z => V.ref z.1)) = H' := by
            funext b
            by_cases c : b = l
            · subst c
              rw [upd_same, hl']
            · rw [upd_ne c]
              show (if b = l then none else H' b) = H' b
              rw [if_neg c]
          have s0 := s.grown k0
          have e0 := Sim.grow (g := g) (μ := μ) (n := S.length) k0
          have rl : Rls g μ S.length (fun b => if b = l then none else H' b) ((sortP ps).map fun p => D.tup [.int p.1, .int p.2]) (zs.map fun z => V.ref z.1) := by
            rw [← eq]
            refine rls_pairs zs fun z hz' => ?_
            show (if z.1 = l then none else H' z.1) = _
            rw [if_neg (fun e => by have := hz z hz'; rw [e, hl'] at this; cases this)]
            exact hz z hz'
          obtain ⟨z1, z2, z3⟩ := s0.alst (p := l) (by show (if l = l then none else H' l) = none; rw [if_pos rfl]) rl
          rw [hu] at z1 z2 z3
          exact h _ _ _ (e0.trans z2) z1 z3
        · exact absurd h id
      · exact absurd h id
    · exact absurd h id
  · exact absurd h id
theorem pairUp_Rls {n : Nat} : ∀ {ds : List D} {xs : List V} {kvs : List (Key × D)}, Rls g μ n H ds xs → dispOf (pairUp ds) = some kvs → ∃ kv, pairUp xs = kv.map (fun p => (kV p.1, p.2)) ∧ Rlk g μ n H kvs kv
  | [], xs, kvs, r, e => by
    unfold Rls at r
    subst r
    cases e
    exact ⟨[], rfl, Rlk.nil_i⟩
  | [d], xs, kvs, r, e => by
    obtain ⟨x, ys, rfl, h1, h2⟩ := r.cons_inv
    rw [h2.nil_inv]
    cases e
    exact ⟨[], rfl, Rlk.nil_i⟩
  | d :: d2 :: ds, xs, kvs, r, e => by
    obtain ⟨x, ys, rfl, h1, h2⟩ := r.cons_inv
    obtain ⟨x2, zs, rfl, h3, h4⟩ := h2.cons_inv
    have e : dispOf ((d, d2) :: pairUp ds) = some kvs := e
    unfold dispOf at e
    split at e
    · rename_i k l hk hl
      cases e
      obtain ⟨kv, e1, e2⟩ := pairUp_Rls h4 hl
      refine ⟨(k, x2) :: kv, ?_, ?_⟩
      · show (x, x2) :: pairUp zs = _
        rw [e1, keyOf_kV hk h1]
        rfl
      · unfold Rlk
        exact ⟨x2, _, rfl, h3, e2⟩
    · cases e
theorem dispOp_sound {l : Nat} {ds : List D} {xs : List V} (s : Sim g μ S H) (r : Rls g μ S.length H ds xs) (hl : l < S.length) (h : (dispOp l ds S).want (Kv g μ S.length H Q) X0) :
    H (μ l) = some (.dK []) ∧ ∃ kvs : List (L2.Key × V), pairUp xs = kvs.map (fun kv => (kV kv.1, kv.2)) ∧ kvs.length ≤ 15 ∧ Q (.ref (μ l)) (upd H (μ l) (.dK (mergeK [] kvs))) := by
  unfold dispOp at h
  split at h
  · rename_i q
    obtain ⟨kv0, h1, h2⟩ := s.cell l _ q
    unfold Rlk at h2
    subst h2
    refine ⟨h1, ?_⟩
    split at h
    · rename_i kvs e
      split at h
      · rename_i c
        obtain ⟨kv, e1, e2⟩ := pairUp_Rls r e
        refine ⟨kv, e1, by rw [← e2.length0]; exact c, ?_⟩
        obtain ⟨z1, z2⟩ := s.wdk q (Rlk.merge Rlk.nil_i e2)
        refine h _ _ _ z2 z1 ?_
        exact Rl.ref_i (by simpa using hl)
      · exact absurd h id
    · exact absurd h id
  · exact absurd h id
end
end VI

set_option Elab.async false
set_option linter.all false
set_option maxRecDepth 100000
/-! VIe: the readings of the small tree. -/
namespace VI
open PySem L2 RZ

/-- the exception that a suite holds -/
structure XI where
  a : Addr
  cls : Value
  d : Option Addr
abbrev W0 : WX := fun _ _ _ _ => False
def rNo : R2 := fun _ _ _ _ => False
def rAug : BO → R2
  | .add => rOr (rI0 fun i j => .int (i + j)) (rOr rStrAdd rExt2)
  | .sub => rI0 fun i j => .int (i - j)
  | _ => rNo
def tMethS (C : Addr) (m : Str) (sp : Sp) (E : L2.St → L2.XK) (ta : TE) (t : TA) : TE := fun σ H Q => ta σ H fun x H1 => ∃ a dx fs, x = .ref a ∧ H1 a = some (.ins C dx fs) ∧ fs.lookup m = none ∧ t σ H1 fun vs H2 => sp (x :: vs) H2 Q (E σ)
def tMeths (g : Glb) (sp : Nat → Sp) (m : Str) (W : WX) (ta : TE) (t : TA) : List (Nat × Nat) → TE
  | [] => fun _ _ _ => False
  | (c, f) :: r => fun σ H Q => tMethS (g.C c) m (sp f) (WE W) ta t σ H Q ∨ tMeths g sp m W ta t r σ H Q
def tCallE1 (f : Addr) (sp : Sp) (E : L2.St → L2.XK) (ta : TE) (t : TA) : TE := fun σ H Q => ta σ H fun x H1 => x = .ref f ∧ t σ H1 fun vs H2 => sp vs H2 Q (E σ)
def tCallEs (g : Glb) (sp : Nat → Sp) (W : WX) (ta : TE) (t : TA) : List Nat → TE
  | [] => fun _ _ _ => False
  | f :: r => fun σ H Q => tCallE1 (g.F f) (sp f) (WE W) ta t σ H Q ∨ tCallEs g sp W ta t r σ H Q
def tMkS (C : Addr) (sp : Sp) (E : L2.St → L2.XK) (t : TA) : TE := fun σ H Q => t σ H fun vs H1 => ∀ x dx, H1 x = none → H1 dx = none → dx ≠ x →
  sp (.ref x :: vs) (upd (upd H1 dx (.own x)) x (.ins C dx [])) (fun v H2 => v = .non ∧ Q (.ref x) H2) (E σ)
def tExIs (g : Glb) (xi : XI) (i : Nat) (b : List (Nat × Bool)) : TE := fun σ H Q => σ[i]? = some (some (.ref xi.a)) ∧ (xi.d = none ∨ ∃ dd fs, xi.d = some dd ∧ H dd = some (.xd fs)) ∧ ∃ c k, xi.cls = .ref (g.C c) ∧ b.lookup c = some k ∧ Q (.bl k) H
def tExFld (g : Glb) (xi : XI) (i : Nat) (f : Str) (cs : List Nat) : TE := fun σ H Q => σ[i]? = some (some (.ref xi.a)) ∧ ∃ c dd fs v, c ∈ cs ∧ xi.cls = .ref (g.C c) ∧ xi.d = some dd ∧ H dd = some (.xd fs) ∧ fs.lookup f = some v ∧ Q v H
def iSeq (K : PySem.W.Frag) (te : TE) : TI := fun σ H R => iList K te σ H R ∨ iTup K te σ H R ∨ iStr te σ H R
def tRaise (g : Glb) (c : Nat) (k : VI.XK) (t : TA) (W : WX) : TS := fun _ σ H => match k with
  | .init fs => t σ H fun vs H1 => vs.length = fs.length ∧ ∀ dd, H1 dd = none → W (.ref (g.C c)) (some dd) σ (upd H1 dd (.xd (fs.zip vs).reverse))
  | .bare => t σ H fun vs H1 => vs.length ≤ sizeLine ∧ W (.ref (g.C c)) none σ H1
/-- o[i] read by values, for op= -/
def rGetL : R2 := fun x y H Q => ∃ p xs i v, x = .ref p ∧ y = .int i ∧ H p = some (.lst xs) ∧ atI xs i = some v ∧ Q v H
def scalV : VI.D → V
  | .bl b => .bl b
  | .int i => .int i
  | .str z => .str z
  | _ => .non
def kvV : Option VI.D → V
  | some d => scalV d
  | none => .non
def tKGet (kvs : List (Str × VI.D)) (ta : TE) : TE := fun σ H Q => ta σ H fun x H1 => ∃ z, x = .str z ∧ Q (kvV (getF z kvs)) H1
def tKIdx (kvs : List (Str × VI.D)) (ta : TE) : TE := fun σ H Q => ta σ H fun x H1 => ∃ z d, x = .str z ∧ getF z kvs = some d ∧ Q (scalV d) H1
def tKIn (neg : Bool) (kvs : List (Str × VI.D)) (ta : TE) : TE := fun σ H Q => ta σ H fun x H1 => ∃ z, x = .str z ∧ Q (.bl ((getF z kvs).isSome != neg)) H1
mutual
def rdE (g : Glb) (sp : Nat → Sp) (cv : Nat → V) (xi : XI) (W : WX) : E → TE
  | .var i => tVar i
  | .int i => tC (.int i)
  | .bl b => tC (.bl b)
  | .non => tC .non
  | .str s => tC (.str s)
  | .gcon k => tC (cv k)
  | .bin o a b => tOp (rBin g.K o) (rdE g sp cv xi W a) (rdE g sp cv xi W b)
  | .neg a => tUn (rU fun i => .int (-i)) (rdE g sp cv xi W a)
  | .cmp o a b => tOp (rCmp g.K o) (rdE g sp cv xi W a) (rdE g sp cv xi W b)
  | .chain o p a b c => tChain (rCmp g.K o) (rCmp g.K p) (rdE g sp cv xi W a) (rdE g sp cv xi W b) (rdE g sp cv xi W c)
  | .andE a b => tAndV (rdE g sp cv xi W a) (rdE g sp cv xi W b)
  | .orE a b => tOrV (rdE g sp cv xi W a) (rdE g sp cv xi W b)
  | .notE a => tNotT g.K (rdE g sp cv xi W a)
  | .ife t a b => tIf (rdT g sp cv xi W t) (rdE g sp cv xi W a) (rdE g sp cv xi W b)
  | .idx a b => tOp (rIxX g.K) (rdE g sp cv xi W a) (rdE g sp cv xi W b)
  | .sl a lo hi => tSl (rSlX g.K) (rdE g sp cv xi W a) (rdO g sp cv xi W lo) (rdO g sp cv xi W hi)
  | .rev a => tRevX g.K (rdE g sp cv xi W a)
  | .tup es => tTup (rdEs g sp cv xi W es)
  | .lst es => tLst (rdEs g sp cv xi W es)
  | .fld a f => tFld g.K (rdE g sp cv xi W a) f
  | .call f es => tCallS (sp f) (WE W) (rdEs g sp cv xi W es)
  | .meth m cs a es => tMeths g sp m W (rdE g sp cv xi W a) (rdEs g sp cv xi W es) cs
  | .mk c f es => tMkS (g.C c) (sp f) (WE W) (rdEs g sp cv xi W es)
  | .gfn f => tC (.ref (g.F f))
  | .callE fs a es => tCallEs g sp W (rdE g sp cv xi W a) (rdEs g sp cv xi W es) fs
  | .isi a t => tCB (rIsi g.K) (tCons (rdE g sp cv xi W a) (tCons (tC (.ty t)) tNil))
  | .blt b es => tCB (rBlt g.K b) (rdEs g sp cv xi W es)
  | .bm m a es => tBM g.K "list" (rBM g.K m) (rdE g sp cv xi W a) (rdEs g sp cv xi W es)
  | .lc it own gt t e => tLc (rdI g sp cv xi W it) (rdG g sp cv xi gt) (rdT g sp cv xi W0 t) (rdE g sp cv xi W0 e) own
  | .lc2 it own gt t it1 own1 g1 t1 e => tLc2 (rdI g sp cv xi W it) (rdG g sp cv xi gt) (rdT g sp cv xi W0 t) (rdI g sp cv xi W0 it1) (rdG g sp cv xi g1) (rdT g sp cv xi W0 t1) (rdE g sp cv xi W0 e) own own1
  | .lrng1 k a => if k then tLstRg (tRg1 (rdE g sp cv xi W a)) else tTupRg (tRg1 (rdE g sp cv xi W a))
  | .lrng2 k a b => if k then tLstRg (tRg2 (rdE g sp cv xi W a) (rdE g sp cv xi W b)) else tTupRg (tRg2 (rdE g sp cv xi W a) (rdE g sp cv xi W b))
  | .kget kvs a => tKGet kvs (rdE g sp cv xi W a)
  | .kidx kvs a => tKIdx kvs (rdE g sp cv xi W a)
  | .kin neg kvs a => tKIn neg kvs (rdE g sp cv xi W a)
  | .dnew => tDNewK
  | .disp es => tDispA (rdEs g sp cv xi W es)
  | .dget1 a k => tDGet2 (rdE g sp cv xi W a) (rdE g sp cv xi W k) (tC .non)
  | .dget2 a k d => tDGet2 (rdE g sp cv xi W a) (rdE g sp cv xi W k) (rdE g sp cv xi W d)
  | .srtItems a => tSrtItems (rdE g sp cv xi W a)
  | .srtSet a => tSrtSet g.K (rdE g sp cv xi W a)
  | .lenSet a => tLenSetX g.K (rdE g sp cv xi W a)
  | .excIs i b => tExIs g xi i b
  | .excFld i f cs => tExFld g xi i f cs
def rdEs (g : Glb) (sp : Nat → Sp) (cv : Nat → V) (xi : XI) (W : WX) : Es → TA
  | .nil => tNil
  | .cons e es => tCons (rdE g sp cv xi W e) (rdEs g sp cv xi W es)
def rdO (g : Glb) (sp : Nat → Sp) (cv : Nat → V) (xi : XI) (W : WX) : O → TO
  | .no => tNoPart
  | .yes e => tPart (rdE g sp cv xi W e)
def rdT (g : Glb) (sp : Nat → Sp) (cv : Nat → V) (xi : XI) (W : WX) : T → TT
  | .yes => tYes
  | .val e => tTest (rdE g sp cv xi W e)
  | .tru e => fun σ H Q => rdE g sp cv xi W e σ H fun x H' => ∃ k, TruV g.K x H' k ∧ Q k H'
  | .and a b => tAnd (rdT g sp cv xi W a) (rdT g sp cv xi W b)
  | .or a b => tOr (rdT g sp cv xi W a) (rdT g sp cv xi W b)
  | .not a => tNot (rdT g sp cv xi W a)
def rdI (g : Glb) (sp : Nat → Sp) (cv : Nat → V) (xi : XI) (W : WX) : I → TI
  | .seq e => iSeq g.K (rdE g sp cv xi W e)
  | .rng1 e => iRng1 (tCons (rdE g sp cv xi W e) tNil)
  | .rng2 a b => iRng2 (tCons (rdE g sp cv xi W a) (tCons (rdE g sp cv xi W b) tNil))
  | .enum e => iEnumX g.K (tCons (rdE g sp cv xi W e) tNil)
  | .zip a b => iZipX g.K (tCons (rdE g sp cv xi W a) (tCons (rdE g sp cv xi W b) tNil))
  | .revr es => fun _ _ _ => False
def rdG (g : Glb) (sp : Nat → Sp) (cv : Nat → V) (xi : XI) : G → TG
  | .name i => gName i
  | .tup n gs => gTup g.K n (rdGs g sp cv xi gs)
  | .sub a i => gSub (rdE g sp cv xi W0 a) (rdE g sp cv xi W0 i) rSetL
def rdGs (g : Glb) (sp : Nat → Sp) (cv : Nat → V) (xi : XI) : Gs → TGs
  | .nil => gNil
  | .cons gt gs => gCons (rdG g sp cv xi gt) (rdGs g sp cv xi gs)
end
mutual
def rdS (g : Glb) (sp : Nat → Sp) (cv : Nat → V) (xi : XI) (W : WX) : S → TS
  | .asg gt e => tAsg (rdE g sp cv xi W e) (rdG g sp cv xi gt)
  | .asgI a i e => fun D σ H => tAsg (rdE g sp cv xi W e) (gSub (rdE g sp cv xi W0 a) (rdE g sp cv xi W0 i) rSetL) D σ H ∨ sDPut (rdE g sp cv xi W0 a) (rdE g sp cv xi W0 i) (rdE g sp cv xi W e) D σ H
  | .asgF a f e => sFld g.K (rdE g sp cv xi W a) (rdE g sp cv xi W e) f
  | .par i j es => tPar i j (rdEs g sp cv xi W es)
  | .par3 i j k es => tPar3 i j k (rdEs g sp cv xi W es)
  | .aug i o e => tAug i (rdE g sp cv xi W e) (rAug o)
  | .augF a f o e => sFldAug g.K (rdE g sp cv xi W a) (rdE g sp cv xi W e) (rAug o) f
  | .augI a i o e => tAugS (rdE g sp cv xi W a) (rdE g sp cv xi W i) (rdE g sp cv xi W e) rGetL (rAug o) rSetL
  | .ife t a b => tIfS (rdT g sp cv xi W t) (rdSs g sp cv xi W a) (rdSs g sp cv xi W b)
  | .while_ t b => tWhile (rdT g sp cv xi W t) (rdSs g sp cv xi W b)
  | .for_ it gt b => tFor (rdI g sp cv xi W it) (rdG g sp cv xi gt) (rdSs g sp cv xi W b)
  | .ret e => tRet (rdE g sp cv xi W e)
  | .retN => tRetN
  | .drop e => tDrop (rdE g sp cv xi W e)
  | .pass => tNext
  | .brk => tBreak
  | .cont => tCont
  | .raise c k es => tRaise g c k (rdEs g sp cv xi W es) W
  | .try_ b hs => fun D σ H => rdSs g sp cv xi (rdHs g sp cv W D hs) b D σ H
def rdSs (g : Glb) (sp : Nat → Sp) (cv : Nat → V) (xi : XI) (W : WX) : Ss → TS
  | .nil => tNext
  | .cons s ss => tSeq (rdS g sp cv xi W s) (rdSs g sp cv xi W ss)
/-- what the clauses wish of an exception of the body -/
def rdHs (g : Glb) (sp : Nat → Sp) (cv : Nat → V) (W : WX) (D : Ends) : Hs → WX
  | .nil => W
  | .cons c i b hs => fun cls d σ H => ∃ k, PySem.W.exmOne g.K cls (.ref (g.C c)) = some k ∧
      (k = true → ∀ a, H a = none → match i with
        | none => rdSs g sp cv ⟨a, cls, d⟩ W0 b D σ H
        | some i => rdSs g sp cv ⟨a, cls, d⟩ W0 b { nx := fun σ' H' => D.nx (σ'.set i none) H', rt := D.rt, bk := fun σ' H' => D.bk (σ'.set i none) H', ct := fun σ' H' => D.ct (σ'.set i none) H' } (σ.set i (some (.ref a))) H) ∧
      (k = false → rdHs g sp cv W D hs cls d σ H)
end

/-! ### what is to be shown of them -/
abbrev Rel (α β : Type) := (Nat → Addr) → Nat → Hp → α → β → Prop
abbrev KR {α β : Type} (g : Glb) (R : Rel α β) (μ : Nat → Addr) (n : Nat) (H : Hp) (Q : β → Hp → Prop) : α → Store → Prop := fun a S' => ∀ b μ' H', Ext g μ n H μ' S'.length H' → Sim g μ' S' H' → R μ' S'.length H' a b → Q b H'
abbrev KX (g : Glb) (μ : Nat → Addr) (n : Nat) (H : Hp) (W : WX) (σ : L2.St) : XC → Store → Prop := fun x S' => ∀ cls d μ' H', Ext g μ n H μ' S'.length H' → Sim g μ' S' H' → XR g μ' S'.length H' x cls d → W cls d σ H'
def XOk (g : Glb) (μ : Nat → Addr) (n : Nat) (H : Hp) : Option XC → XI → Prop
  | none, _ => True
  | some x, xi => XR g μ n H x xi.cls xi.d
structure IS (g : Glb) (xi : XI) (xc : Option XC) (env : Env) (μ : Nat → Addr) (S : Store) (H : Hp) (σ : L2.St) : Prop where
  s : Sim g μ S H
  e : RlE g μ S.length H xi.a env σ
  x : XOk g μ S.length H xc xi
section
variable {g : Glb} {xi : XI} {xc : Option XC} {env : Env} {μ μ' : Nat → Addr} {S S' : Store} {H H' : Hp} {σ : L2.St} {W : WX}
theorem XOk.ext {n n' : Nat} (e : Ext g μ n H μ' n' H') (h : XOk g μ n H xc xi) : XOk g μ' n' H' xc xi := by
  cases xc with
  | none => trivial
  | some x => exact XR.ext e h
theorem IS.ext (I : IS g xi xc env μ S H σ) (e : Ext g μ S.length H μ' S'.length H') (s : Sim g μ' S' H') : IS g xi xc env μ' S' H' σ := ⟨s, RlE.ext e _ _ I.e, I.x.ext e⟩
theorem want_shift {α β : Type} {r : R α} {R : Rel α β} {n n' : Nat} {Q : β → Hp → Prop} (e : Ext g μ n H μ' n' H') (h : r.want (KR g R μ n H Q) (KX g μ n H W σ)) : r.want (KR g R μ' n' H' Q) (KX g μ' n' H' W σ) :=
  VI.R.want_mono h (fun a S k b μ2 H2 e2 s2 r2 => k b μ2 H2 (e.trans e2) s2 r2) (fun x S k cls d μ2 H2 e2 s2 r2 => k cls d μ2 H2 (e.trans e2) s2 r2)
end
/-- the reading t holds where the tree's part m gives what is wanted -/
def SD (g : Glb) (xi : XI) (xc : Option XC) (env : Env) (W : WX) {α β : Type} (R : Rel α β) (t : L2.St → Hp → (β → Hp → Prop) → Prop) (m : M α) : Prop :=
  ∀ (μ : Nat → Addr) (S : Store) (H : Hp) (σ : L2.St) (Q : β → Hp → Prop), IS g xi xc env μ S H σ → (m S).want (KR g R μ S.length H Q) (KX g μ S.length H W σ) → t σ H Q
theorem SD.step {g : Glb} {xi : XI} {xc : Option XC} {env : Env} {W : WX} {α β α' β' : Type} {R : Rel α β} {R' : Rel α' β'} {t : L2.St → Hp → (β → Hp → Prop) → Prop} {m : M α} (h : SD g xi xc env W R t m)
    {μ : Nat → Addr} {S : Store} {H : Hp} {σ : L2.St} {Q : β → Hp → Prop} {Q' : β' → Hp → Prop} {f : α → Store → VI.R α'} (I : IS g xi xc env μ S H σ) (hw : ((m S).bind f).want (KR g R' μ S.length H Q') (KX g μ S.length H W σ))
    (k : ∀ a b μ1 S1 H1, IS g xi xc env μ1 S1 H1 σ → Ext g μ S.length H μ1 S1.length H1 → R μ1 S1.length H1 a b → (f a S1).want (KR g R' μ1 S1.length H1 Q') (KX g μ1 S1.length H1 W σ) → Q b H1) : t σ H Q :=
  h μ S H σ Q I (VI.R.want_mono (VI.R.want_bind hw) (fun a S1 h1 b μ1 H1 e1 s1 r1 => k a b μ1 S1 H1 (I.ext e1 s1) e1 r1 (want_shift e1 h1)) (fun x S1 h1 => h1))
theorem optM_want {α : Type} {o : Option α} {S : Store} {k : α → Store → Prop} {x : XC → Store → Prop} (h : (optM o S).want k x) : ∃ a, o = some a ∧ k a S := by
  cases o with
  | none => exact absurd h id
  | some a => exact ⟨a, rfl, h⟩
theorem optM_bind {α β : Type} {o : Option α} {S : Store} {f : α → Store → R β} {k : β → Store → Prop} {x : XC → Store → Prop} (h : ((optM o S).bind f).want k x) : ∃ a, o = some a ∧ (f a S).want k x := by
  cases o with
  | none => exact absurd h id
  | some a => exact ⟨a, rfl, h⟩
/-- what a call gives, what the constants are -/
structure Hy (g : Glb) (P : Pg) (sp : Nat → Sp) (cv : Nat → V) : Prop where
  call : ∀ (f : Nat) (ds : List D) (S : Store) (μ : Nat → Addr) (H : Hp) (vs : List V) (Q : VK) (E : L2.XK), Sim g μ S H → Rls g μ S.length H ds vs →
    (P.call f ds S).want (KR g (Rl g) μ S.length H Q) (fun x S' => ∀ cls d μ' H', Ext g μ S.length H μ' S'.length H' → Sim g μ' S' H' → XR g μ' S'.length H' x cls d → E cls d H') → sp f vs H Q E
  con : ∀ k μ n H, Rl g μ n H (P.con k) (cv k)
  na : ∀ c f, P.na c f = true → Cls g.K (g.C c) ∧ NoAttr g.K (g.C c) f
  exm : ∀ k c b, P.exm k c = some b → PySem.W.exmOne g.K (.ref (g.C k)) (.ref (g.C c)) = some b
end VI

set_option Elab.async false
set_option linter.all false
set_option maxRecDepth 100000
/-! VIf: the small tree's expressions: their readings hold. -/
namespace VI
open PySem L2 RZ

/-! ### sources -/
abbrev JR (g : Glb) : Rel Src It := fun μ n H src J => ∀ (μ' : Nat → Addr) (S' : Store) (H' : Hp), Ext g μ n H μ' S'.length H' → Sim g μ' S' H' → ∀ i,
  (src.next i S' = some none → J.stop i H') ∧
  (∀ d, src.next i S' = some (some d) → J.go i H' ∧ ∀ x H'', J.yld i H' x H'' → Ext g μ' S'.length H' μ' S'.length H'' ∧ Sim g μ' S' H'' ∧ Rl g μ' S'.length H'' d x)
section
variable {g : Glb} {μ μ' : Nat → Addr} {n n' : Nat} {H H' : Hp} {S : Store} {src : Src} {J : It}
theorem JR.ext (e : Ext g μ n H μ' n' H') (h : JR g μ n H src J) : JR g μ' n' H' src J := fun μ2 S2 H2 e2 => h μ2 S2 H2 (e.trans e2)
theorem jr_tup {a : Addr} {ds : List D} {xs : List V} (h1 : SqT g.K H a xs) (h2 : Rls g μ n H ds xs) : JR g μ n H (.fix ds) (Itt g.K a) := by
  intro μ' S' H' e s i
  have r := Rls.ext e _ _ h2
  have t := e.tup _ _ h1
  refine ⟨fun h => ⟨xs, t, ?_⟩, fun d h => ?_⟩
  · have h : ds[i]? = none := Option.some.inj h
    rw [← r.length]
    exact List.getElem?_eq_none_iff.mp h
  · have h : ds[i]? = some d := Option.some.inj h
    obtain ⟨x, h3, h4⟩ := r.get h
    refine ⟨⟨xs, x, t, h3⟩, fun y H'' hy => ?_⟩
    obtain ⟨rfl, hy⟩ := hy
    have := hy _ t
    rw [h3] at this
    cases this
    exact ⟨Ext.refl, s, h4⟩
theorem jr_rol {a : Addr} {ds : List D} {xs : List V} (h1 : SqZ g.K H a xs) (h2 : Rls g μ n H ds xs) : JR g μ n H (.fix ds) (Itl g.K a) := by
  intro μ' S' H' e s i
  have r := Rls.ext e _ _ h2
  have t := (e.rol _ _ h1).l
  refine ⟨fun h => ⟨xs, t, ?_⟩, fun d h => ?_⟩
  · have h : ds[i]? = none := Option.some.inj h
    rw [← r.length]
    exact List.getElem?_eq_none_iff.mp h
  · have h : ds[i]? = some d := Option.some.inj h
    obtain ⟨x, h3, h4⟩ := r.get h
    refine ⟨⟨xs, x, t, h3⟩, fun y H'' hy => ?_⟩
    obtain ⟨rfl, hy⟩ := hy
    have := hy _ t
    rw [h3] at this
    cases this
    exact ⟨Ext.refl, s, h4⟩
theorem jr_str {x : Str} : JR g μ n H (.fix (strD x)) (Its x) := by
  intro μ' S' H' e s i
  refine ⟨fun h => ?_, fun d h => ?_⟩
  · have h : (strD x)[i]? = none := Option.some.inj h
    have := List.getElem?_eq_none_iff.mp h
    unfold strD at this
    show x.cps.size ≤ i
    simpa using this
  · have h : (strD x)[i]? = some d := Option.some.inj h
    unfold strD at h
    rw [List.getElem?_map] at h
    obtain ⟨c, h1, h2⟩ := Option.map_eq_some_iff.mp h
    have h3 : x.cps[i]? = some c := by simpa using h1
    refine ⟨(Array.getElem?_eq_some_iff.mp h3).1, fun y H'' hy => ?_⟩
    obtain ⟨rfl, c', h4, rfl⟩ := hy
    rw [h3] at h4
    cases h4
    subst h2
    exact ⟨Ext.refl, s, Rl.str_i⟩
theorem rngD_get (lo c : Int) : ∀ (n i : Nat), (rngD lo c n)[i]? = if i < n then some (.int (lo + (i : Int) * c)) else none
  | 0, i => by simp [rngD]
  | n + 1, 0 => by simp [rngD]
  | n + 1, i + 1 => by
    unfold rngD
    rw [List.getElem?_cons_succ, rngD_get (lo + c) c n i]
    have e : lo + c + (i : Int) * c = lo + ((i + 1 : Nat) : Int) * c := by
      have : ((i + 1 : Nat) : Int) * c = (i : Int) * c + c := by
        rw [Int.natCast_add, Int.add_mul]
        simp
      rw [this]
      omega
    rw [e]
    simp
theorem jr_rng {lo : Int} {m : Nat} : JR g μ n H (.fix (rngD lo 1 m)) (Itr lo m) := by
  intro μ' S' H' e s i
  have hg := rngD_get lo 1 m i
  refine ⟨fun h => ?_, fun d h => ?_⟩
  · have h : (rngD lo 1 m)[i]? = none := Option.some.inj h
    rw [hg] at h
    split at h
    · cases h
    · show m ≤ i
      omega
  · have h : (rngD lo 1 m)[i]? = some d := Option.some.inj h
    rw [hg] at h
    split at h
    · rename_i c
      cases h
      refine ⟨c, fun y H'' hy => ?_⟩
      obtain ⟨rfl, rfl⟩ := hy
      refine ⟨Ext.refl, s, ?_⟩
      rw [Int.mul_one]
      exact Rl.int_i
    · cases h
theorem jr_live {l : Nat} (hl : l < n) : JR g μ n H (.live l) (Itl g.K (μ l)) := by
  intro μ' S' H' e s i
  have em := e.mu l hl
  refine ⟨fun h => ?_, fun d h => ?_⟩
  · unfold Src.next at h
    dsimp only at h
    split at h
    · rename_i ds q
      obtain ⟨xs, h1, h2⟩ := getL_sound s q
      rw [em] at h1
      refine ⟨xs, h1, ?_⟩
      rw [← h2.length]
      exact List.getElem?_eq_none_iff.mp (Option.some.inj h)
    · cases h
  · unfold Src.next at h
    dsimp only at h
    split at h
    · rename_i ds q
      obtain ⟨xs, h1, h2⟩ := getL_sound s q
      rw [em] at h1
      obtain ⟨x, h3, h4⟩ := h2.get (Option.some.inj h)
      refine ⟨⟨xs, x, h1, h3⟩, fun y H'' hy => ?_⟩
      obtain ⟨rfl, hy⟩ := hy
      have := hy _ h1
      rw [h3] at this
      cases this
      exact ⟨Ext.refl, s, h4⟩
    · cases h
theorem jr_enum {l : Nat} (hl : l < n) : JR g μ n H (.enumL l) (Ite g.K (μ l)) := by
  intro μ' S' H' e s i
  have em := e.mu l hl
  refine ⟨fun h => ?_, fun d h => ?_⟩
  · unfold Src.next at h
    dsimp only at h
    split at h
    · rename_i ds q
      obtain ⟨xs, h1, h2⟩ := getL_sound s q
      rw [em] at h1
      refine ⟨xs, h1, ?_⟩
      rw [← h2.length]
      have h := Option.some.inj h
      rw [Option.map_eq_none_iff] at h
      exact List.getElem?_eq_none_iff.mp h
    · cases h
  · unfold Src.next at h
    dsimp only at h
    split at h
    · rename_i ds q
      obtain ⟨xs, h1, h2⟩ := getL_sound s q
      rw [em] at h1
      obtain ⟨d0, h5, h6⟩ := Option.map_eq_some_iff.mp (Option.some.inj h)
      obtain ⟨x, h3, h4⟩ := h2.get h5
      refine ⟨⟨xs, x, h1, h3⟩, fun y H'' hy => ?_⟩
      obtain ⟨T, x', rfl, hT, rfl, hy⟩ := hy
      have := hy _ h1
      rw [h3] at this
      cases this
      subst h6
      obtain ⟨z1, z2, z3⟩ := s.atup hT (Rls.cons (d := .int (i : Nat)) Rl.int_i (Rls.one h4))
      exact ⟨z2, z1, z3⟩
    · cases h
theorem jr_zipL {l k : Nat} (hl : l < n) (hk : k < n) : JR g μ n H (.zipL l k) (Itz g.K (μ l) (μ k)) := by
  intro μ' S' H' e s i
  have em := e.mu l hl
  have ek := e.mu k hk
  refine ⟨fun h => ?_, fun d h => ?_⟩
  · unfold Src.next at h
    dsimp only at h
    split at h
    · rename_i ds es q1 q2
      obtain ⟨xs, h1, h2⟩ := getL_sound s q1
      obtain ⟨ys, h3, h4⟩ := getL_sound s q2
      rw [em] at h1
      rw [ek] at h3
      refine ⟨xs, ys, h1, h3, ?_⟩
      have h := Option.some.inj h
      rw [← h2.length, ← h4.length]
      split at h
      · cases h
      · rename_i hn
        rcases Nat.lt_or_ge i ds.length with c1 | c1
        · rcases Nat.lt_or_ge i es.length with c2 | c2
          · exact absurd (List.getElem?_eq_getElem c2) (hn _ _ (List.getElem?_eq_getElem c1))
          · exact .inr c2
        · exact .inl c1
    · cases h
  · unfold Src.next at h
    dsimp only at h
    split at h
    · rename_i ds es q1 q2
      obtain ⟨xs, h1, h2⟩ := getL_sound s q1
      obtain ⟨ys, h3, h4⟩ := getL_sound s q2
      rw [em] at h1
      rw [ek] at h3
      have h := Option.some.inj h
      split at h
      · rename_i a b p1 p2
        cases h
        obtain ⟨x, h5, h6⟩ := h2.get p1
        obtain ⟨y, h7, h8⟩ := h4.get p2
        refine ⟨⟨xs, ys, x, y, h1, h3, h5, h7⟩, fun v H'' hy => ?_⟩
        obtain ⟨T, x', y', rfl, hT, rfl, ha, hb⟩ := hy
        have e1 := ha _ h1
        rw [h5] at e1
        cases e1
        have e2 := hb _ h3
        rw [h7] at e2
        cases e2
        obtain ⟨z1, z2, z3⟩ := s.atup hT (Rls.cons h6 (Rls.one h8))
        exact ⟨z2, z1, z3⟩
      · cases h
    · cases h
theorem zipWith_get {α β γ : Type} (f : α → β → γ) (as : List α) (bs : List β) (i : Nat) : (List.zipWith f as bs)[i]? = match as[i]?, bs[i]? with
    | some a, some b => some (f a b)
    | _, _ => none := by
  rw [List.getElem?_zipWith]
  cases as[i]? <;> cases bs[i]? <;> rfl
theorem jr_zipT {a b : Addr} {ds es : List D} {xs ys : List V} (h1 : SqT g.K H a xs) (h2 : Rls g μ n H ds xs) (h3 : SqT g.K H b ys) (h4 : Rls g μ n H es ys) : JR g μ n H (.fix (List.zipWith (fun d e => D.tup [d, e]) ds es)) (ItzT g.K a b) := by
  intro μ' S' H' e s i
  have r1 := Rls.ext e _ _ h2
  have r2 := Rls.ext e _ _ h4
  have t1 := e.tup _ _ h1
  have t2 := e.tup _ _ h3
  refine ⟨fun h => ⟨xs, ys, t1, t2, ?_⟩, fun d h => ?_⟩
  · have h := Option.some.inj h
    rw [← r1.length, ← r2.length]
    have := List.getElem?_eq_none_iff.mp h
    rw [List.length_zipWith] at this
    omega
  · have h := Option.some.inj h
    rw [zipWith_get] at h
    split at h
    · rename_i p q p1 p2
      cases h
      obtain ⟨x, h5, h6⟩ := r1.get p1
      obtain ⟨y, h7, h8⟩ := r2.get p2
      refine ⟨⟨xs, ys, x, y, t1, t2, h5, h7⟩, fun v H'' hy => ?_⟩
      obtain ⟨T, x', y', rfl, hT, rfl, ha, hb⟩ := hy
      have e1 := ha _ t1
      rw [h5] at e1
      cases e1
      have e2 := hb _ t2
      rw [h7] at e2
      cases e2
      obtain ⟨z1, z2, z3⟩ := s.atup hT (Rls.cons h6 (Rls.one h8))
      exact ⟨z2, z1, z3⟩
    · cases h
theorem enumD_get : ∀ (k : Nat) (ds : List D) (i : Nat), (enumD k ds)[i]? = ds[i]?.map fun d => .tup [.int ((k + i : Nat) : Int), d]
  | k, [], i => by simp [enumD]
  | k, d :: ds, 0 => by simp [enumD]
  | k, d :: ds, i + 1 => by
    unfold enumD
    rw [List.getElem?_cons_succ, List.getElem?_cons_succ, enumD_get (k + 1) ds i, show k + 1 + i = k + (i + 1) by omega]
theorem enumD_len : ∀ (k : Nat) (ds : List D), (enumD k ds).length = ds.length
  | _, [] => rfl
  | k, _ :: ds => by unfold enumD; rw [List.length_cons, List.length_cons, enumD_len (k + 1) ds]
theorem jr_enumT {a : Addr} {ds : List D} {xs : List V} (h1 : SqT g.K H a xs) (h2 : Rls g μ n H ds xs) : JR g μ n H (.fixB (enumD 0 ds)) (IteT g.K a) := by
  intro μ' S' H' e s i
  have r1 := Rls.ext e _ _ h2
  have t1 := e.tup _ _ h1
  refine ⟨fun h => ?_, fun d h => ?_⟩
  · unfold Src.next at h
    dsimp only at h
    split at h
    · rename_i c
      have h := Option.some.inj h
      have := List.getElem?_eq_none_iff.mp h
      rw [enumD_len] at c this
      refine ⟨xs, t1, ?_⟩
      rw [← r1.length]
      omega
    · cases h
  · unfold Src.next at h
    dsimp only at h
    split at h
    · rename_i c
      have h := Option.some.inj h
      rw [enumD_get] at h
      obtain ⟨d0, h5, h6⟩ := Option.map_eq_some_iff.mp h
      obtain ⟨x, h3, h4⟩ := r1.get h5
      refine ⟨⟨xs, x, t1, h3⟩, fun v H'' hy => ?_⟩
      obtain ⟨T, x', rfl, hT, rfl, ha⟩ := hy
      have e1 := ha _ t1
      rw [h3] at e1
      cases e1
      subst h6
      have hi : Rl g μ' S'.length H' (.int ((0 + i : Nat) : Int)) (.int (i : Nat)) := by
        rw [Nat.zero_add]
        exact Rl.int_i
      obtain ⟨z1, z2, z3⟩ := s.atup hT (Rls.cons hi (Rls.one h4))
      exact ⟨z2, z1, z3⟩
    · cases h
theorem jr_zipS {z : Str} {b : Addr} {es : List D} {ys : List V} (h3 : SqT g.K H b ys) (h4 : Rls g μ n H es ys) : JR g μ n H (.fixB (List.zipWith (fun c e => D.tup [.str ⟨#[c]⟩, e]) z.cps.toList es)) (ItzS g.K z b) := by
  intro μ' S' H' e s i
  have r2 := Rls.ext e _ _ h4
  have t2 := e.tup _ _ h3
  refine ⟨fun h => ?_, fun d h => ?_⟩
  · unfold Src.next at h
    dsimp only at h
    split at h
    · rename_i c
      have h := Option.some.inj h
      have h0 := List.getElem?_eq_none_iff.mp h
      rw [List.length_zipWith, Array.length_toList] at c h0
      have hl := r2.length
      refine ⟨ys, t2, by omega, by omega, by omega⟩
    · cases h
  · unfold Src.next at h
    dsimp only at h
    split at h
    · rename_i c
      have h := Option.some.inj h
      rw [List.getElem?_zipWith] at h
      cases p1 : z.cps.toList[i]? with
      | none => rw [p1] at h; cases h
      | some c1 =>
        cases p2 : es[i]? with
        | none => rw [p1, p2] at h; cases h
        | some q =>
          rw [p1, p2] at h
          cases h
          obtain ⟨y, h7, h8⟩ := r2.get p2
          have hc : z.cps[i]? = some c1 := by rw [← Array.getElem?_toList]; exact p1
          refine ⟨⟨ys, y, c1, t2, h7, hc⟩, fun v H'' hy => ?_⟩
          obtain ⟨T, y', c', rfl, hT, rfl, ha, hb⟩ := hy
          rw [hc] at ha
          cases ha
          have e2 := hb _ t2
          rw [h7] at e2
          cases e2
          obtain ⟨z1, z2, z3⟩ := s.atup hT (Rls.cons Rl.str_i (Rls.one h8))
          exact ⟨z2, z1, z3⟩
    · cases h
end

/-! ### comprehensions -/
theorem noX_want {α : Type} {r : R α} {k : α → Store → Prop} {x x' : XC → Store → Prop} (h : r.noX.want k x) : r.want k x' := by
  cases r with
  | ok a S => exact h
  | exc e S => exact absurd h id
  | err => exact absurd h id
theorem noX_bind {α β : Type} {r : R α} {f : α → Store → R β} {k : β → Store → Prop} {x x' : XC → Store → Prop} (h : (r.noX.bind f).want k x) : r.want (fun a S => (f a S).want k x) x' := by
  cases r with
  | ok a S => exact h
  | exc e S => exact absurd h id
  | err => exact absurd h id
section
variable {g : Glb} {xi : XI} {xc : Option XC} {env : Env} {μ μ' : Nat → Addr} {S S' : Store} {H H' : Hp} {σ : L2.St} {W : WX}
theorem RlE.wipe {n : Nat} {ea : Addr} (h : RlE g μ n H ea env σ) : ∀ vs : List Nat, RlE g μ n H ea (wipeE env vs) (L2.wipe σ vs)
  | [] => h
  | v :: vs => RlE.clear v (RlE.wipe h vs)
theorem wipe_at {σ : L2.St} {i : Nat} : ∀ {vs : List Nat}, i ∈ vs → (L2.wipe σ vs)[i]? = if i < σ.length then some none else none
  | [], h => by cases h
  | v :: vs, h => by
    unfold L2.wipe
    by_cases e : v = i
    · subst e
      split
      · rename_i c
        rw [List.getElem?_set_self (by rw [wipe_length]; exact c)]
      · rename_i c
        rw [List.getElem?_eq_none (by rw [List.length_set, wipe_length]; omega)]
    · rw [List.getElem?_set_ne e]
      exact wipe_at (by simpa [Ne.symm e] using h)
theorem wipe_eq {σ σ2 : L2.St} {vs : List Nat} (hl : σ2.length = σ.length) (h : ∀ i, i ∉ vs → σ2[i]? = (L2.wipe σ vs)[i]?) : L2.wipe σ2 vs = L2.wipe σ vs := by
  apply List.ext_getElem?
  intro i
  by_cases hi : i ∈ vs
  · rw [wipe_at hi, wipe_at hi, hl]
  · rw [wipe_out hi, h i hi]
/-- the store to a target: the slots named may change, the others stay -/
def SG (g : Glb) (xi : XI) (xc : Option XC) (env : Env) (sl : List Nat) (t : TG) (m : D → M Env) : Prop :=
  ∀ (d : D) (v : V) (μ : Nat → Addr) (S : Store) (H : Hp) (σ : L2.St) (Q : L2.St → Hp → Prop) (X : XC → Store → Prop), IS g xi xc env μ S H σ → Rl g μ S.length H d v →
    (m d S).want (fun env' S' => ∀ μ' H' σ', Ext g μ S.length H μ' S'.length H' → Sim g μ' S' H' → RlE g μ' S'.length H' xi.a env' σ' → σ'.length = σ.length → (∀ i, i ∉ sl → σ'[i]? = σ[i]?) → Q σ' H') X → t v σ H Q
theorem lc_sound {src : Src} {J : It} {gt : TG} {tt : TT} {te : TE} {own sl : List Nat} {asg : D → Env → M Env} {test : Env → M Bool} {elt : Env → M D} {l : Nat} {D0 : Addr} {Q : VK}
    (hsl : ∀ i ∈ sl, i ∈ own) (hasg : ∀ env, SG g xi none env sl gt (fun d S => asg d env S)) (ht : ∀ env, SD g xi none env W0 (fun _ _ _ (a b : Bool) => a = b) tt (test env))
    (he : ∀ env, SD g xi none env W0 (Rl g) te (elt env)) (hg : RlE g μ S.length H xi.a env σ) :
    ∀ i m H, (∃ (μ : Nat → Addr) (S : Store) (X0 : XC → Store → Prop), Sim g μ S H ∧ RlE g μ S.length H xi.a env σ ∧ JR g μ S.length H src J ∧ μ l = D0 ∧ l < S.length ∧ (lcLoop src asg (wipeE env own) (fun e S => (test e S).noX) (fun e S => (elt e S).noX) l m i S).want (KR g (Rl g) μ S.length H Q) X0) →
      (J.stop i H ∧ Q (.ref D0) H) ∨ (J.go i H ∧ ∃ Nx : Hp → Prop, (∀ H', Nx H' → ∃ m', m' < m ∧
        (∃ (μ : Nat → Addr) (S : Store) (X0 : XC → Store → Prop), Sim g μ S H' ∧ RlE g μ S.length H' xi.a env σ ∧ JR g μ S.length H' src J ∧ μ l = D0 ∧ l < S.length ∧ (lcLoop src asg (wipeE env own) (fun e S => (test e S).noX) (fun e S => (elt e S).noX) l m' (i + 1) S).want (KR g (Rl g) μ S.length H' Q) X0)) ∧
        ∀ x H', J.yld i H x H' → gt x (L2.wipe σ own) H' fun σ2 H2 => L2.wipe σ2 own = L2.wipe σ own ∧ tt σ2 H2 fun b H3 =>
          if b = true then te σ2 H3 fun y H4 => ∃ acc, H4 D0 = some (.lst acc) ∧ acc.length < sizeLine ∧ Nx (upd H4 D0 (.lst (acc ++ [y]))) else Nx H3) := by
  rintro i m H ⟨μ, S, X0, s, re, jr, hD, hl, hw⟩
  cases m with
  | zero => exact absurd hw id
  | succ m =>
    unfold lcLoop at hw
    obtain ⟨j1, j2⟩ := jr μ S H Ext.refl s i
    split at hw
    · exact absurd hw id
    · rename_i q
      refine .inl ⟨j1 q, ?_⟩
      rw [← hD]
      exact hw _ μ H Ext.refl s (Rl.ref_i hl)
    · rename_i d q
      obtain ⟨go, yl⟩ := j2 d q
      refine .inr ⟨go, _, fun H' h => ⟨m, Nat.lt_succ_self m, h⟩, fun x H' hy => ?_⟩
      obtain ⟨e1, s1, r1⟩ := yl x H' hy
      have re1 := RlE.ext e1 _ _ re
      have I1 : IS g xi none (wipeE env own) μ S H' (L2.wipe σ own) := ⟨s1, RlE.wipe re1 own, trivial⟩
      refine hasg _ d x μ S H' (L2.wipe σ own) _ X0 I1 r1 (VI.R.want_mono (VI.R.want_bind hw) (fun env1 S1 h1 μ1 H1 σ1 e2 s2 re2 hlen hout => ?_) (fun _ _ h => h))
      have e12 := e1.trans e2
      refine ⟨wipe_eq (by rw [hlen, wipe_length]) (fun i hi => hout i (fun z => hi (hsl i z))), ?_⟩
      have I2 : IS g xi none env1 μ1 S1 H1 σ1 := ⟨s2, re2, trivial⟩
      refine ht env1 μ1 S1 H1 σ1 _ I2 (VI.R.want_mono (noX_bind (x' := fun _ _ => False) h1) (fun b S2 h2 b' μ2 H2 e3 s3 eb => ?_) (fun _ _ h => absurd h id))
      have eb : b = b' := eb
      subst eb
      have e13 := e12.trans e3
      cases b with
      | false =>
        rw [if_neg Bool.false_ne_true] at h2
        dsimp only
        rw [if_neg Bool.false_ne_true]
        exact ⟨μ2, S2, X0, s3, RlE.ext e13 _ _ re, JR.ext e13 jr, (e13.mu l hl).trans hD, Nat.lt_of_lt_of_le hl e13.le, VI.R.want_mono h2 (fun a S3 k b μ3 H3 e4 s4 r4 => k b μ3 H3 (e13.trans e4) s4 r4) (fun _ _ h => h)⟩
      | true =>
        rw [if_pos rfl] at h2
        dsimp only
        rw [if_pos rfl]
        have I3 : IS g xi none env1 μ2 S2 H2 σ1 := ⟨s3, RlE.ext e3 _ _ re2, trivial⟩
        refine he env1 μ2 S2 H2 σ1 _ I3 (VI.R.want_mono (noX_bind (x' := fun _ _ => False) h2) (fun dx S3 h3 y μ3 H3 e4 s4 ry => ?_) (fun _ _ h => absurd h id))
        have e14 := e13.trans e4
        have hl3 : l < S3.length := Nat.lt_of_lt_of_le hl e14.le
        have hD3 : μ3 l = D0 := (e14.mu l hl).trans hD
        split at h3
        · rename_i acc q3
          split at h3
          · rename_i hlt
            obtain ⟨xs, h5, h6⟩ := s4.lst q3
            obtain ⟨z1, z2⟩ := s4.wlst q3 (Rls.append h6 (Rls.one ry))
            rw [hD3] at h5 z1 z2
            refine ⟨xs, h5, by rw [← h6.length, ← LIM_eq]; exact hlt, ?_⟩
            have e15 := e14.trans z2
            exact ⟨μ3, _, X0, z1, RlE.ext e15 _ _ re, JR.ext e15 jr, hD3, by simpa using hl3, VI.R.want_mono h3 (fun a S4 k b μ4 H4 e5 s5 r5 => k b μ4 H4 (e15.trans e5) s5 r5) (fun _ _ h => h)⟩
          · exact absurd h3 id
        · exact absurd h3 id
theorem bind_want {α β : Type} {r : R α} {f : α → Store → R β} {k : β → Store → Prop} {x : XC → Store → Prop} (h : r.want (fun a S => (f a S).want k x) x) : (r.bind f).want k x := by
  cases r with
  | ok a S => exact h
  | exc e S => exact h
  | err => exact h
theorem shiftK {n n2 : Nat} {μ2 : Nat → Addr} {H2 : Hp} {Q : VK} {X0 : XC → Store → Prop} {r : R D} (e : Ext g μ n H μ2 n2 H2) (h : r.want (KR g (Rl g) μ n H Q) X0) : r.want (KR g (Rl g) μ2 n2 H2 Q) X0 :=
  VI.R.want_mono h (fun a S3 k b μ3 H3 e4 s4 r4 => k b μ3 H3 (e.trans e4) s4 r4) (fun _ _ h => h)
/-- a comprehension's turns with what follows them -/
theorem lcK_sound {src : Src} {J : It} {gt : TG} {tt : TT} {te : TE} {own sl : List Nat} {asg : D → Env → M Env} {test : Env → M Bool} {elt : Env → M D} {l : Nat} {D0 : Addr} {Q : VK} {Kc : D → Store → R D} {Z : (Nat → Addr) → Nat → Hp → Prop} {Nx : Hp → Prop} {X0 : XC → Store → Prop}
    (hsl : ∀ i ∈ sl, i ∈ own) (hasg : ∀ env, SG g xi none env sl gt (fun d S => asg d env S)) (ht : ∀ env, SD g xi none env W0 (fun _ _ _ (a b : Bool) => a = b) tt (test env))
    (he : ∀ env, SD g xi none env W0 (Rl g) te (elt env)) (hZ : ∀ μ n H μ' n' H', Ext g μ n H μ' n' H' → Z μ n H → Z μ' n' H')
    (hN : ∀ μ S H, Sim g μ S H → Z μ S.length H → μ l = D0 → l < S.length → (Kc (.ref l) S).want (KR g (Rl g) μ S.length H Q) X0 → Nx H) :
    ∀ i m H, (∃ (μ : Nat → Addr) (S : Store), Sim g μ S H ∧ RlE g μ S.length H xi.a env σ ∧ Z μ S.length H ∧ JR g μ S.length H src J ∧ μ l = D0 ∧ l < S.length ∧ (lcLoop src asg (wipeE env own) (fun e S => (test e S).noX) (fun e S => (elt e S).noX) l m i S).want (fun a S' => (Kc a S').want (KR g (Rl g) μ S.length H Q) X0) X0) →
      (J.stop i H ∧ Nx H) ∨ (J.go i H ∧ ∃ Nx1 : Hp → Prop, (∀ H', Nx1 H' → ∃ m', m' < m ∧
        (∃ (μ : Nat → Addr) (S : Store), Sim g μ S H' ∧ RlE g μ S.length H' xi.a env σ ∧ Z μ S.length H' ∧ JR g μ S.length H' src J ∧ μ l = D0 ∧ l < S.length ∧ (lcLoop src asg (wipeE env own) (fun e S => (test e S).noX) (fun e S => (elt e S).noX) l m' (i + 1) S).want (fun a S' => (Kc a S').want (KR g (Rl g) μ S.length H' Q) X0) X0)) ∧
        ∀ x H', J.yld i H x H' → gt x (L2.wipe σ own) H' fun σ2 H2 => L2.wipe σ2 own = L2.wipe σ own ∧ tt σ2 H2 fun b H3 =>
          if b = true then te σ2 H3 fun y H4 => ∃ acc, H4 D0 = some (.lst acc) ∧ acc.length < sizeLine ∧ Nx1 (upd H4 D0 (.lst (acc ++ [y]))) else Nx1 H3) := by
  rintro i m H ⟨μ, S, s, re, hz, jr, hD, hl, hw⟩
  cases m with
  | zero => exact absurd hw id
  | succ m =>
    unfold lcLoop at hw
    obtain ⟨j1, j2⟩ := jr μ S H Ext.refl s i
    split at hw
    · exact absurd hw id
    · rename_i q
      exact .inl ⟨j1 q, hN μ S H s hz hD hl hw⟩
    · rename_i d q
      obtain ⟨go, yl⟩ := j2 d q
      refine .inr ⟨go, _, fun H' h => ⟨m, Nat.lt_succ_self m, h⟩, fun x H' hy => ?_⟩
      obtain ⟨e1, s1, r1⟩ := yl x H' hy
      have re1 := RlE.ext e1 _ _ re
      have I1 : IS g xi none (wipeE env own) μ S H' (L2.wipe σ own) := ⟨s1, RlE.wipe re1 own, trivial⟩
      refine hasg _ d x μ S H' (L2.wipe σ own) _ X0 I1 r1 (VI.R.want_mono (VI.R.want_bind hw) (fun env1 S1 h1 μ1 H1 σ1 e2 s2 re2 hlen hout => ?_) (fun _ _ h => h))
      have e12 := e1.trans e2
      refine ⟨wipe_eq (by rw [hlen, wipe_length]) (fun i hi => hout i (fun z => hi (hsl i z))), ?_⟩
      have I2 : IS g xi none env1 μ1 S1 H1 σ1 := ⟨s2, re2, trivial⟩
      refine ht env1 μ1 S1 H1 σ1 _ I2 (VI.R.want_mono (noX_bind (x' := fun _ _ => False) h1) (fun b S2 h2 b' μ2 H2 e3 s3 eb => ?_) (fun _ _ h => absurd h id))
      have eb : b = b' := eb
      subst eb
      have e13 := e12.trans e3
      cases b with
      | false =>
        rw [if_neg Bool.false_ne_true] at h2
        dsimp only
        rw [if_neg Bool.false_ne_true]
        exact ⟨μ2, S2, s3, RlE.ext e13 _ _ re, hZ _ _ _ _ _ _ e13 hz, JR.ext e13 jr, (e13.mu l hl).trans hD, Nat.lt_of_lt_of_le hl e13.le, VI.R.want_mono h2 (fun a S3 k => shiftK e13 k) (fun _ _ h => h)⟩
      | true =>
        rw [if_pos rfl] at h2
        dsimp only
        rw [if_pos rfl]
        have I3 : IS g xi none env1 μ2 S2 H2 σ1 := ⟨s3, RlE.ext e3 _ _ re2, trivial⟩
        refine he env1 μ2 S2 H2 σ1 _ I3 (VI.R.want_mono (noX_bind (x' := fun _ _ => False) h2) (fun dx S3 h3 y μ3 H3 e4 s4 ry => ?_) (fun _ _ h => absurd h id))
        have e14 := e13.trans e4
        have hl3 : l < S3.length := Nat.lt_of_lt_of_le hl e14.le
        have hD3 : μ3 l = D0 := (e14.mu l hl).trans hD
        split at h3
        · rename_i acc q3
          split at h3
          · rename_i hlt
            obtain ⟨xs, h5, h6⟩ := s4.lst q3
            obtain ⟨z1, z2⟩ := s4.wlst q3 (Rls.append h6 (Rls.one ry))
            rw [hD3] at h5 z1 z2
            refine ⟨xs, h5, by rw [← h6.length, ← LIM_eq]; exact hlt, ?_⟩
            have e15 := e14.trans z2
            exact ⟨μ3, _, z1, RlE.ext e15 _ _ re, hZ _ _ _ _ _ _ e15 hz, JR.ext e15 jr, hD3, by simpa using hl3, VI.R.want_mono h3 (fun a S4 k => shiftK e15 k) (fun _ _ h => h)⟩
          · exact absurd h3 id
        · exact absurd h3 id
theorem lc2_sound {src : Src} {J : It} {gt gt1 : TG} {tt tt1 : TT} {te : TE} {ti1 : TI} {own sl own1 sl1 : List Nat} {asg asg1 : D → Env → M Env} {test test1 : Env → M Bool} {mi1 : Env → M Src} {elt : Env → M D} {l : Nat} {D0 : Addr} {Q : VK} {X0 : XC → Store → Prop}
    (hsl : ∀ i ∈ sl, i ∈ own) (hsl1 : ∀ i ∈ sl1, i ∈ own1) (hasg : ∀ env, SG g xi none env sl gt (fun d S => asg d env S)) (ht : ∀ env, SD g xi none env W0 (fun _ _ _ (a b : Bool) => a = b) tt (test env))
    (hi1 : ∀ env, SD g xi none env W0 (JR g) ti1 (mi1 env)) (hasg1 : ∀ env, SG g xi none env sl1 gt1 (fun d S => asg1 d env S)) (ht1 : ∀ env, SD g xi none env W0 (fun _ _ _ (a b : Bool) => a = b) tt1 (test1 env))
    (he : ∀ env, SD g xi none env W0 (Rl g) te (elt env)) :
    ∀ i m H, (∃ (μ : Nat → Addr) (S : Store), Sim g μ S H ∧ RlE g μ S.length H xi.a env σ ∧ JR g μ S.length H src J ∧ μ l = D0 ∧ l < S.length ∧ (lc2Loop src asg (wipeE env own) (fun e S => (test e S).noX) (fun env1 S1 => (mi1 env1 S1).noX.bind fun src1 S1 => lcLoop src1 asg1 (wipeE env1 own1) (fun e S => (test1 e S).noX) (fun e S => (elt e S).noX) l turns 0 S1) l m i S).want (KR g (Rl g) μ S.length H Q) X0) →
      (J.stop i H ∧ Q (.ref D0) H) ∨ (J.go i H ∧ ∃ Nx : Hp → Prop, (∀ H', Nx H' → ∃ m', m' < m ∧
        (∃ (μ : Nat → Addr) (S : Store), Sim g μ S H' ∧ RlE g μ S.length H' xi.a env σ ∧ JR g μ S.length H' src J ∧ μ l = D0 ∧ l < S.length ∧ (lc2Loop src asg (wipeE env own) (fun e S => (test e S).noX) (fun env1 S1 => (mi1 env1 S1).noX.bind fun src1 S1 => lcLoop src1 asg1 (wipeE env1 own1) (fun e S => (test1 e S).noX) (fun e S => (elt e S).noX) l turns 0 S1) l m' (i + 1) S).want (KR g (Rl g) μ S.length H' Q) X0)) ∧
        ∀ x H', J.yld i H x H' → gt x (L2.wipe σ own) H' fun σ2 H2 => L2.wipe σ2 own = L2.wipe σ own ∧ tt σ2 H2 fun b H3 =>
          if b = true then ti1 σ2 H3 fun J1 H4 => ∃ W1 : Nat → Nat → Hp → Prop, (∃ m, W1 0 m H4) ∧ ∀ j k H, W1 j k H →
            (J1.stop j H ∧ Nx H) ∨ (J1.go j H ∧ ∃ Nx1 : Hp → Prop, (∀ H', Nx1 H' → ∃ k', k' < k ∧ W1 (j + 1) k' H') ∧ ∀ x H', J1.yld j H x H' → gt1 x (L2.wipe σ2 own1) H' fun σ3 H5 => L2.wipe σ3 own1 = L2.wipe σ2 own1 ∧ tt1 σ3 H5 fun b H6 =>
              if b = true then te σ3 H6 fun y H7 => ∃ acc, H7 D0 = some (.lst acc) ∧ acc.length < sizeLine ∧ Nx1 (upd H7 D0 (.lst (acc ++ [y]))) else Nx1 H6)
          else Nx H3) := by
  rintro i m H ⟨μ, S, s, re, jr, hD, hl, hw⟩
  cases m with
  | zero => exact absurd hw id
  | succ m =>
    unfold lc2Loop at hw
    obtain ⟨j1, j2⟩ := jr μ S H Ext.refl s i
    split at hw
    · exact absurd hw id
    · rename_i q
      refine .inl ⟨j1 q, ?_⟩
      rw [← hD]
      exact hw _ μ H Ext.refl s (Rl.ref_i hl)
    · rename_i d q
      obtain ⟨go, yl⟩ := j2 d q
      refine .inr ⟨go, _, fun H' h => ⟨m, Nat.lt_succ_self m, h⟩, fun x H' hy => ?_⟩
      obtain ⟨e1, s1, r1⟩ := yl x H' hy
      have re1 := RlE.ext e1 _ _ re
      have I1 : IS g xi none (wipeE env own) μ S H' (L2.wipe σ own) := ⟨s1, RlE.wipe re1 own, trivial⟩
      refine hasg _ d x μ S H' (L2.wipe σ own) _ X0 I1 r1 (VI.R.want_mono (VI.R.want_bind hw) (fun env1 S1 h1 μ1 H1 σ1 e2 s2 re2 hlen hout => ?_) (fun _ _ h => h))
      have e12 := e1.trans e2
      refine ⟨wipe_eq (by rw [hlen, wipe_length]) (fun i hi => hout i (fun z => hi (hsl i z))), ?_⟩
      have I2 : IS g xi none env1 μ1 S1 H1 σ1 := ⟨s2, re2, trivial⟩
      refine ht env1 μ1 S1 H1 σ1 _ I2 (VI.R.want_mono (noX_bind (x' := fun _ _ => False) h1) (fun b S2 h2 b' μ2 H2 e3 s3 eb => ?_) (fun _ _ h => absurd h id))
      have eb : b = b' := eb
      subst eb
      have e13 := e12.trans e3
      cases b with
      | false =>
        rw [if_neg Bool.false_ne_true] at h2
        dsimp only
        rw [if_neg Bool.false_ne_true]
        exact ⟨μ2, S2, s3, RlE.ext e13 _ _ re, JR.ext e13 jr, (e13.mu l hl).trans hD, Nat.lt_of_lt_of_le hl e13.le, shiftK e13 h2⟩
      | true =>
        rw [if_pos rfl] at h2
        dsimp only
        rw [if_pos rfl]
        have I3 : IS g xi none env1 μ2 S2 H2 σ1 := ⟨s3, RlE.ext e3 _ _ re2, trivial⟩
        refine hi1 env1 μ2 S2 H2 σ1 _ I3 (VI.R.want_mono (noX_bind (x' := fun _ _ => False) (VI.R.want_bind h2)) (fun src1 S3 h3 J1 μ3 H3 e4 s4 jr1 => ?_) (fun _ _ h => absurd h id))
        have e14 := e13.trans e4
        refine ⟨fun j k H => ∃ (μ : Nat → Addr) (S : Store), Sim g μ S H ∧ RlE g μ S.length H xi.a env1 σ1 ∧ (RlE g μ S.length H xi.a env σ ∧ JR g μ S.length H src J) ∧ JR g μ S.length H src1 J1 ∧ μ l = D0 ∧ l < S.length ∧ (lcLoop src1 asg1 (wipeE env1 own1) (fun e S => (test1 e S).noX) (fun e S => (elt e S).noX) l k j S).want (fun _ S' => (lc2Loop src asg (wipeE env own) (fun e S => (test e S).noX) (fun env1 S1 => (mi1 env1 S1).noX.bind fun src1 S1 => lcLoop src1 asg1 (wipeE env1 own1) (fun e S => (test1 e S).noX) (fun e S => (elt e S).noX) l turns 0 S1) l m (i + 1) S').want (KR g (Rl g) μ S.length H Q) X0) X0, ⟨turns, μ3, S3, s4, RlE.ext (e3.trans e4) _ _ re2, ⟨RlE.ext e14 _ _ re, JR.ext e14 jr⟩, jr1, (e14.mu l hl).trans hD, Nat.lt_of_lt_of_le hl e14.le, VI.R.want_mono h3 (fun a S4 k => shiftK e14 k) (fun _ _ h => h)⟩, ?_⟩
        exact lcK_sound (Z := fun μ n H => RlE g μ n H xi.a env σ ∧ JR g μ n H src J) hsl1 hasg1 ht1 he (fun _ _ _ _ _ _ e z => ⟨RlE.ext e _ _ z.1, JR.ext e z.2⟩) fun μ4 S4 H4 s5 z hD4 hl4 hw4 => ⟨μ4, S4, s5, z.1, z.2, hD4, hl4, hw4⟩
end

end VI

set_option Elab.async false
set_option linter.all false
set_option maxRecDepth 100000
/-! VIg: the small tree's expressions: their readings hold. -/
namespace VI
open PySem L2 RZ
/-! ### all expressions -/
section
variable {g : Glb} {P : Pg} {sp : Nat → Sp} {cv : Nat → V}
theorem getV_some {env : Env} {i : Nat} {d : D} (h : getV env i = some d) : env[i]? = some (.val d) := by
  unfold getV at h
  split at h
  · rename_i e
    cases h
    exact e
  · cases h
theorem callEs_sound {W : WX} {ta : TE} {t : TA} {σ : L2.St} {H : Hp} {Q : VK} {f : Nat} : ∀ {fs : List Nat}, f ∈ fs → tCallE1 (g.F f) (sp f) (WE W) ta t σ H Q → tCallEs g sp W ta t fs σ H Q
  | [], h, _ => by cases h
  | b :: r, h, k => by
    rcases List.mem_cons.mp h with rfl | h
    · exact .inl k
    · exact .inr (callEs_sound h k)
theorem meths_sound {m : Str} {W : WX} {ta : TE} {t : TA} {σ : L2.St} {H : Hp} {Q : VK} {c f : Nat} : ∀ {cs : List (Nat × Nat)}, cs.lookup c = some f → tMethS (g.C c) m (sp f) (WE W) ta t σ H Q → tMeths g sp m W ta t cs σ H Q
  | [], h, _ => by cases h
  | (c', f') :: cs, h, k => by
    rw [List.lookup_cons] at h
    split at h
    · rename_i e
      cases h
      have : c = c' := by simpa using e
      subst this
      exact .inl k
    · exact .inr (meths_sound h k)
theorem scal_Rl {μ : Nat → Addr} {n : Nat} {H : Hp} {d : D} (c : isScal d = true) : Rl g μ n H d (scalV d) := by
  cases d <;> first
    | (cases c; done)
    | (unfold Rl; rfl)
theorem rng_Rls {μ : Nat → Addr} {n : Nat} {H : Hp} {a b : Int} : Rls g μ n H (rngD a 1 (b - a).toNat) (rgV a b) := by
  have e : rngD a 1 (b - a).toNat = ((List.range (b - a).toNat).map fun i => a + (i : Nat)).map D.int := by
    apply List.ext_getElem?
    intro i
    rw [rngD_get]
    simp only [List.getElem?_map, List.getElem?_range, Option.map_map]
    split
    · rename_i c
      simp [c]
    · rename_i c
      simp [c]
  unfold rgV
  rw [e, show (fun i : Nat => V.int (a + (i : Nat))) = V.int ∘ (fun i : Nat => a + (i : Nat)) from rfl, ← List.map_map]
  exact Rls.ints _
theorem rng_ok {a b : Int} (h : (small62 a && (small62 b && decide ((b - a).toNat ≤ LIM))) = true) : RgOk a b := by
  simp only [small62, Bool.and_eq_true, decide_eq_true_eq, LIM] at h
  exact ⟨h.1.1, h.1.2, h.2.1.1, h.2.1.2, of_decide_eq_true h.2.2⟩
theorem lrng_sound {μ : Nat → Addr} {S : Store} {H : Hp} {a b : Int} {Q : VK} {X0 : XC → Store → Prop} (s : Sim g μ S H) (h : (lrngOp true a b S).want (KR g (Rl g) μ S.length H Q) X0) : RgOk a b ∧ ∀ q, H q = none → Q (.ref q) (upd H q (.lst (rgV a b))) := by
  unfold lrngOp at h
  split at h
  · rename_i c
    rw [if_pos rfl] at h
    refine ⟨rng_ok c, fun q hq => ?_⟩
    obtain ⟨z1, z2, z3⟩ := s.alst hq rng_Rls
    exact h _ _ _ z2 z1 z3
  · exact absurd h id
theorem trng_sound {μ : Nat → Addr} {S : Store} {H : Hp} {a b : Int} {Q : VK} {X0 : XC → Store → Prop} (s : Sim g μ S H) (h : (lrngOp false a b S).want (KR g (Rl g) μ S.length H Q) X0) : RgOk a b ∧ ∀ q, H q = none → Q (.ref q) (upd H q (.tup (rgV a b))) := by
  unfold lrngOp at h
  split at h
  · rename_i c
    rw [if_neg Bool.false_ne_true] at h
    refine ⟨rng_ok c, fun q hq => ?_⟩
    obtain ⟨z1, z2, z3⟩ := s.atup hq rng_Rls
    exact h _ _ _ z2 z1 z3
  · exact absurd h id
mutual
theorem soundE (hy : Hy g P sp cv) (xi : XI) (xc : Option XC) (env : Env) (W : WX) : ∀ e : E, SD g xi xc env W (Rl g) (rdE g sp cv xi W e) (evE P xc env e)
  | .var i => fun μ S H σ Q I h => by
    rw [evE_var] at h
    obtain ⟨d, e, k⟩ := optM_want h
    obtain ⟨v, h1, h2⟩ := I.e.get (getV_some e)
    exact ⟨v, h1, Kv.here k I.s h2⟩
  | .int i => fun μ S H σ Q I h => by
    rw [evE_int] at h
    exact Kv.here h I.s Rl.int_i
  | .bl i => fun μ S H σ Q I h => by
    rw [evE_bl] at h
    exact Kv.here h I.s Rl.bl_i
  | .non => fun μ S H σ Q I h => by
    rw [evE_non] at h
    exact Kv.here h I.s Rl.non_i
  | .str i => fun μ S H σ Q I h => by
    rw [evE_str] at h
    exact Kv.here h I.s Rl.str_i
  | .gcon k => fun μ S H σ Q I h => by
    rw [evE_gcon] at h
    exact Kv.here h I.s (hy.con k _ _ _)
  | .bin o a b => fun μ S H σ Q I h => by
    rw [evE_bin] at h
    refine (soundE hy xi xc env W a).step I h fun x vx μ1 S1 H1 I1 e1 r1 h1 => ?_
    refine (soundE hy xi xc env W b).step I1 h1 fun y vy μ2 S2 H2 I2 e2 r2 h2 => ?_
    exact binOp_sound I2.s (Rl.ext e2 _ _ r1) r2 h2
  | .neg a => fun μ S H σ Q I h => by
    rw [evE_neg] at h
    refine (soundE hy xi xc env W a).step I h fun x vx μ1 S1 H1 I1 e1 r1 h1 => ?_
    split at h1
    · exact ⟨_, r1.int_inv, Kv.here h1 I1.s Rl.int_i⟩
    · exact absurd h1 id
  | .cmp o a b => fun μ S H σ Q I h => by
    rw [evE_cmp] at h
    refine (soundE hy xi xc env W a).step I h fun x vx μ1 S1 H1 I1 e1 r1 h1 => ?_
    refine (soundE hy xi xc env W b).step I1 h1 fun y vy μ2 S2 H2 I2 e2 r2 h2 => ?_
    obtain ⟨k, ek, h3⟩ := optM_bind h2
    exact cmpOp_sound I2.s (Rl.ext e2 _ _ r1) r2 ek (Kv.here h3 I2.s Rl.bl_i)
  | .chain o p a b c => fun μ S H σ Q I h => by
    rw [evE_chain] at h
    refine (soundE hy xi xc env W a).step I h fun x vx μ1 S1 H1 I1 e1 r1 h1 => ?_
    refine (soundE hy xi xc env W b).step I1 h1 fun y vy μ2 S2 H2 I2 e2 r2 h2 => ?_
    obtain ⟨k, ek, h3⟩ := optM_bind h2
    refine cmpOp_sound I2.s (Rl.ext e2 _ _ r1) r2 ek ⟨k, rfl, ?_⟩
    cases k with
    | false => exact Kv.here h3 I2.s Rl.bl_i
    | true =>
      refine (soundE hy xi xc env W c).step I2 h3 fun z vz μ3 S3 H3 I3 e3 r3 h4 => ?_
      obtain ⟨k, ek, h5⟩ := optM_bind h4
      exact cmpOp_sound I3.s (Rl.ext e3 _ _ r2) r3 ek (Kv.here h5 I3.s Rl.bl_i)
  | .andE a b => fun μ S H σ Q I h => by
    rw [evE_andE] at h
    refine (soundE hy xi xc env W a).step I h fun x vx μ1 S1 H1 I1 e1 r1 h1 => ?_
    split at h1
    · rename_i k
      refine ⟨k, r1.bl_inv, ?_⟩
      cases k with
      | false => exact Kv.here h1 I1.s Rl.bl_i
      | true => exact soundE hy xi xc env W b μ1 S1 H1 σ Q I1 h1
    · exact absurd h1 id
  | .orE a b => fun μ S H σ Q I h => by
    rw [evE_orE] at h
    refine (soundE hy xi xc env W a).step I h fun x vx μ1 S1 H1 I1 e1 r1 h1 => ?_
    split at h1
    · rename_i k
      refine ⟨k, r1.bl_inv, ?_⟩
      cases k with
      | true => exact Kv.here h1 I1.s Rl.bl_i
      | false => exact soundE hy xi xc env W b μ1 S1 H1 σ Q I1 h1
    · exact absurd h1 id
  | .notE a => fun μ S H σ Q I h => by
    rw [evE_notE] at h
    refine (soundE hy xi xc env W a).step I h fun x vx μ1 S1 H1 I1 e1 r1 h1 => ?_
    obtain ⟨k, ek, h3⟩ := optM_bind h1
    exact ⟨k, truD_sound I1.s r1 ek, Kv.here h3 I1.s Rl.bl_i⟩
  | .ife t a b => fun μ S H σ Q I h => by
    rw [evE_ife] at h
    refine (soundT hy xi xc env W t).step I h fun k k' μ1 S1 H1 I1 e1 r1 h1 => ?_
    have r1 : k = k' := r1
    subst r1
    cases k with
    | true => exact soundE hy xi xc env W a μ1 S1 H1 σ Q I1 h1
    | false => exact soundE hy xi xc env W b μ1 S1 H1 σ Q I1 h1
  | .idx a b => fun μ S H σ Q I h => by
    rw [evE_idx] at h
    refine (soundE hy xi xc env W a).step I h fun x vx μ1 S1 H1 I1 e1 r1 h1 => ?_
    refine (soundE hy xi xc env W b).step I1 h1 fun y vy μ2 S2 H2 I2 e2 r2 h2 => ?_
    obtain ⟨d, ed, h3⟩ := optM_want h2
    exact idxOp_sound I2.s (Rl.ext e2 _ _ r1) r2 ed fun v hv => Kv.here h3 I2.s hv
  | .sl a lo hi => fun μ S H σ Q I h => by
    rw [evE_sl] at h
    refine (soundE hy xi xc env W a).step I h fun x vx μ1 S1 H1 I1 e1 r1 h1 => ?_
    refine (soundO hy xi xc env W lo).step I1 h1 fun y y' μ2 S2 H2 I2 e2 r2 h2 => ?_
    refine (soundO hy xi xc env W hi).step I2 h2 fun z z' μ3 S3 H3 I3 e3 r3 h3 => ?_
    have r2 : y = y' := r2
    have r3 : z = z' := r3
    subst r2 r3
    exact slOp_sound I3.s (Rl.ext (e2.trans e3) _ _ r1) h3
  | .rev a => fun μ S H σ Q I h => by
    rw [evE_rev] at h
    refine (soundE hy xi xc env W a).step I h fun x vx μ1 S1 H1 I1 e1 r1 h1 => ?_
    exact revOp_sound I1.s r1 h1
  | .tup es => fun μ S H σ Q I h => by
    rw [evE_tup] at h
    refine (soundEs hy xi xc env W es).step I h fun ds vs μ1 S1 H1 I1 e1 r1 h1 => ?_
    split at h1
    · rename_i c
      refine ⟨by rw [← Rls.length r1, ← LIM_eq]; exact c, fun p hp => ?_⟩
      obtain ⟨z1, z2, z3⟩ := I1.s.atup hp r1
      exact h1 _ _ _ z2 z1 z3
    · exact absurd h1 id
  | .lst es => fun μ S H σ Q I h => by
    rw [evE_lst] at h
    refine (soundEs hy xi xc env W es).step I h fun ds vs μ1 S1 H1 I1 e1 r1 h1 => ?_
    split at h1
    · rename_i c
      refine ⟨by rw [← Rls.length r1, ← LIM_eq]; exact c, fun p hp => ?_⟩
      obtain ⟨z1, z2, z3⟩ := I1.s.alst hp r1
      exact h1 _ _ _ z2 z1 z3
    · exact absurd h1 id
  | .fld a f => fun μ S H σ Q I h => by
    rw [evE_fld] at h
    refine (soundE hy xi xc env W a).step I h fun x vx μ1 S1 H1 I1 e1 r1 h1 => ?_
    obtain ⟨d, ed, h3⟩ := optM_want h1
    obtain ⟨a, C, dp, fs, v, k1, k2, k3, k4, k5, k6, _⟩ := getFld_sound I1.s r1 ed
    exact ⟨a, C, dp, fs, v, k1, k2, k3, k4, k5, Kv.here h3 I1.s k6⟩
  | .call f es => fun μ S H σ Q I h => by
    rw [evE_call] at h
    refine (soundEs hy xi xc env W es).step I h fun ds vs μ1 S1 H1 I1 e1 r1 h1 => ?_
    exact hy.call f ds S1 μ1 H1 vs Q _ I1.s r1 h1
  | .meth m cs a es => fun μ S H σ Q I h => by
    rw [evE_meth] at h
    cases hm : evE P xc env a S with
    | err => rw [hm] at h; exact absurd h id
    | exc x S1 => rw [hm] at h; exact absurd h id
    | ok x S1 =>
      rw [hm] at h
      dsimp only [noX_ok, bind_ok] at h
      cases x with
      | ref l =>
        dsimp only at h
        cases hc : S1[l]? with
        | none => rw [hc] at h; exact absurd h id
        | some cell =>
          rw [hc] at h
          cases cell with
          | ins c fs =>
            dsimp only at h
            cases hg : getF m fs with
            | some z => rw [hg] at h; exact absurd h id
            | none =>
              rw [hg] at h
              cases hlk : cs.lookup c with
              | none => rw [hlk] at h; exact absurd h id
              | some f =>
                rw [hlk] at h
                refine meths_sound hlk (soundE hy xi xc env W a μ S H σ _ I ?_)
                rw [hm]
                intro v μ1 H1 e1 s1 r1
                have I1 := I.ext e1 s1
                obtain ⟨rfl, hl⟩ := Rl.ref_inv r1
                obtain ⟨dx, fv, k1, k2, k3⟩ := s1.cell l _ hc
                refine ⟨_, dx, fv, rfl, k1, getF_none k2 hg, ?_⟩
                refine (soundEs hy xi xc env W es).step I1 (want_shift e1 h) fun ds vs μ2 S2 H2 I2 e2 r2 h2 => ?_
                have em := e2.mu l hl
                refine hy.call f (.ref l :: ds) S2 μ2 H2 (.ref (μ1 l) :: vs) Q _ I2.s (Rls.cons ?_ r2) h2
                rw [← em]
                exact Rl.ref_i (Nat.lt_of_lt_of_le hl e2.le)
          | lst _ => exact absurd h id
          | dK _ => exact absurd h id
          | dT _ => exact absurd h id
      | _ => exact absurd h id
  | .mk c f es => fun μ S H σ Q I h => by
    rw [evE_mk] at h
    refine (soundEs hy xi xc env W es).step I h fun ds vs μ1 S1 H1 I1 e1 r1 h1 => ?_
    intro x dx nx ndx ne
    have hd1 : H1 dx = none := ndx
    have sd : Sim g μ1 S1 (upd H1 dx (.own x)) := I1.s.new hd1
    have ed : Ext g μ1 S1.length H1 μ1 S1.length (upd H1 dx (.own x)) := Ext.new hd1
    have nx' : upd H1 dx (.own x) x = none := by rw [upd_ne (Ne.symm ne)]; exact nx
    have s2 : Sim g (muAdd μ1 S1.length x) (S1 ++ [.ins c []]) (upd (upd H1 dx (.own x)) x (.ins (g.C c) dx [])) := sd.alloc nx' ⟨dx, [], upd_same, by unfold Rlk; rfl, fun _ _ z => absurd z (by simp)⟩
    have e2 : Ext g μ1 S1.length H1 (muAdd μ1 S1.length x) (S1 ++ [Cell.ins c []]).length (upd (upd H1 dx (.own x)) x (.ins (g.C c) dx [])) := by
      refine ed.trans ?_
      have := Ext.add (g := g) (μ := μ1) (n := S1.length) (o := .ins (g.C c) dx []) nx'
      simpa using this
    have ex : muAdd μ1 S1.length x S1.length = x := muAdd_at
    have rr : Rls g (muAdd μ1 S1.length x) (S1 ++ [Cell.ins c []]).length (upd (upd H1 dx (.own x)) x (.ins (g.C c) dx [])) (.ref S1.length :: ds) (.ref x :: vs) := by
      refine Rls.cons ?_ (Rls.ext e2 _ _ r1)
      have : S1.length < (S1 ++ [Cell.ins c []]).length := by simp
      have r := Rl.ref_i (g := g) (μ := muAdd μ1 S1.length x) (H := upd (upd H1 dx (.own x)) x (.ins (g.C c) dx [])) this
      rw [ex] at r
      exact r
    refine hy.call f _ _ _ _ _ _ _ s2 rr (VI.R.want_mono (VI.R.want_bind h1) (fun d S3 h3 v μ3 H3 e3 s3 r3 => ?_) (fun x S3 h3 cls d μ3 H3 e3 s3 r3 => h3 cls d μ3 H3 (e2.trans e3) s3 r3))
    split at h3
    · refine ⟨Rl.non_inv r3, ?_⟩
      have em : μ3 S1.length = x := (e3.mu S1.length (by simp)).trans ex
      refine h3 _ μ3 H3 (e2.trans e3) s3 ?_
      have hl3 : S1.length < S3.length := Nat.lt_of_lt_of_le (by simp) e3.le
      have r := Rl.ref_i (g := g) (μ := μ3) (H := H3) hl3
      rw [em] at r
      exact r
    · exact absurd h3 id
  | .gfn f => fun μ S H σ Q I h => h _ _ _ Ext.refl I.s (by unfold Rl; rfl)
  | .callE fs a es => fun μ S H σ Q I h => by
    rw [evE_callE] at h
    cases hm : evE P xc env a S with
    | err => rw [hm] at h; exact absurd h id
    | exc x S1 => rw [hm] at h; exact absurd h id
    | ok x S1 =>
      rw [hm] at h
      dsimp only [noX_ok, bind_ok] at h
      cases x with
      | fn f =>
        dsimp only at h
        by_cases hc : fs.contains f = true
        · rw [if_pos hc] at h
          refine callEs_sound (f := f) (by simpa using hc) (soundE hy xi xc env W a μ S H σ _ I ?_)
          rw [hm]
          intro v μ1 H1 e1 s1 r1
          have I1 := I.ext e1 s1
          refine ⟨by unfold Rl at r1; exact r1, ?_⟩
          refine (soundEs hy xi xc env W es).step I1 (want_shift e1 h) fun ds vs μ2 S2 H2 I2 e2 r2 h2 => ?_
          exact hy.call f ds S2 μ2 H2 vs Q _ I2.s r2 h2
        · rw [if_neg hc] at h
          exact absurd h id
      | _ => exact absurd h id
  | .isi a t => fun μ S H σ Q I h => by
    rw [evE_isi] at h
    refine (soundE hy xi xc env W a).step I h fun x vx μ1 S1 H1 I1 e1 r1 h1 => ?_
    obtain ⟨k, ek, h3⟩ := optM_bind h1
    unfold isiOp at ek
    split at ek
    · rename_i n q
      exact ⟨vx, .ty t, .type n, .type t, k, rfl, .ty _, tyName_sound I1.s r1 q, kit_ty ek, Kv.here h3 I1.s Rl.bl_i⟩
    · cases ek
  | .blt b es => fun μ S H σ Q I h => by
    rw [evE_blt] at h
    refine (soundEs hy xi xc env W es).step I h fun ds vs μ1 S1 H1 I1 e1 r1 h1 => ?_
    exact bltOp_sound I1.s r1 h1
  | .bm m a es => fun μ S H σ Q I h => by
    rw [evE_bm] at h
    refine (soundE hy xi xc env W a).step I h fun x vx μ1 S1 H1 I1 e1 r1 h1 => ?_
    split at h1
    · rename_i hl
      refine ⟨?_, (soundEs hy xi xc env W es).step I1 h1 fun ds vs μ2 S2 H2 I2 e2 r2 h2 => bmOp_sound I2.s (Rl.ext e2 _ _ r1) r2 h2⟩
      unfold isLst at hl
      split at hl
      · obtain ⟨rfl, _⟩ := Rl.ref_inv r1
        split at hl
        · rename_i q
          obtain ⟨xs, k1, k2⟩ := I1.s.lst q
          exact .inl ⟨rfl, xs, .inl (.inl k1)⟩
        · cases hl
      · cases hl
    · exact absurd h1 id
  | .lc it own gt t e => fun μ S H σ Q I h => by
    rw [evE_lc] at h
    refine (soundI hy xi xc env W it).step I h fun src J μ1 S1 H1 I1 e1 r1 h1 => ?_
    split at h1
    · rename_i hsl
      have hsl' : ∀ i ∈ slotsG gt, i ∈ own := fun i hi => by
        have := List.all_eq_true.mp hsl i hi
        simpa using this
      intro Dl hD
      have z := I1.s.alst hD (Rls.nil (g := g) (μ := μ1) (n := S1.length) (H := H1))
      obtain ⟨z1, z2, z3⟩ := z
      have I2 := I1.ext z2 z1
      refine ⟨fun i m H => ∃ (μ : Nat → Addr) (S : Store) (X0 : XC → Store → Prop), Sim g μ S H ∧ RlE g μ S.length H xi.a env σ ∧ JR g μ S.length H src J ∧ μ S1.length = Dl ∧ S1.length < S.length ∧ (lcLoop src (fun d env S => asgG P none env gt d S) (wipeE env own) (fun env S => (evT P none env t S).noX) (fun env S => (evE P none env e S).noX) S1.length m i S).want (KR g (Rl g) μ S.length H Q) X0, ⟨turns, muAdd μ1 S1.length Dl, _, _, z1, I2.e, JR.ext z2 r1, muAdd_at, by simp, want_shift z2 h1⟩, ?_⟩
      exact lc_sound hsl' (fun env => soundG hy xi none env gt) (fun env => soundT hy xi none env W0 t) (fun env => soundE hy xi none env W0 e) I2.e
    · exact absurd h1 id
  | .lc2 it own gt t it1 own1 gt1 t1 e => fun μ S H σ Q I h => by
    rw [evE_lc2] at h
    refine (soundI hy xi xc env W it).step I h fun src J μ1 S1 H1 I1 e1 r1 h1 => ?_
    split at h1
    · rename_i hsl
      rw [Bool.and_eq_true, Bool.and_eq_true] at hsl
      have hsl' : ∀ i ∈ slotsG gt, i ∈ own := fun i hi => by
        have := List.all_eq_true.mp hsl.1 i hi
        simpa using this
      have hsl1 : ∀ i ∈ slotsG gt1, i ∈ own1 := fun i hi => by
        have := List.all_eq_true.mp hsl.2.1 i hi
        simpa using this
      intro Dl hD
      have z := I1.s.alst hD (Rls.nil (g := g) (μ := μ1) (n := S1.length) (H := H1))
      obtain ⟨z1, z2, z3⟩ := z
      have I2 := I1.ext z2 z1
      refine ⟨fun i m H => ∃ (μ : Nat → Addr) (S : Store), Sim g μ S H ∧ RlE g μ S.length H xi.a env σ ∧ JR g μ S.length H src J ∧ μ S1.length = Dl ∧ S1.length < S.length ∧ (lc2Loop src (fun d env S => asgG P none env gt d S) (wipeE env own) (fun env S => (evT P none env t S).noX) (fun env1 S1' => (evI P none env1 it1 S1').noX.bind fun src1 S2 => lcLoop src1 (fun d env S => asgG P none env gt1 d S) (wipeE env1 own1) (fun env S => (evT P none env t1 S).noX) (fun env S => (evE P none env e S).noX) S1.length turns 0 S2) S1.length m i S).want (KR g (Rl g) μ S.length H Q) (KX g (muAdd μ1 S1.length Dl) (S1 ++ [Cell.lst []]).length (upd H1 Dl (.lst [])) W σ), ⟨turns, muAdd μ1 S1.length Dl, _, z1, I2.e, JR.ext z2 r1, muAdd_at, by simp, want_shift z2 h1⟩, ?_⟩
      exact lc2_sound hsl' hsl1 (fun env => soundG hy xi none env gt) (fun env => soundT hy xi none env W0 t) (fun env => soundI hy xi none env W0 it1) (fun env => soundG hy xi none env gt1) (fun env => soundT hy xi none env W0 t1) (fun env => soundE hy xi none env W0 e)
    · exact absurd h1 id
  | .lrng1 k a => fun μ S H σ Q I h => by
    rw [evE_lrng1] at h
    cases k with
    | true =>
      refine (soundE hy xi xc env W a).step I h fun x vx μ1 S1 H1 I1 e1 r1 h1 => ?_
      split at h1
      · exact ⟨_, r1.int_inv, lrng_sound I1.s h1⟩
      · exact absurd h1 id
    | false =>
      refine (soundE hy xi xc env W a).step I h fun x vx μ1 S1 H1 I1 e1 r1 h1 => ?_
      split at h1
      · exact ⟨_, r1.int_inv, trng_sound I1.s h1⟩
      · exact absurd h1 id
  | .lrng2 k a b => fun μ S H σ Q I h => by
    rw [evE_lrng2] at h
    cases k with
    | true =>
      refine (soundE hy xi xc env W a).step I h fun x vx μ1 S1 H1 I1 e1 r1 h1 => ?_
      refine (soundE hy xi xc env W b).step I1 h1 fun y vy μ2 S2 H2 I2 e2 r2 h2 => ?_
      split at h2
      · exact ⟨_, _, (Rl.ext e2 _ _ r1).int_inv, r2.int_inv, lrng_sound I2.s h2⟩
      · exact absurd h2 id
    | false =>
      refine (soundE hy xi xc env W a).step I h fun x vx μ1 S1 H1 I1 e1 r1 h1 => ?_
      refine (soundE hy xi xc env W b).step I1 h1 fun y vy μ2 S2 H2 I2 e2 r2 h2 => ?_
      split at h2
      · exact ⟨_, _, (Rl.ext e2 _ _ r1).int_inv, r2.int_inv, trng_sound I2.s h2⟩
      · exact absurd h2 id
  | .kget kvs a => fun μ S H σ Q I h => by
    rw [evE_kget] at h
    refine (soundE hy xi xc env W a).step I h fun x vx μ1 S1 H1 I1 e1 r1 h1 => ?_
    split at h1
    · rename_i z
      refine ⟨z, r1.str_inv, ?_⟩
      split at h1
      · rename_i d q
        split at h1
        · rename_i c
          rw [q]
          exact Kv.here h1 I1.s (scal_Rl c)
        · exact absurd h1 id
      · rename_i q
        rw [q]
        exact Kv.here h1 I1.s Rl.non_i
    · exact absurd h1 id
  | .kidx kvs a => fun μ S H σ Q I h => by
    rw [evE_kidx] at h
    refine (soundE hy xi xc env W a).step I h fun x vx μ1 S1 H1 I1 e1 r1 h1 => ?_
    split at h1
    · rename_i z
      split at h1
      · rename_i d q
        split at h1
        · rename_i c
          exact ⟨z, d, r1.str_inv, q, Kv.here h1 I1.s (scal_Rl c)⟩
        · exact absurd h1 id
      · exact absurd h1 id
    · exact absurd h1 id
  | .kin neg kvs a => fun μ S H σ Q I h => by
    rw [evE_kin] at h
    refine (soundE hy xi xc env W a).step I h fun x vx μ1 S1 H1 I1 e1 r1 h1 => ?_
    split at h1
    · exact ⟨_, r1.str_inv, Kv.here h1 I1.s Rl.bl_i⟩
    · exact absurd h1 id
  | .dnew => fun μ S H σ Q I h => by
    rw [evE_dnew] at h
    intro p hp
    obtain ⟨z1, z2, z3⟩ := I.s.adk hp (Rlk.nil_i (g := g) (μ := μ) (H := H))
    exact h _ _ _ z2 z1 z3
  | .disp es => fun μ S H σ Q I h => by
    rw [evE_disp] at h
    intro p hp
    obtain ⟨z1, z2, z3⟩ := I.s.adk hp (Rlk.nil_i (g := g) (μ := μ) (H := H))
    have I1 := I.ext z2 z1
    refine (soundEs hy xi xc env W es).step (R' := Rl g) (Q' := Q) I1 (want_shift z2 h) fun ds vs μ1 S1 H1 I2 e1 r1 h1 => ?_
    have hl : S.length < S1.length := Nat.lt_of_lt_of_le (by simp) e1.le
    have hμ : μ1 S.length = p := by rw [e1.mu _ (by simp), muAdd_at]
    have := dispOp_sound I2.s r1 hl h1
    rw [hμ] at this
    exact this
  | .dget1 a k => fun μ S H σ Q I h => by
    rw [evE_dget1] at h
    refine (soundE hy xi xc env W a).step I h fun x vx μ1 S1 H1 I1 e1 r1 h1 => ?_
    split at h1
    · rename_i c
      obtain ⟨a', rfl, hd⟩ := isDK_sound I1.s r1 c
      refine ⟨a', rfl, hd, ?_⟩
      refine (soundE hy xi xc env W k).step I1 h1 fun y vy μ2 S2 H2 I2 e2 r2 h2 => ?_
      obtain ⟨d, ed, h3⟩ := optM_want h2
      obtain ⟨o, g1, g2⟩ := dget2Op_sound I2.s (Rl.ext e2 _ _ r1) r2 Rl.non_i ed rfl
      exact ⟨o, g1, Kv.here h3 I2.s g2⟩
    · exact absurd h1 id
  | .dget2 a k d => fun μ S H σ Q I h => by
    rw [evE_dget2] at h
    refine (soundE hy xi xc env W a).step I h fun x vx μ1 S1 H1 I1 e1 r1 h1 => ?_
    split at h1
    · rename_i c
      obtain ⟨a', rfl, hd⟩ := isDK_sound I1.s r1 c
      refine ⟨a', rfl, hd, ?_⟩
      refine (soundE hy xi xc env W k).step I1 h1 fun y vy μ2 S2 H2 I2 e2 r2 h2 => ?_
      refine (soundE hy xi xc env W d).step I2 h2 fun z vz μ3 S3 H3 I3 e3 r3 h3 => ?_
      obtain ⟨d, ed, h4⟩ := optM_want h3
      obtain ⟨o, g1, g2⟩ := dget2Op_sound I3.s (Rl.ext (e2.trans e3) _ _ r1) (Rl.ext e3 _ _ r2) r3 ed rfl
      exact ⟨o, g1, Kv.here h4 I3.s g2⟩
    · exact absurd h1 id
  | .srtItems a => fun μ S H σ Q I h => by
    rw [evE_srtItems] at h
    exact (soundE hy xi xc env W a).step I h fun x vx μ1 S1 H1 I1 e1 r1 h1 => srtItemsOp_sound I1.s r1 h1
  | .srtSet a => fun μ S H σ Q I h => by
    rw [evE_srtSet] at h
    exact (soundE hy xi xc env W a).step I h fun x vx μ1 S1 H1 I1 e1 r1 h1 => srtSetOp_sound I1.s r1 h1
  | .lenSet a => fun μ S H σ Q I h => by
    rw [evE_lenSet] at h
    exact (soundE hy xi xc env W a).step I h fun x vx μ1 S1 H1 I1 e1 r1 h1 => lenSetOp_sound I1.s r1 h1
  | .excIs i b => fun μ S H σ Q I h => by
    rw [evE_excIs] at h
    split at h
    · rename_i x e1
      split at h
      · rename_i k e2
        have hx := I.x
        refine ⟨I.e.gete e1, ?_, x.c, k, hx.1, e2, Kv.here h I.s Rl.bl_i⟩
        rcases hx.2 with ⟨_, z⟩ | ⟨dd, fv, z1, z2, _⟩
        · exact .inl z
        · exact .inr ⟨dd, fv, z1, z2⟩
      · exact absurd h id
    · exact absurd h id
  | .excFld i f cs => fun μ S H σ Q I h => by
    rw [evE_excFld] at h
    split at h
    · rename_i x e1
      split at h
      · rename_i hc
        obtain ⟨d, ed, h3⟩ := optM_want h
        obtain ⟨hx1, hx2⟩ := I.x
        rcases hx2 with ⟨k1, k2⟩ | ⟨dd, fv, k1, k2, k3⟩
        · rw [k1] at ed
          cases ed
        · obtain ⟨v, k4, k5, _⟩ := getF_sound k3 ed
          exact ⟨I.e.gete e1, x.c, dd, fv, v, by simpa using hc, hx1, k1, k2, k4, Kv.here h3 I.s k5⟩
      · exact absurd h id
    · exact absurd h id
theorem soundEs (hy : Hy g P sp cv) (xi : XI) (xc : Option XC) (env : Env) (W : WX) : ∀ es : Es, SD g xi xc env W (Rls g) (rdEs g sp cv xi W es) (evEs P xc env es)
  | .nil => fun μ S H σ Q I h => by
    rw [evEs_nil] at h
    exact h _ _ _ Ext.refl I.s Rls.nil
  | .cons e es => fun μ S H σ Q I h => by
    rw [evEs_cons] at h
    refine (soundE hy xi xc env W e).step I h fun x vx μ1 S1 H1 I1 e1 r1 h1 => ?_
    refine (soundEs hy xi xc env W es).step I1 h1 fun ds vs μ2 S2 H2 I2 e2 r2 h2 => ?_
    exact h2 _ _ _ Ext.refl I2.s (Rls.cons (Rl.ext e2 _ _ r1) r2)
theorem soundO (hy : Hy g P sp cv) (xi : XI) (xc : Option XC) (env : Env) (W : WX) : ∀ o : O, SD g xi xc env W (fun _ _ _ (a b : Option Int) => a = b) (rdO g sp cv xi W o) (evO P xc env o)
  | .no => fun μ S H σ Q I h => by
    rw [evO_no] at h
    exact h _ _ _ Ext.refl I.s rfl
  | .yes e => fun μ S H σ Q I h => by
    rw [evO_yes] at h
    refine (soundE hy xi xc env W e).step I h fun x vx μ1 S1 H1 I1 e1 r1 h1 => ?_
    split at h1
    · exact ⟨_, r1.int_inv, h1 _ _ _ Ext.refl I1.s rfl⟩
    · exact absurd h1 id
theorem soundT (hy : Hy g P sp cv) (xi : XI) (xc : Option XC) (env : Env) (W : WX) : ∀ t : T, SD g xi xc env W (fun _ _ _ (a b : Bool) => a = b) (rdT g sp cv xi W t) (evT P xc env t)
  | .yes => fun μ S H σ Q I h => by
    rw [evT_yes] at h
    exact h _ _ _ Ext.refl I.s rfl
  | .val e => fun μ S H σ Q I h => by
    rw [evT_val] at h
    refine (soundE hy xi xc env W e).step I h fun x vx μ1 S1 H1 I1 e1 r1 h1 => ?_
    split at h1
    · exact ⟨_, r1.bl_inv, h1 _ _ _ Ext.refl I1.s rfl⟩
    · exact absurd h1 id
  | .tru e => fun μ S H σ Q I h => by
    rw [evT_tru] at h
    refine (soundE hy xi xc env W e).step I h fun x vx μ1 S1 H1 I1 e1 r1 h1 => ?_
    obtain ⟨k, ek, h3⟩ := optM_want h1
    exact ⟨k, truD_sound I1.s r1 ek, h3 _ _ _ Ext.refl I1.s rfl⟩
  | .and a b => fun μ S H σ Q I h => by
    rw [evT_and] at h
    refine (soundT hy xi xc env W a).step I h fun k k' μ1 S1 H1 I1 e1 r1 h1 => ?_
    have r1 : k = k' := r1
    subst r1
    cases k with
    | true => exact soundT hy xi xc env W b μ1 S1 H1 σ Q I1 h1
    | false => exact h1 _ _ _ Ext.refl I1.s rfl
  | .or a b => fun μ S H σ Q I h => by
    rw [evT_or] at h
    refine (soundT hy xi xc env W a).step I h fun k k' μ1 S1 H1 I1 e1 r1 h1 => ?_
    have r1 : k = k' := r1
    subst r1
    cases k with
    | false => exact soundT hy xi xc env W b μ1 S1 H1 σ Q I1 h1
    | true => exact h1 _ _ _ Ext.refl I1.s rfl
  | .not a => fun μ S H σ Q I h => by
    rw [evT_not] at h
    refine (soundT hy xi xc env W a).step I h fun k k' μ1 S1 H1 I1 e1 r1 h1 => ?_
    have r1 : k = k' := r1
    subst r1
    exact h1 _ _ _ Ext.refl I1.s rfl
theorem soundI (hy : Hy g P sp cv) (xi : XI) (xc : Option XC) (env : Env) (W : WX) : ∀ it : I, SD g xi xc env W (JR g) (rdI g sp cv xi W it) (evI P xc env it)
  | .seq e => fun μ S H σ Q I h => by
    rw [evI_seq] at h
    cases hm : evE P xc env e S with
    | err => rw [hm] at h; exact absurd h id
    | exc x S1 =>
      rw [hm] at h
      refine .inl (soundE hy xi xc env W e μ S H σ _ I ?_)
      rw [hm]
      exact h
    | ok x S1 =>
      rw [hm] at h
      dsimp only [bind_ok] at h
      obtain ⟨src, es, h1⟩ := optM_want h
      unfold seqSrc at es
      split at es
      · cases es
        refine .inr (.inl (soundE hy xi xc env W e μ S H σ _ I ?_))
        rw [hm]
        intro v μ1 H1 e1 s1 r1
        obtain ⟨a, xs, rfl, k1, k2⟩ := r1.tup_inv
        exact ⟨a, rfl, ⟨xs, k1⟩, h1 _ _ _ e1 s1 (jr_tup k1 k2)⟩
      · cases es
        refine .inl (soundE hy xi xc env W e μ S H σ _ I ?_)
        rw [hm]
        intro v μ1 H1 e1 s1 r1
        obtain ⟨a, xs, rfl, k1, k2⟩ := r1.rol_inv
        exact ⟨a, rfl, ⟨xs, k1.l⟩, h1 _ _ _ e1 s1 (jr_rol k1 k2)⟩
      · cases es
        refine .inr (.inr (soundE hy xi xc env W e μ S H σ _ I ?_))
        rw [hm]
        intro v μ1 H1 e1 s1 r1
        exact ⟨_, r1.str_inv, h1 _ _ _ e1 s1 jr_str⟩
      · split at es
        · rename_i ds q
          cases es
          refine .inl (soundE hy xi xc env W e μ S H σ _ I ?_)
          rw [hm]
          intro v μ1 H1 e1 s1 r1
          obtain ⟨rfl, hl⟩ := Rl.ref_inv r1
          obtain ⟨xs, k1, k2⟩ := getL_sound s1 q
          exact ⟨_, rfl, ⟨xs, k1⟩, h1 _ _ _ e1 s1 (jr_live hl)⟩
        · cases es
      · cases es
  | .rng1 e => fun μ S H σ Q I h => by
    rw [evI_rng1] at h
    refine (soundE hy xi xc env W e).step I h fun x vx μ1 S1 H1 I1 e1 r1 h1 => ?_
    obtain ⟨src, es', h2⟩ := optM_want h1
    unfold rngOp at es'
    split at es'
    · rename_i j q
      cases q
      split at es'
      · rename_i c
        cases es'
        simp only [small62, Bool.and_eq_true, decide_eq_true_eq] at c
        rw [r1.int_inv]
        exact ⟨_, rfl, c.1, c.2, h2 _ _ _ Ext.refl I1.s jr_rng⟩
      · cases es'
    · rename_i q
      cases q
    · cases es'
  | .rng2 a b => fun μ S H σ Q I h => by
    rw [evI_rng2] at h
    refine (soundE hy xi xc env W a).step I h fun x vx μ1 S1 H1 I1 e1 r1 h1 => ?_
    refine (soundE hy xi xc env W b).step I1 h1 fun y vy μ2 S2 H2 I2 e2 r2 h2 => ?_
    obtain ⟨src, es', h3⟩ := optM_want h2
    unfold rngOp at es'
    split at es'
    · rename_i q
      cases q
    · rename_i q
      cases q
      split at es'
      · rename_i c
        cases es'
        simp only [small62, Bool.and_eq_true, decide_eq_true_eq] at c
        rw [(Rl.ext e2 _ _ r1).int_inv, r2.int_inv]
        exact ⟨_, _, rfl, ⟨c.1.1, c.1.2, c.2.1, c.2.2⟩, h3 _ _ _ Ext.refl I2.s jr_rng⟩
      · cases es'
    · cases es'
  | .enum e => fun μ S H σ Q I h => by
    rw [evI_enum] at h
    refine (soundE hy xi xc env W e).step I h fun x vx μ1 S1 H1 I1 e1 r1 h1 => ?_
    split at h1
    · split at h1
      · rename_i ds q
        obtain ⟨rfl, hl⟩ := Rl.ref_inv r1
        obtain ⟨xs, k1, k2⟩ := getL_sound I1.s q
        exact ⟨_, xs, rfl, .inl ⟨k1, h1 _ _ _ Ext.refl I1.s (jr_enum hl)⟩⟩
      · exact absurd h1 id
    · obtain ⟨a, xs, rfl, k1, k2⟩ := r1.tup_inv
      exact ⟨a, xs, rfl, .inr ⟨k1, h1 _ _ _ Ext.refl I1.s (jr_enumT k1 k2)⟩⟩
    · exact absurd h1 id
  | .zip a b => fun μ S H σ Q I h => by
    rw [evI_zip] at h
    cases ha : evE P xc env a S with
    | err => rw [ha] at h; exact absurd h id
    | exc x S1 =>
      rw [ha] at h
      refine .inl (soundE hy xi xc env W a μ S H σ _ I ?_)
      rw [ha]
      exact h
    | ok x S1 =>
      rw [ha] at h
      dsimp only [bind_ok] at h
      cases hb : evE P xc env b S1 with
      | err => rw [hb] at h; exact absurd h id
      | exc y S2 =>
        rw [hb] at h
        refine .inl (soundE hy xi xc env W a μ S H σ _ I ?_)
        rw [ha]
        intro vx μ1 H1 e1 s1 r1
        refine soundE hy xi xc env W b μ1 S1 H1 σ _ (I.ext e1 s1) ?_
        rw [hb]
        intro cls d μ2 H2 e2 s2 x2
        exact h cls d μ2 H2 (e1.trans e2) s2 x2
      | ok y S2 =>
        rw [hb] at h
        dsimp only [bind_ok] at h
        have two : ∀ {F : List V → Hp → Prop}, (∀ vx vy μ2 H2, Ext g μ S.length H μ2 S2.length H2 → Sim g μ2 S2 H2 → Rl g μ2 S2.length H2 x vx → Rl g μ2 S2.length H2 y vy → F [vx, vy] H2) → tCons (rdE g sp cv xi W a) (tCons (rdE g sp cv xi W b) tNil) σ H F := fun {F} hF => by
          refine soundE hy xi xc env W a μ S H σ _ I ?_
          rw [ha]
          intro vx μ1 H1 e1 s1 r1
          refine soundE hy xi xc env W b μ1 S1 H1 σ _ (I.ext e1 s1) ?_
          rw [hb]
          intro vy μ2 H2 e2 s2 r2
          exact hF vx vy μ2 H2 (e1.trans e2) s2 (Rl.ext e2 _ _ r1) r2
        split at h
        · split at h
          · rename_i ds es q1 q2
            refine .inl (two fun vx vy μ2 H2 e2 s2 r1 r2 => ?_)
            obtain ⟨rfl, hl⟩ := Rl.ref_inv r1
            obtain ⟨rfl, hk⟩ := Rl.ref_inv r2
            obtain ⟨xs, k1, k2⟩ := getL_sound s2 q1
            obtain ⟨ys, k3, k4⟩ := getL_sound s2 q2
            exact ⟨_, _, xs, ys, rfl, .inl ⟨k1, k3, h _ _ _ e2 s2 (jr_zipL hl hk)⟩⟩
          · exact absurd h id
        · refine .inl (two fun vx vy μ2 H2 e2 s2 r1 r2 => ?_)
          obtain ⟨p, xs, rfl, k1, k2⟩ := r1.tup_inv
          obtain ⟨q, ys, rfl, k3, k4⟩ := r2.tup_inv
          exact ⟨_, _, xs, ys, rfl, .inr ⟨k1, k3, h _ _ _ e2 s2 (jr_zipT k1 k2 k3 k4)⟩⟩
        · refine .inr (two fun vx vy μ2 H2 e2 s2 r1 r2 => ?_)
          obtain ⟨q, ys, rfl, k3, k4⟩ := r2.tup_inv
          exact ⟨_, _, ys, by rw [r1.str_inv], k3, h _ _ _ e2 s2 (jr_zipS k3 k4)⟩
        · exact absurd h id
  | .revr es => fun μ S H σ Q I h => by
    rw [evI_revr] at h
    exact absurd h id
theorem soundG (hy : Hy g P sp cv) (xi : XI) (xc : Option XC) (env : Env) : ∀ gt : G, SG g xi xc env (slotsG gt) (rdG g sp cv xi gt) (fun d S => asgG P xc env gt d S)
  | .name i => fun d v μ S H σ Q X I r h => by
    dsimp only at h
    rw [asgG_name] at h
    refine h μ H (σ.set i (some v)) Ext.refl I.s (RlE.set i I.e r) (by simp) (fun j hj => ?_)
    unfold slotsG at hj
    rw [List.getElem?_set_ne (fun z => hj (by simp [z]))]
  | .tup n gs => fun d v μ S H σ Q X I r h => by
    dsimp only at h
    rw [asgG_tup] at h
    split at h
    · split at h
      · rename_i hl
        obtain ⟨a, xs, rfl, k1, k2⟩ := r.tup_inv
        refine ⟨a, xs, rfl, k1, by rw [← k2.length]; exact hl, ?_⟩
        exact soundGs hy xi xc env gs _ xs μ S H σ Q X I k2 h
      · exact absurd h id
    · exact absurd h id
  | .sub a i => fun d v μ S H σ Q X I r h => by
    dsimp only at h
    rw [asgG_sub] at h
    refine soundE hy xi xc env W0 a μ S H σ _ I (VI.R.want_mono (noX_bind (x' := fun _ _ => False) h) (fun x S1 h1 vx μ1 H1 e1 s1 r1 => ?_) (fun _ _ z => absurd z id))
    have I1 := I.ext e1 s1
    refine soundE hy xi xc env W0 i μ1 S1 H1 σ _ I1 (VI.R.want_mono (noX_bind (x' := fun _ _ => False) h1) (fun y S2 h2 vy μ2 H2 e2 s2 r2 => ?_) (fun _ _ z => absurd z id))
    have I2 := I1.ext e2 s2
    split at h2
    · rename_i S' q
      obtain ⟨p, xs, k, j, k1, k2, k3, k4, k5, k6⟩ := setIdx_sound s2 (Rl.ext e2 _ _ r1) r2 (Rl.ext (e1.trans e2) _ _ r) q
      refine ⟨p, xs, k, j, k1, k2, k3, k4, ?_⟩
      have e3 := (e1.trans e2).trans k6
      exact h2 μ2 _ σ e3 k5 (RlE.ext e3 _ _ I.e) rfl (fun _ _ => rfl)
    · exact absurd h2 id
theorem soundGs (hy : Hy g P sp cv) (xi : XI) (xc : Option XC) (env : Env) : ∀ (gs : Gs) (ds : List D) (vs : List V) (μ : Nat → Addr) (S : Store) (H : Hp) (σ : L2.St) (Q : L2.St → Hp → Prop) (X : XC → Store → Prop), IS g xi xc env μ S H σ → Rls g μ S.length H ds vs →
    (asgGs P xc env gs ds S).want (fun env' S' => ∀ μ' H' σ', Ext g μ S.length H μ' S'.length H' → Sim g μ' S' H' → RlE g μ' S'.length H' xi.a env' σ' → σ'.length = σ.length → (∀ i, i ∉ slotsGs gs → σ'[i]? = σ[i]?) → Q σ' H') X → rdGs g sp cv xi gs vs σ H Q
  | .nil => fun ds vs μ S H σ Q X I r h => by
    rw [asgGs_nil] at h
    split at h
    · exact ⟨r.nil_inv, h μ H σ Ext.refl I.s I.e rfl (fun _ _ => rfl)⟩
    · exact absurd h id
  | .cons gt gs => fun ds vs μ S H σ Q X I r h => by
    rw [asgGs_cons] at h
    split at h
    · exact absurd h id
    · obtain ⟨v, ws, rfl, k1, k2⟩ := r.cons_inv
      refine ⟨v, ws, rfl, ?_⟩
      refine soundG hy xi xc env gt _ v μ S H σ _ X I k1 (VI.R.want_mono (VI.R.want_bind h) (fun env1 S1 h1 μ1 H1 σ1 e1 s1 re1 hl1 ho1 => ?_) (fun _ _ z => z))
      have I1 : IS g xi xc env1 μ1 S1 H1 σ1 := ⟨s1, re1, I.x.ext e1⟩
      refine soundGs hy xi xc env1 gs _ ws μ1 S1 H1 σ1 Q X I1 (Rls.ext e1 _ _ k2) (VI.R.want_mono h1 (fun env2 S2 h2 μ2 H2 σ2 e2 s2 re2 hl2 ho2 => ?_) (fun _ _ z => z))
      refine h2 μ2 H2 σ2 (e1.trans e2) s2 re2 (hl2.trans hl1) (fun i hi => ?_)
      unfold slotsGs at hi
      rw [ho2 i (fun z => hi (List.mem_append_right _ z)), ho1 i (fun z => hi (List.mem_append_left _ z))]
end
end
end VI

set_option Elab.async false
set_option linter.all false
set_option maxRecDepth 100000
/-! VIh: statements: their readings hold. -/
namespace VI
open PySem L2 RZ

def RS.want (r : RS) (k : Fl → Env → Store → Prop) (x : XC → Env → Store → Prop) : Prop := match r with
  | .ok f env S => k f env S
  | .exc e env S => x e env S
  | .err => False
theorem toS_want {α : Type} {r : R α} {env : Env} {f : α → Store → RS} {k : Fl → Env → Store → Prop} {x : XC → Env → Store → Prop} (h : (r.toS env f).want k x) : r.want (fun a S => (f a S).want k x) (fun e S => x e env S) := by
  cases r with
  | ok a S => exact h
  | exc e S => exact h
  | err => exact h
theorem RS.want_mono {r : RS} {k k' : Fl → Env → Store → Prop} {x x' : XC → Env → Store → Prop} (h : r.want k x) (hk : ∀ f e S, k f e S → k' f e S) (hx : ∀ a e S, x a e S → x' a e S) : r.want k' x' := by
  cases r with
  | ok f e S => exact hk _ _ _ h
  | exc a e S => exact hx _ _ _ h
  | err => exact h
/-- a statement's end, by its kind -/
abbrev KS (g : Glb) (ea : Addr) (μ : Nat → Addr) (n : Nat) (H : Hp) (D : Ends) : Fl → Env → Store → Prop := fun f env' S' => ∀ μ' H', Ext g μ n H μ' S'.length H' → Sim g μ' S' H' → match f with
  | .nx => ∀ σ', RlE g μ' S'.length H' ea env' σ' → D.nx σ' H'
  | .rt d => ∀ v, Rl g μ' S'.length H' d v → D.rt v H'
  | .bk => ∀ σ', RlE g μ' S'.length H' ea env' σ' → D.bk σ' H'
  | .ct => ∀ σ', RlE g μ' S'.length H' ea env' σ' → D.ct σ' H'
abbrev KXS (g : Glb) (ea : Addr) (μ : Nat → Addr) (n : Nat) (H : Hp) (W : WX) : XC → Env → Store → Prop := fun x env' S' => ∀ cls d σ' μ' H', Ext g μ n H μ' S'.length H' → Sim g μ' S' H' → RlE g μ' S'.length H' ea env' σ' → XR g μ' S'.length H' x cls d → W cls d σ' H'
section
variable {g : Glb} {ea : Addr} {μ μ' : Nat → Addr} {n n' : Nat} {H H' : Hp} {D : Ends} {W : WX}
theorem wantS_shift {r : RS} (e : Ext g μ n H μ' n' H') (h : r.want (KS g ea μ n H D) (KXS g ea μ n H W)) : r.want (KS g ea μ' n' H' D) (KXS g ea μ' n' H' W) :=
  RS.want_mono h (fun f env S k μ2 H2 e2 s2 => k μ2 H2 (e.trans e2) s2) (fun x env S k cls d σ μ2 H2 e2 s2 r2 x2 => k cls d σ μ2 H2 (e.trans e2) s2 r2 x2)
end
def SS (g : Glb) (xi : XI) (xc : Option XC) (W : WX) (t : TS) (m : Env → Store → RS) : Prop :=
  ∀ (env : Env) (μ : Nat → Addr) (S : Store) (H : Hp) (σ : L2.St) (D : Ends), IS g xi xc env μ S H σ → (m env S).want (KS g xi.a μ S.length H D) (KXS g xi.a μ S.length H W) → t D σ H
section
variable {g : Glb} {P : Pg} {sp : Nat → Sp} {cv : Nat → V} {xi : XI} {xc : Option XC} {env : Env} {W : WX}
/-- an expression within a statement -/
theorem SD.stepS {α β : Type} {Rr : Rel α β} {t : L2.St → Hp → (β → Hp → Prop) → Prop} {m : M α} (h : SD g xi xc env W Rr t m) {μ : Nat → Addr} {S : Store} {H : Hp} {σ : L2.St} {Q : β → Hp → Prop} {D : Ends} {f : α → Store → RS}
    (I : IS g xi xc env μ S H σ) (hw : ((m S).toS env f).want (KS g xi.a μ S.length H D) (KXS g xi.a μ S.length H W))
    (k : ∀ a b μ1 S1 H1, IS g xi xc env μ1 S1 H1 σ → Ext g μ S.length H μ1 S1.length H1 → Rr μ1 S1.length H1 a b → (f a S1).want (KS g xi.a μ1 S1.length H1 D) (KXS g xi.a μ1 S1.length H1 W) → Q b H1) : t σ H Q :=
  h μ S H σ Q I (VI.R.want_mono (toS_want hw) (fun a S1 h1 b μ1 H1 e1 s1 r1 => k a b μ1 S1 H1 (I.ext e1 s1) e1 r1 (wantS_shift e1 h1))
    (fun x S1 h1 cls d μ1 H1 e1 s1 x1 => h1 cls d σ μ1 H1 e1 s1 (RlE.ext e1 _ _ I.e) x1))
theorem KS.nx_here {μ : Nat → Addr} {S : Store} {H : Hp} {σ : L2.St} {D : Ends} (h : (RS.ok .nx env S).want (KS g xi.a μ S.length H D) (KXS g xi.a μ S.length H W)) (s : Sim g μ S H) (e : RlE g μ S.length H xi.a env σ) : D.nx σ H := h μ H Ext.refl s σ e
theorem augOp_sound {o : BO} {μ : Nat → Addr} {S : Store} {H : Hp} {x y : V} {dx dy : VI.D} {Q : VK} {X0 : XC → Store → Prop} (s : Sim g μ S H) (rx : Rl g μ S.length H dx x) (ry : Rl g μ S.length H dy y) (h : (augOp o dx dy S).want (Kv g μ S.length H Q) X0) : rAug o x y H Q := by
  unfold augOp at h
  split at h
  · obtain rfl := rx.int_inv
    obtain rfl := ry.int_inv
    split at h
    · exact .inl ⟨_, _, rfl, rfl, Kv.here h s Rl.int_i⟩
    · exact ⟨_, _, rfl, rfl, Kv.here h s Rl.int_i⟩
    · exact absurd h id
  · obtain rfl := rx.str_inv
    obtain rfl := ry.str_inv
    split at h
    · split at h
      · rename_i hl
        exact .inr (.inl ⟨_, _, rfl, rfl, by rw [← LIM_eq]; exact hl, Kv.here h s Rl.str_i⟩)
      · exact absurd h id
    · exact absurd h id
  · obtain ⟨rfl, l1⟩ := Rl.ref_inv rx
    obtain ⟨rfl, l2⟩ := Rl.ref_inv ry
    split at h
    · split at h
      · rename_i a b e1 e2
        split at h
        · rename_i hl
          obtain ⟨xs, h1, h2⟩ := s.lst e1
          obtain ⟨ys, h3, h4⟩ := s.lst e2
          refine .inr (.inr ⟨_, _, xs, ys, rfl, rfl, h1, h3, by rw [← h2.length, ← h4.length, ← LIM_eq]; exact hl, ?_⟩)
          obtain ⟨z1, z2⟩ := s.wlst e1 (Rls.append h2 h4)
          refine h _ _ _ z2 z1 ?_
          exact Rl.ref_i (by simpa using l1)
        · exact absurd h id
      · exact absurd h id
    · exact absurd h id
  · exact absurd h id
theorem while_sound {tt : TT} {tb : TS} {test : Env → M Bool} {body : Env → Store → RS} (ht : ∀ env, SD g xi xc env W (fun _ _ _ (a b : Bool) => a = b) tt (test env)) (hb : SS g xi xc W tb body) : SS g xi xc W (tWhile tt tb) (fun env S => whileLoop test body turns env S) := by
  intro env μ S H σ D I h
  refine ⟨fun m σ H => ∃ env μ S, IS g xi xc env μ S H σ ∧ (whileLoop test body m env S).want (KS g xi.a μ S.length H D) (KXS g xi.a μ S.length H W), ⟨turns, env, μ, S, I, h⟩, ?_⟩
  rintro m σ H ⟨env, μ, S, I, h⟩
  cases m with
  | zero => exact absurd h id
  | succ m =>
    unfold whileLoop at h
    refine (ht env).stepS I h fun b b' μ1 S1 H1 I1 e1 r1 h1 => ?_
    have r1 : b = b' := r1
    subst r1
    cases b with
    | false =>
      rw [if_neg Bool.false_ne_true]
      exact KS.nx_here h1 I1.s I1.e
    | true =>
      rw [if_pos rfl]
      refine ⟨fun σ H => ∃ env μ S, IS g xi xc env μ S H σ ∧ (whileLoop test body m env S).want (KS g xi.a μ S.length H D) (KXS g xi.a μ S.length H W), fun σ' H' z => ⟨m, Nat.lt_succ_self m, z⟩, ?_⟩
      refine hb env μ1 S1 H1 σ _ I1 ?_
      rw [if_pos rfl] at h1
      have go : ∀ env2 S2, (whileLoop test body m env2 S2).want (KS g xi.a μ1 S1.length H1 D) (KXS g xi.a μ1 S1.length H1 W) → ∀ μ' H', Ext g μ1 S1.length H1 μ' S2.length H' → Sim g μ' S2 H' → ∀ σ', RlE g μ' S2.length H' xi.a env2 σ' →
          ∃ env μ S, IS g xi xc env μ S H' σ' ∧ (whileLoop test body m env S).want (KS g xi.a μ S.length H' D) (KXS g xi.a μ S.length H' W) :=
        fun env2 S2 h2 μ' H' e2 s2 σ' re => ⟨env2, μ', S2, ⟨s2, re, I1.x.ext e2⟩, wantS_shift e2 h2⟩
      cases hr : body env S1 with
      | err => rw [hr] at h1; exact absurd h1 id
      | exc x env2 S2 => rw [hr] at h1; exact h1
      | ok f env2 S2 =>
        rw [hr] at h1
        cases f with
        | nx => exact fun μ' H' e2 s2 σ' re => go env2 S2 h1 μ' H' e2 s2 σ' re
        | ct => exact fun μ' H' e2 s2 σ' re => go env2 S2 h1 μ' H' e2 s2 σ' re
        | bk => exact fun μ' H' e2 s2 σ' re => h1 μ' H' e2 s2 σ' re
        | rt d => exact fun μ' H' e2 s2 v rv => h1 μ' H' e2 s2 v rv
theorem for_sound {wi : TI} {gt : TG} {tb : TS} {sl : List Nat} {mi : Env → M Src} {asg : VI.D → Env → M Env} {body : Env → Store → RS} (hi : ∀ env, SD g xi xc env W (JR g) wi (mi env)) (hg : ∀ env, SG g xi xc env sl gt (fun d S => asg d env S)) (hb : SS g xi xc W tb body)
    (hx : ∀ d env S x S', asg d env S ≠ .exc x S') :
    SS g xi xc W (tFor wi gt tb) (fun env S => (mi env S).toS env fun src S => forLoop src asg body turns 0 env S) := by
  intro env μ S H σ D I h
  refine (hi env).stepS I h fun src J μ1 S1 H1 I1 e1 jr h1 => ?_
  refine ⟨fun i m σ H => ∃ env μ S, IS g xi xc env μ S H σ ∧ JR g μ S.length H src J ∧ (forLoop src asg body m i env S).want (KS g xi.a μ S.length H D) (KXS g xi.a μ S.length H W), ⟨turns, env, μ1, S1, I1, jr, h1⟩, ?_⟩
  rintro i m σ H ⟨env, μ, S, I, jr, h⟩
  cases m with
  | zero => exact absurd h id
  | succ m =>
    unfold forLoop at h
    obtain ⟨j1, j2⟩ := jr μ S H Ext.refl I.s i
    split at h
    · exact absurd h id
    · rename_i q
      exact .inl ⟨j1 q, KS.nx_here h I.s I.e⟩
    · rename_i d q
      obtain ⟨go, yl⟩ := j2 d q
      refine .inr ⟨go, fun σ H => ∃ env μ S, IS g xi xc env μ S H σ ∧ JR g μ S.length H src J ∧ (forLoop src asg body m (i + 1) env S).want (KS g xi.a μ S.length H D) (KXS g xi.a μ S.length H W), fun σ' H' z => ⟨m, Nat.lt_succ_self m, z⟩, fun x H2 hy => ?_⟩
      obtain ⟨e2, s2, r2⟩ := yl x H2 hy
      have I2 := I.ext e2 s2
      refine hg env d x μ S H2 σ _ (fun _ _ => True) I2 r2 ?_
      have h := toS_want (wantS_shift e2 h)
      cases ha : asg d env S with
      | err => rw [ha] at h; exact absurd h id
      | exc x S' => exact absurd ha (hx d env S x S')
      | ok env3 S3 =>
        rw [ha] at h
        show (asg d env S).want _ _
        rw [ha]
        intro μ3 H3 σ3 e3 s3 re3 _ _
        have I3 : IS g xi xc env3 μ3 S3 H3 σ3 := ⟨s3, re3, I2.x.ext e3⟩
        refine hb env3 μ3 S3 H3 σ3 _ I3 ?_
        have h := wantS_shift e3 h
        have e23 := e2.trans e3
        have go : ∀ env4 S4, (forLoop src asg body m (i + 1) env4 S4).want (KS g xi.a μ3 S3.length H3 D) (KXS g xi.a μ3 S3.length H3 W) → ∀ μ' H', Ext g μ3 S3.length H3 μ' S4.length H' → Sim g μ' S4 H' → ∀ σ', RlE g μ' S4.length H' xi.a env4 σ' →
            ∃ env μ S, IS g xi xc env μ S H' σ' ∧ JR g μ S.length H' src J ∧ (forLoop src asg body m (i + 1) env S).want (KS g xi.a μ S.length H' D) (KXS g xi.a μ S.length H' W) :=
          fun env4 S4 h4 μ' H' e4 s4 σ' re => ⟨env4, μ', S4, ⟨s4, re, I3.x.ext e4⟩, JR.ext (e23.trans e4) jr, wantS_shift e4 h4⟩
        cases hr : body env3 S3 with
        | err => rw [hr] at h; exact absurd h id
        | exc x env4 S4 => rw [hr] at h; exact h
        | ok f env4 S4 =>
          rw [hr] at h
          cases f with
          | nx => exact fun μ' H' e2 s2 σ' re => go env4 S4 h μ' H' e2 s2 σ' re
          | ct => exact fun μ' H' e2 s2 σ' re => go env4 S4 h μ' H' e2 s2 σ' re
          | bk => exact fun μ' H' e2 s2 σ' re => h μ' H' e2 s2 σ' re
          | rt d => exact fun μ' H' e2 s2 v rv => h μ' H' e2 s2 v rv
theorem noX_ne {α : Type} {r : R α} {x : XC} {S : Store} : r.noX ≠ .exc x S := by
  cases r <;> intro h <;> cases h
theorem bind_ne {α β : Type} {r : R α} {f : α → Store → R β} {x : XC} {S : Store} (h1 : ∀ x S, r ≠ .exc x S) (h2 : ∀ a S', f a S' ≠ .exc x S) : r.bind f ≠ .exc x S := by
  cases r with
  | ok a S' => exact h2 a S'
  | exc y S' => exact absurd rfl (h1 y S')
  | err => intro h; cases h
mutual
theorem asgG_nx (P : Pg) (xc : Option XC) : ∀ (gt : G) (env : Env) (d : VI.D) (S : Store) (x : XC) (S' : Store), asgG P xc env gt d S ≠ .exc x S'
  | .name i, env, d, S, x, S' => by rw [asgG_name]; intro h; cases h
  | .tup n gs, env, d, S, x, S' => by
    rw [asgG_tup]
    split
    · split
      · exact asgGs_nx P xc gs env _ S x S'
      · intro h; cases h
    · intro h; cases h
  | .sub a i, env, d, S, x, S' => by
    rw [asgG_sub]
    refine bind_ne (fun _ _ => noX_ne) fun _ _ => bind_ne (fun _ _ => noX_ne) fun _ _ => ?_
    split
    · intro h; cases h
    · intro h; cases h
theorem asgGs_nx (P : Pg) (xc : Option XC) : ∀ (gs : Gs) (env : Env) (ds : List VI.D) (S : Store) (x : XC) (S' : Store), asgGs P xc env gs ds S ≠ .exc x S'
  | .nil, env, ds, S, x, S' => by
    rw [asgGs_nil]
    split
    · intro h; cases h
    · intro h; cases h
  | .cons gt gs, env, ds, S, x, S' => by
    rw [asgGs_cons]
    split
    · intro h; cases h
    · exact bind_ne (fun x S => asgG_nx P xc gt env _ _ x S) fun env1 S1 => asgGs_nx P xc gs env1 _ S1 x S'
end
theorem zip_Rlk {μ : Nat → Addr} {n : Nat} {H : Hp} : ∀ {fs : List Str} {ds : List VI.D} {vs : List V}, Rls g μ n H ds vs → Rlk g μ n H (fs.zip ds) (fs.zip vs)
  | [], ds, vs, r => by simp [Rlk]
  | f :: fs, [], vs, r => by rw [r.nil_inv]; simp [Rlk]
  | f :: fs, d :: ds, vs, r => by
    obtain ⟨x, ys, rfl, h1, h2⟩ := r.cons_inv
    show Rlk g μ n H ((f, d) :: fs.zip ds) ((f, x) :: fs.zip ys)
    unfold Rlk
    exact ⟨x, _, rfl, h1, zip_Rlk h2⟩
theorem Rlk.append {κ : Type} {μ : Nat → Addr} {n : Nat} {H : Hp} : ∀ {as bs : List (κ × VI.D)} {xs ys : List (κ × V)}, Rlk g μ n H as xs → Rlk g μ n H bs ys → Rlk g μ n H (as ++ bs) (xs ++ ys)
  | [], bs, xs, ys, h, h' => by unfold Rlk at h; subst h; exact h'
  | (k, d) :: as, bs, xs, ys, h, h' => by
    unfold Rlk at h
    obtain ⟨x, zs, rfl, h1, h2⟩ := h
    show Rlk g μ n H ((k, d) :: (as ++ bs)) ((k, x) :: (zs ++ ys))
    unfold Rlk
    exact ⟨x, _, rfl, h1, Rlk.append h2 h'⟩
theorem Rlk.reverse {κ : Type} {μ : Nat → Addr} {n : Nat} {H : Hp} : ∀ {as : List (κ × VI.D)} {xs : List (κ × V)}, Rlk g μ n H as xs → Rlk g μ n H as.reverse xs.reverse
  | [], xs, h => by unfold Rlk at h; subst h; unfold Rlk; rfl
  | (k, d) :: as, xs, h => by
    unfold Rlk at h
    obtain ⟨x, zs, rfl, h1, h2⟩ := h
    rw [List.reverse_cons, List.reverse_cons]
    refine Rlk.append (Rlk.reverse h2) ?_
    show Rlk g μ n H [(k, d)] [(k, x)]
    unfold Rlk
    exact ⟨x, [], rfl, h1, by unfold Rlk; rfl⟩
theorem Sim.axd {μ : Nat → Addr} {S : Store} {H : Hp} (s : Sim g μ S H) {p : Addr} {fs : List (Str × V)} (hp : H p = none) : Sim g μ S (upd H p (.xd fs)) ∧ Ext g μ S.length H μ S.length (upd H p (.xd fs)) := ⟨s.new hp, Ext.new hp⟩
mutual
theorem soundS (hy : Hy g P sp cv) : ∀ (xi : XI) (xc : Option XC) (W : WX) (s : VI.S), SS g xi xc W (rdS g sp cv xi W s) (exS P xc s)
  | xi, xc, W, .asg gt e => fun env μ S H σ D I h => by
    rw [exS_asg] at h
    refine (soundE hy xi xc env W e).stepS I h fun x vx μ1 S1 H1 I1 e1 r1 h1 => ?_
    refine soundG hy xi xc env gt x vx μ1 S1 H1 σ _ _ I1 r1 (VI.R.want_mono (toS_want h1) (fun env2 S2 h2 μ2 H2 σ2 e2 s2 re2 _ _ => ?_) (fun _ _ z => z))
    exact KS.nx_here (xi := xi) (W := W) (wantS_shift e2 h2) s2 re2
  | xi, xc, W, .asgI a i e => fun env μ S H σ D I h => by
    rw [exS_asgI] at h
    cases he : evE P xc env e S with
    | err => rw [he] at h; exact absurd h id
    | exc x S1 =>
      rw [he] at h
      refine .inl (soundE hy xi xc env W e μ S H σ _ I ?_)
      rw [he]
      exact fun cls d μ1 H1 e1 s1 x1 => h cls d σ μ1 H1 e1 s1 (RlE.ext e1 _ _ I.e) x1
    | ok d S1 =>
      rw [he] at h
      dsimp only [toS_ok] at h
      cases ha : evE P xc env a S1 with
      | err => rw [ha] at h; exact absurd h id
      | exc x S2 => rw [ha] at h; exact absurd h id
      | ok x S2 =>
        rw [ha] at h
        dsimp only [noX_ok, toS_ok] at h
        cases hi : evE P xc env i S2 with
        | err => rw [hi] at h; exact absurd h id
        | exc x S3 => rw [hi] at h; exact absurd h id
        | ok y S3 =>
          rw [hi] at h
          dsimp only [noX_ok, toS_ok] at h
          split at h
          · rename_i S' q
            rcases setIdxD_else q with ⟨l, kvs, el, ec⟩ | q'
            · refine .inr (soundE hy xi xc env W e μ S H σ _ I ?_)
              rw [he]
              intro vd μ1 H1 e1 s1 rd
              have I1 := I.ext e1 s1
              refine soundE hy xi xc env W0 a μ1 S1 H1 σ _ I1 ?_
              rw [ha]
              intro vx μ2 H2 e2 s2 rx
              have I2 := I1.ext e2 s2
              refine soundE hy xi xc env W0 i μ2 S2 H2 σ _ I2 ?_
              rw [hi]
              intro vy μ3 H3 e3 s3 ry
              have I3 := I2.ext e3 s3
              obtain ⟨p, H4, k1, k2, k3, k4⟩ := setIdxD_sound s3 (Rl.ext e3 _ _ rx) ry (Rl.ext (e2.trans e3) _ _ rd) el ec q
              have e4 := ((e1.trans e2).trans e3).trans k4
              exact ⟨p, H4, k1, k2, h μ3 H4 e4 k3 σ (RlE.ext e4 _ _ I.e)⟩
            · refine .inl (soundE hy xi xc env W e μ S H σ _ I ?_)
              rw [he]
              intro vd μ1 H1 e1 s1 rd
              have I1 := I.ext e1 s1
              refine soundE hy xi xc env W0 a μ1 S1 H1 σ _ I1 ?_
              rw [ha]
              intro vx μ2 H2 e2 s2 rx
              have I2 := I1.ext e2 s2
              refine soundE hy xi xc env W0 i μ2 S2 H2 σ _ I2 ?_
              rw [hi]
              intro vy μ3 H3 e3 s3 ry
              have I3 := I2.ext e3 s3
              obtain ⟨p, xs, k, j, k1, k2, k3, k4, k5, k6⟩ := setIdx_sound s3 (Rl.ext e3 _ _ rx) ry (Rl.ext (e2.trans e3) _ _ rd) q'
              refine ⟨p, xs, k, j, k1, k2, k3, k4, ?_⟩
              have e4 := ((e1.trans e2).trans e3).trans k6
              exact h μ3 _ e4 k5 σ (RlE.ext e4 _ _ I.e)
          · exact absurd h id
  | xi, xc, W, .asgF a f e => fun env μ S H σ D I h => by
    rw [exS_asgF] at h
    refine (soundE hy xi xc env W e).stepS I h fun x vx μ1 S1 H1 I1 e1 r1 h1 => ?_
    refine (soundE hy xi xc env W a).stepS I1 h1 fun y vy μ2 S2 H2 I2 e2 r2 h2 => ?_
    split at h2
    · rename_i S' q
      obtain ⟨p, C, dp, fs, k1, k2, k3, k4, k5, k6, k7, _⟩ := setFld_sound hy.na I2.s r2 (Rl.ext e2 _ _ r1) q
      exact ⟨p, C, dp, fs, k1, k2, k3, k4, k5, h2 μ2 _ k7 k6 σ (RlE.ext k7 _ _ I2.e)⟩
    · exact absurd h2 id
  | xi, xc, W, .par i j es => fun env μ S H σ D I h => by
    rw [exS_par] at h
    refine (soundEs hy xi xc env W es).stepS I h fun ds vs μ1 S1 H1 I1 e1 r1 h1 => ?_
    split at h1
    · obtain ⟨x, y, rfl, k1, k2⟩ := Rls.two_inv r1
      exact ⟨x, y, rfl, KS.nx_here (xi := xi) (W := W) h1 I1.s (RlE.set _ (RlE.set _ I1.e k1) k2)⟩
    · exact absurd h1 id
  | xi, xc, W, .par3 i j k es => fun env μ S H σ D I h => by
    rw [exS_par3] at h
    refine (soundEs hy xi xc env W es).stepS I h fun ds vs μ1 S1 H1 I1 e1 r1 h1 => ?_
    split at h1
    · obtain ⟨x, ys, rfl, k1, k2⟩ := Rls.cons_inv r1
      obtain ⟨y, z, rfl, k3, k4⟩ := Rls.two_inv k2
      exact ⟨x, y, z, rfl, KS.nx_here (xi := xi) (W := W) h1 I1.s (RlE.set _ (RlE.set _ (RlE.set _ I1.e k1) k3) k4)⟩
    · exact absurd h1 id
  | xi, xc, W, .aug i o e => fun env μ S H σ D I h => by
    rw [exS_aug] at h
    split at h
    · rename_i x q
      obtain ⟨vx, k1, k2⟩ := I.e.get (getV_some q)
      refine ⟨vx, k1, ?_⟩
      refine (soundE hy xi xc env W e).stepS I h fun y vy μ1 S1 H1 I1 e1 r1 h1 => ?_
      refine augOp_sound I1.s (Rl.ext e1 _ _ k2) r1 (VI.R.want_mono (toS_want h1) (fun z S2 h2 vz μ2 H2 e2 s2 r2 => ?_) (fun _ _ z => z))
      exact KS.nx_here (xi := xi) (W := W) (wantS_shift e2 h2) s2 (RlE.set _ (RlE.ext e2 _ _ I1.e) r2)
    · exact absurd h id
  | xi, xc, W, .augF a f o e => fun env μ S H σ D I h => by
    rw [exS_augF] at h
    refine (soundE hy xi xc env W a).stepS I h fun x vx μ1 S1 H1 I1 e1 r1 h1 => ?_
    dsimp only at h1
    split at h1
    · rename_i v q
      obtain ⟨p, C, dp, fs, vv, k1, k2, k3, k4, k5, k6, c, k7, k8⟩ := getFld_sound I1.s r1 q
      refine ⟨p, C, dp, fs, vv, k1, k2, k3, k4, k5, ?_⟩
      refine (soundE hy xi xc env W e).stepS I1 h1 fun y vy μ2 S2 H2 I2 e2 r2 h2 => ?_
      refine augOp_sound I2.s (Rl.ext e2 _ _ k6) r2 (VI.R.want_mono (toS_want h2) (fun z S3 h3 vz μ3 H3 e3 s3 r3 => ?_) (fun _ _ z => z))
      split at h3
      · rename_i hcl
        split at h3
        · rename_i S' q2
          have e13 := e2.trans e3
          obtain ⟨p', C', dp', fs', j1, j2, j3, j4, j5, j6, j7, c', j8, j9⟩ := setFld_sound hy.na s3 (Rl.ext e13 _ _ r1) r3 q2
          rw [k1] at j1
          cases j1
          have hC : C' = C := by
            rw [k7, j8] at hcl
            cases hcl
            rw [j9, k8]
          subst hC
          exact ⟨dp', fs', j2, j5, h3 μ3 _ (e3.trans j7) j6 σ (RlE.ext (e3.trans j7) _ _ I2.e)⟩
        · exact absurd h3 id
      · exact absurd h3 id
    · exact absurd h1 id
  | xi, xc, W, .augI a i o e => fun env μ S H σ D I h => by
    rw [exS_augI] at h
    refine (soundE hy xi xc env W a).stepS I h fun x vx μ1 S1 H1 I1 e1 r1 h1 => ?_
    refine (soundE hy xi xc env W i).stepS I1 h1 fun k vk μ2 S2 H2 I2 e2 r2 h2 => ?_
    split at h2
    · rename_i v q
      obtain ⟨p, xs, j, w, k1, k2, k3, k4, k5⟩ := getLI_sound I2.s (Rl.ext e2 _ _ r1) r2 q
      refine ⟨p, xs, j, w, k1, k2, k3, k4, ?_⟩
      refine (soundE hy xi xc env W e).stepS I2 h2 fun y vy μ3 S3 H3 I3 e3 r3 h3 => ?_
      refine augOp_sound I3.s (Rl.ext e3 _ _ k5) r3 (VI.R.want_mono (toS_want h3) (fun z S4 h4 vz μ4 H4 e4 s4 r4 => ?_) (fun _ _ z => z))
      split at h4
      · rename_i S' q2
        have e24 := e3.trans e4
        obtain ⟨p', ys, k', j', j1, j2, j3, j4, j5, j6⟩ := setIdx_sound s4 (Rl.ext (e2.trans e24) _ _ r1) (Rl.ext e24 _ _ r2) r4 q2
        exact ⟨p', ys, k', j', j1, j2, j3, j4, h4 μ4 _ (e4.trans j6) j5 σ (RlE.ext (e4.trans j6) _ _ I3.e)⟩
      · exact absurd h4 id
    · exact absurd h2 id
  | xi, xc, W, .ife t a b => fun env μ S H σ D I h => by
    rw [exS_ife] at h
    refine (soundT hy xi xc env W t).stepS I h fun k k' μ1 S1 H1 I1 e1 r1 h1 => ?_
    have r1 : k = k' := r1
    subst r1
    cases k with
    | true => exact soundSs hy xi xc W a env μ1 S1 H1 σ D I1 h1
    | false => exact soundSs hy xi xc W b env μ1 S1 H1 σ D I1 h1
  | xi, xc, W, .while_ t b => fun env μ S H σ D I h => by
    rw [exS_while] at h
    exact while_sound (fun env => soundT hy xi xc env W t) (soundSs hy xi xc W b) env μ S H σ D I h
  | xi, xc, W, .for_ it gt b => fun env μ S H σ D I h => by
    rw [exS_for] at h
    exact for_sound (fun env => soundI hy xi xc env W it) (fun env => soundG hy xi xc env gt) (soundSs hy xi xc W b) (fun d env S x S' => asgG_nx P xc gt env d S x S') env μ S H σ D I h
  | xi, xc, W, .ret e => fun env μ S H σ D I h => by
    rw [exS_ret] at h
    refine (soundE hy xi xc env W e).stepS I h fun x vx μ1 S1 H1 I1 e1 r1 h1 => ?_
    exact h1 μ1 H1 Ext.refl I1.s vx r1
  | xi, xc, W, .retN => fun env μ S H σ D I h => by
    rw [exS_retN] at h
    exact h μ H Ext.refl I.s .non Rl.non_i
  | xi, xc, W, .drop e => fun env μ S H σ D I h => by
    rw [exS_drop] at h
    refine (soundE hy xi xc env W e).stepS I h fun x vx μ1 S1 H1 I1 e1 r1 h1 => ?_
    exact KS.nx_here (xi := xi) (W := W) h1 I1.s I1.e
  | xi, xc, W, .pass => fun env μ S H σ D I h => by
    rw [exS_pass] at h
    exact KS.nx_here (xi := xi) (W := W) h I.s I.e
  | xi, xc, W, .brk => fun env μ S H σ D I h => by
    rw [exS_brk] at h
    exact h μ H Ext.refl I.s σ I.e
  | xi, xc, W, .cont => fun env μ S H σ D I h => by
    rw [exS_cont] at h
    exact h μ H Ext.refl I.s σ I.e
  | xi, xc, W, .raise c k es => fun env μ S H σ D I h => by
    rw [exS_raise] at h
    cases k with
    | init fs =>
      refine (soundEs hy xi xc env W es).stepS I h fun ds vs μ1 S1 H1 I1 e1 r1 h1 => ?_
      split at h1
      · rename_i fs' hk
        cases hk
        split at h1
        · rename_i hl
          refine ⟨by rw [← Rls.length r1]; exact hl, fun dd hd => ?_⟩
          obtain ⟨z1, z2⟩ := I1.s.axd (fs := (fs.zip vs).reverse) hd
          refine h1 _ _ σ μ1 _ z2 z1 (RlE.ext z2 _ _ I1.e) ⟨rfl, .inr ⟨dd, _, rfl, upd_same, Rlk.ext z2 _ _ (Rlk.reverse (zip_Rlk r1))⟩⟩
        · exact absurd h1 id
      · rename_i hk
        cases hk
    | bare =>
      refine (soundEs hy xi xc env W es).stepS I h fun ds vs μ1 S1 H1 I1 e1 r1 h1 => ?_
      split at h1
      · rename_i hk
        cases hk
      · split at h1
        · rename_i hl
          exact ⟨by rw [← Rls.length r1, ← LIM_eq]; exact hl, h1 _ _ σ μ1 _ Ext.refl I1.s I1.e ⟨rfl, .inl ⟨rfl, rfl⟩⟩⟩
        · exact absurd h1 id
  | xi, xc, W, .try_ b hs => fun env μ S H σ D I h => by
    rw [exS_try] at h
    refine soundSs hy xi xc _ b env μ S H σ D I ?_
    cases hr : exSs P xc b env S with
    | err => rw [hr] at h; exact absurd h id
    | ok f env1 S1 => rw [hr] at h; exact h
    | exc x env1 S1 =>
      rw [hr] at h
      intro cls d σ1 μ1 H1 e1 s1 re1 x1
      exact soundHs hy xi W D hs x cls d env1 μ1 S1 H1 σ1 s1 re1 x1 (wantS_shift e1 h)
theorem soundSs (hy : Hy g P sp cv) : ∀ (xi : XI) (xc : Option XC) (W : WX) (ss : Ss), SS g xi xc W (rdSs g sp cv xi W ss) (exSs P xc ss)
  | xi, xc, W, .nil => fun env μ S H σ D I h => by
    rw [exSs_nil] at h
    exact KS.nx_here (xi := xi) (W := W) h I.s I.e
  | xi, xc, W, .cons s ss => fun env μ S H σ D I h => by
    rw [exSs_cons] at h
    refine soundS hy xi xc W s env μ S H σ _ I ?_
    cases hr : exS P xc s env S with
    | err => rw [hr] at h; exact absurd h id
    | exc x env1 S1 => rw [hr] at h; exact h
    | ok f env1 S1 =>
      rw [hr] at h
      cases f with
      | nx => exact fun μ1 H1 e1 s1 σ1 re1 => soundSs hy xi xc W ss env1 μ1 S1 H1 σ1 D ⟨s1, re1, I.x.ext e1⟩ (wantS_shift e1 h)
      | rt d => exact h
      | bk => exact h
      | ct => exact h
theorem soundHs (hy : Hy g P sp cv) : ∀ (xi : XI) (W : WX) (D : Ends) (hs : Hs) (x : XC) (cls : Value) (d : Option Addr) (env : Env) (μ : Nat → Addr) (S : Store) (H : Hp) (σ : L2.St), Sim g μ S H → RlE g μ S.length H xi.a env σ → XR g μ S.length H x cls d →
    (exHs P x hs env S).want (KS g xi.a μ S.length H D) (KXS g xi.a μ S.length H W) → rdHs g sp cv W D hs cls d σ H
  | xi, W, D, .nil, x, cls, d, env, μ, S, H, σ, s, re, xr, h => by
    rw [exHs_nil] at h
    exact h cls d σ μ H Ext.refl s re xr
  | xi, W, D, .cons c i b hs, x, cls, d, env, μ, S, H, σ, s, re, xr, h => by
    rw [exHs_cons] at h
    split at h
    · exact absurd h id
    · rename_i q
      refine ⟨false, by rw [xr.1]; exact hy.exm _ _ _ q, fun z => Bool.noConfusion z, fun _ => ?_⟩
      exact soundHs hy xi W D hs x cls d env μ S H σ s re xr h
    · rename_i q
      refine ⟨true, by rw [xr.1]; exact hy.exm _ _ _ q, fun _ a ha => ?_, fun z => Bool.noConfusion z⟩
      split at h
      · rename_i hne
        cases i with
        | none =>
          dsimp only at h ⊢
          refine soundSs hy ⟨a, cls, d⟩ (some x) W0 b env μ S H σ D ⟨s, RlE.reea hne re, xr⟩ ?_
          cases hr : exSs P (some x) b env S with
          | err => rw [hr] at h; exact absurd h id
          | exc y env1 S1 => rw [hr] at h; exact absurd h id
          | ok f env1 S1 =>
            rw [hr] at h
            unfold RS.outX at h
            dsimp only at h
            split at h
            · rename_i hn2
              intro μ1 H1 e1 s1
              have h := h μ1 H1 e1 s1
              cases f with
              | nx => exact fun σ' r => h σ' (RlE.reea hn2 r)
              | rt d => exact h
              | bk => exact fun σ' r => h σ' (RlE.reea hn2 r)
              | ct => exact fun σ' r => h σ' (RlE.reea hn2 r)
            · exact absurd h id
        | some i =>
          dsimp only at h ⊢
          refine soundSs hy ⟨a, cls, d⟩ (some x) W0 b (env.set i .exc) μ S H (σ.set i (some (.ref a))) _ ⟨s, RlE.setx i (RlE.reea (ea' := a) hne re), xr⟩ ?_
          cases hr : exSs P (some x) b (env.set i .exc) S with
          | err => rw [hr] at h; exact absurd h id
          | exc y env1 S1 => rw [hr] at h; exact absurd h id
          | ok f env1 S1 =>
            rw [hr] at h
            unfold RS.outX at h
            dsimp only at h
            split at h
            · rename_i hn2
              intro μ1 H1 e1 s1
              have h := h μ1 H1 e1 s1
              cases f with
              | nx => exact fun σ' r => h _ (RlE.reea hn2 (RlE.clear i r))
              | rt d => exact h
              | bk => exact fun σ' r => h _ (RlE.reea hn2 (RlE.clear i r))
              | ct => exact fun σ' r => h _ (RlE.reea hn2 (RlE.clear i r))
            · exact absurd h id
      · exact absurd h id
end
end
end VI

set_option Elab.async false
set_option linter.all false
set_option maxRecDepth 100000
set_option maxHeartbeats 1000000
/-! VIi: rules for the readings of the small tree. -/
namespace VI
open PySem PySem.Spec PyProof.Rows L2 RZ
section
variable {X : Cx}
theorem pe_orT {e : Expr} {t t' : TE} (h : PE X e t) (h' : PE X e t') : PE X e (fun σ H Q => t σ H Q ∨ t' σ H Q) := ⟨fun pins s σ H Q I q => q.elim (h.run pins s σ H Q I) (h'.run pins s σ H Q I)⟩
theorem pe_imp {e : Expr} {t t' : TE} (h : PE X e t) (k : ∀ σ H Q, t' σ H Q → t σ H Q) : PE X e t' := ⟨fun pins s σ H Q I q => h.run pins s σ H Q I (k σ H Q q)⟩
theorem takesF {X : Cx} : Takes X W0 := fun u s' x => by
  obtain ⟨_, _, _, _, _, _, _, _, _, _, _, _, _, _, _, _, w⟩ := x
  exact w.elim
variable {CX : CXT} {k : Nat} {f C : Addr} {fd : FuncData} {ps : List Str} {sp : Sp} {x m : Str} {p pos apos : Pos} {e o : Expr} {es : List Expr} {ta : TE} {t : TA} {E : L2.St → L2.XK}
theorem pe_callS0 (F : FnOk X.prog X.w X.K X.mg X.base CX k f fd ps sp) (hr : Room k X.A) (hg : Gl X x) (hm : X.mg x = some (.ref f)) (hk : PySem.W.keepIn X.K (.ref f) = true) (hb : Binds X.K fd ps []) (hx : ∀ σ, PassesAt CX X σ (E σ))
    (hdb : (x == ("__debug__" : Str)) = false := by decide) : PE X (.Call (.Name x p) [] [] pos) (tCallS sp E tNil) := by
  refine ⟨fun pins s σ H Q I h => ?_⟩
  refine wpAny_Call_Name_kw (ld_glob I hg hm ?_ hdb)
  exact PySem.W.callWith_K0 I.kIn hk (run_fnS (us := []) (vs := []) F hr hb (hx σ) I .nil h)
theorem pe_methS {pl : Sem Bool} (he : PE X o ta) (c : Cls X.K C) (hm : Meth X.K C m f) (F : FnOk X.prog X.w X.K X.mg X.base CX k f fd ps sp) (hr : Room k X.A) (hb : Binds X.K fd ps []) (hx : ∀ σ, PassesAt CX X σ (E σ)) (ha : PA X (e :: es) t)
    (hst : starEach (e :: es) X.env = (false, eval e X.env) :: starEach es X.env := by rfl) (hpl : (backTo pos (starEach es X.env)).any (·.1) = false := by rfl)
    (ht : eval (.Call (.Attribute o m apos) (e :: es) [] pos) X.env = (do
      let ov ← eval o X.env
      standAt apos.atName
      let (f, first) ← holding [ov] (getMethod ov m pl)
      callWith pos f first (backTo pos (starEach (e :: es) X.env)) (backToKw pos (keywordEach [] X.env))) := by rfl) :
    PE X (.Call (.Attribute o m apos) (e :: es) [] pos) (tMethS C m sp E ta t) := by
  refine ⟨fun pins s σ H Q I h => ?_⟩
  refine PySem.W.methodCall_KW (pl := pl) (thn (he.run pins s σ H _ I h) fun u s1 ⟨x, H1, I1, rx, a, dx, fs, ex, ea, l, q⟩ => ?_) ht
  subst ex
  obtain rfl : u = Value.ref a := rx
  refine getmeth_ok I1 ea c hm l ?_
  refine PySem.W.callWith_K (first := [.ref a]) (h₀ := X.base) I.ok.mod.kin hm.kp (thn (ha.run pos pins s1 σ H1 _ I1 q) fun us s2 ⟨vs, H2, I2, r, q2⟩ => ⟨I2.kIn, ?_⟩) hst hpl
  exact run_fnS (us := .ref a :: us) (vs := .ref a :: vs) F hr hb (hx σ) I2 (.cons rfl r) q2
theorem pe_methS0 {pl : Sem Bool} (he : PE X o ta) (c : Cls X.K C) (hm : Meth X.K C m f) (F : FnOk X.prog X.w X.K X.mg X.base CX k f fd ps sp) (hr : Room k X.A) (hb : Binds X.K fd ps []) (hx : ∀ σ, PassesAt CX X σ (E σ))
    (ht : eval (.Call (.Attribute o m apos) [] [] pos) X.env = (do
      let ov ← eval o X.env
      standAt apos.atName
      let (f, first) ← holding [ov] (getMethod ov m pl)
      callWith pos f first (backTo pos (starEach [] X.env)) (backToKw pos (keywordEach [] X.env))) := by rfl) :
    PE X (.Call (.Attribute o m apos) [] [] pos) (tMethS C m sp E ta tNil) := by
  refine ⟨fun pins s σ H Q I h => ?_⟩
  refine PySem.W.methodCall_KW (pl := pl) (thn (he.run pins s σ H _ I h) fun u s1 ⟨x, H1, I1, rx, a, dx, fs, ex, ea, l, q⟩ => ?_) ht
  subst ex
  obtain rfl : u = Value.ref a := rx
  refine getmeth_ok I1 ea c hm l ?_
  exact PySem.W.callWith_K0 (first := [.ref a]) I1.kIn hm.kp (run_fnS (us := [.ref a]) (vs := [.ref a]) F hr hb (hx σ) I1 (.cons rfl .nil) q)
theorem Inv.popMade {pins : List (Addr × Obj)} {σ : L2.St} {H : Hp} {s : Shared} (I : L2.Inv X pins σ H s) : True := trivial
theorem run_makeS {pins : List (Addr × Obj)} {σ : L2.St} {H : Hp} {s : Shared} {Q : VK} {us : List Value} {vs : List V} (M : Mk X.K C f) (F : FnOk X.prog X.w X.K X.mg X.base CX k f fd ps sp) (hr : Room (k + 1) X.A) (hb : Binds X.K fd ps [])
    (hx : PassesAt CX X σ (E σ)) (I : L2.Inv X pins σ H s) (r : Vals vs us)
    (h : ∀ x dx, H x = none → H dx = none → dx ≠ x → sp (.ref x :: vs) (upd (upd H dx (.own x)) x (.ins C dx [])) (fun v H2 => v = .non ∧ Q (.ref x) H2) (E σ)) :
    wpAny (model X.prog X.w) X.A (call (.ref C) us) (EP X pins σ Q) X.xe s := by
  have hq := h (s.heap.objs.size + 1) s.heap.objs.size (I.hok.fresh (Nat.le_succ _)) (I.hok.fresh (Nat.le_refl _)) (Nat.ne_of_lt (Nat.lt_succ_self _))
  have I2 := Inv.made (C := C) I
  have r2 : Vals (V.ref (s.heap.objs.size + 1) :: vs) (Value.ref (s.heap.objs.size + 1) :: us) := .cons rfl r
  have hl : (Value.ref (s.heap.objs.size + 1) :: us ++ []).length = ps.length := by
    have e := r2.length
    rw [F.len _ _ _ _ hq] at e
    rw [List.append_nil]
    exact e.symm
  refine wpAny_call (make_map (f := f) I.kIn M.makes M.init (beq_iff_eq.mp M.fn) (codeAny_mono (F.run _ X.stack _ _ ⟨Value.ref (s.heap.objs.size + 1) :: us, []⟩ (Value.ref (s.heap.objs.size + 1) :: us) _ _ (E σ) (hr.make C us [])
    (I2.env0.make C us []) (by simpa using hb _ (Value.ref (s.heap.objs.size + 1) :: us) I2.kIn hl) r2 hq) fun r s' hq' => ?_))
  cases r with
  | error e => exact hx pins _ _ e s' I2 hq'
  | ok fl =>
    cases fl with
    | ret u =>
      obtain ⟨v, H', I3, rv, ev, q3⟩ := I2.after hq'
      subst ev
      exact ⟨rv, ⟨V.ref (s.heap.objs.size + 1), H', I3, rfl, q3⟩⟩
    | next => exact False.elim hq'
    | brk => exact False.elim hq'
    | cont => exact False.elim hq'
theorem pe_mkS (M : Mk X.K C f) (F : FnOk X.prog X.w X.K X.mg X.base CX k f fd ps sp) (hr : Room (k + 1) X.A) (hg : Gl X x) (hm : X.mg x = some (.ref C)) (hb : Binds X.K fd ps []) (hx : ∀ σ, PassesAt CX X σ (E σ))
    (ha : PA X (e :: es) t) (hdb : (x == ("__debug__" : Str)) = false := by decide) (he : starEach (e :: es) X.env = (false, eval e X.env) :: starEach es X.env := by rfl) (hpl : (backTo pos (starEach es X.env)).any (·.1) = false := by rfl) :
    PE X (.Call (.Name x p) (e :: es) [] pos) (tMkS C sp E t) := by
  refine ⟨fun pins s σ H Q I h => ?_⟩
  refine wpAny_Call_Name_kw (ld_glob I hg hm ?_ hdb)
  refine PySem.W.callWith_K (h₀ := X.base) I.ok.mod.kin M.kp (thn (ha.run pos pins s σ H _ I h) fun us s1 ⟨vs, H1, I1, r, q⟩ => ⟨I1.kIn, ?_⟩) he hpl
  exact run_makeS M F hr hb (hx σ) I1 r q
theorem pe_mkS0 (M : Mk X.K C f) (F : FnOk X.prog X.w X.K X.mg X.base CX k f fd ps sp) (hr : Room (k + 1) X.A) (hg : Gl X x) (hm : X.mg x = some (.ref C)) (hb : Binds X.K fd ps []) (hx : ∀ σ, PassesAt CX X σ (E σ))
    (hdb : (x == ("__debug__" : Str)) = false := by decide) : PE X (.Call (.Name x p) [] [] pos) (tMkS C sp E tNil) := by
  refine ⟨fun pins s σ H Q I h => ?_⟩
  refine wpAny_Call_Name_kw (ld_glob I hg hm ?_ hdb)
  exact PySem.W.callWith_K0 I.kIn M.kp (run_makeS (us := []) M F hr hb (hx σ) I .nil h)
theorem pe_mn {e : Expr} {g : Glb} {sps : Nat → Sp} {W : WX} {ta : TE} {t : TA} {m : Str} : PE X e (tMeths g sps m W ta t []) := ⟨fun _ _ _ _ _ _ h => h.elim⟩
theorem pe_mc {e : Expr} {g : Glb} {sps : Nat → Sp} {W : WX} {ta : TE} {t : TA} {m : Str} {c f : Nat} {r : List (Nat × Nat)} (h : PE X e (tMethS (g.C c) m (sps f) (WE W) ta t)) (h' : PE X e (tMeths g sps m W ta t r)) : PE X e (tMeths g sps m W ta t ((c, f) :: r)) := pe_orT h h'
/-- a call of what an expression gives -/
theorem pe_callE1 {f : Expr} (he : PE X f ta) {fa : Addr} (F : FnOk X.prog X.w X.K X.mg X.base CX k fa fd ps sp) (hr : Room k X.A) (hk : PySem.W.keepIn X.K (.ref fa) = true) (hb : Binds X.K fd ps []) (hx : ∀ σ, PassesAt CX X σ (E σ)) (ha : PA X (e :: es) t)
    (he2 : starEach (e :: es) X.env = (false, eval e X.env) :: starEach es X.env := by rfl) (hpl : (backTo pos (starEach es X.env)).any (·.1) = false := by rfl)
    (ht : eval (.Call f (e :: es) [] pos) X.env = (do callWith pos (← eval f X.env) [] (backTo pos (starEach (e :: es) X.env)) (backToKw pos (keywordEach [] X.env))) := by rfl) :
    PE X (.Call f (e :: es) [] pos) (tCallE1 fa sp E ta t) := by
  refine ⟨fun pins s σ H Q I h => ?_⟩
  refine Call_ (thn (he.run pins s σ H _ I h) fun u s1 ⟨x, H1, I1, rx, ex, q⟩ => ?_) ht
  subst ex
  obtain rfl : u = Value.ref fa := rx
  refine PySem.W.callWith_K (h₀ := X.base) I1.ok.mod.kin hk (thn (ha.run pos pins s1 σ H1 _ I1 q) fun us s2 ⟨vs, H2, I2, r, q2⟩ => ⟨I2.kIn, ?_⟩) he2 hpl
  exact run_fnS F hr hb (hx σ) I2 r q2
theorem pe_callE0 {f : Expr} (he : PE X f ta) {fa : Addr} (F : FnOk X.prog X.w X.K X.mg X.base CX k fa fd ps sp) (hr : Room k X.A) (hk : PySem.W.keepIn X.K (.ref fa) = true) (hb : Binds X.K fd ps []) (hx : ∀ σ, PassesAt CX X σ (E σ))
    (ht : eval (.Call f [] [] pos) X.env = (do callWith pos (← eval f X.env) [] (backTo pos (starEach [] X.env)) (backToKw pos (keywordEach [] X.env))) := by rfl) :
    PE X (.Call f [] [] pos) (tCallE1 fa sp E ta tNil) := by
  refine ⟨fun pins s σ H Q I h => ?_⟩
  refine Call_ (thn (he.run pins s σ H _ I h) fun u s1 ⟨x, H1, I1, rx, ex, q⟩ => ?_) ht
  subst ex
  obtain rfl : u = Value.ref fa := rx
  exact PySem.W.callWith_K0 I1.kIn hk (run_fnS (us := []) (vs := []) F hr hb (hx σ) I1 .nil q)
theorem pe_en {e : Expr} {g : Glb} {sps : Nat → Sp} {W : WX} {ta : TE} {t : TA} : PE X e (tCallEs g sps W ta t []) := ⟨fun _ _ _ _ _ _ h => h.elim⟩
theorem pe_ec {e : Expr} {g : Glb} {sps : Nat → Sp} {W : WX} {ta : TE} {t : TA} {f : Nat} {r : List Nat} (h : PE X e (tCallE1 (g.F f) (sps f) (WE W) ta t)) (h' : PE X e (tCallEs g sps W ta t r)) : PE X e (tCallEs g sps W ta t (f :: r)) := pe_orT h h'
theorem pi_or {tg iter : Expr} {w w' : TI} (h : PI X tg iter w) (h' : PI X tg iter w') : PI X tg iter (fun σ H R => w σ H R ∨ w' σ H R) := ⟨fun pins s σ H R I q => q.elim (h.run pins s σ H R I) (h'.run pins s σ H R I)⟩
theorem pi_seq {tg iter : Expr} {te : TE} (h1 : PI X tg iter (iList X.K te)) (h2 : PI X tg iter (iTup X.K te)) (h3 : PI X tg iter (iStr te)) : PI X tg iter (iSeq X.K te) := pi_or h1 (pi_or h2 h3)
end
end VI

set_option Elab.async false
set_option linter.all false
set_option maxRecDepth 100000
set_option maxHeartbeats 2000000
/-! VIx: try with any number of except clauses, with names or without. -/
namespace VI
open PySem PySem.Spec PyProof.Rows L2 RZ
theorem h1_of {n c : Nat} (h : n + 65 < c) : n + 1 < c := by omega
theorem ps_orT {X : Cx} {st : Stmt} {t t' : TS} (h : PS X st t) (h' : PS X st t') : PS X st (fun D σ H => t D σ H ∨ t' D σ H) := ⟨fun pins s σ H D I q => q.elim (h.run pins s σ H D I) (h'.run pins s σ H D I)⟩
inductive HdsX (X : Cx) (g : Glb) (sp : Nat → Sp) (cv : Nat → V) : List ExceptHandler → Hs → Prop
  | nil : HdsX X g sp cv [] .nil
  | bare {x : Str} {c : Nat} {b : Ss} {b₀ : Stmt} {suite : List Stmt} {np pos' : Pos} {hds : List ExceptHandler} {hs : Hs} (hc : Names X x (.ref (g.C c)))
      (hsu : ∀ (a : Addr) (oe : Obj) (cls : Value) (d : Option Addr) (pn : List (Addr × Obj)), Zc cls d oe → (∃ vs, oe.data = .fields vs) → PSs (X.suite a ((a, oe) :: pn)) (b₀ :: suite) (rdSs g sp cv ⟨a, cls, d⟩ W0 b)) (r : HdsX X g sp cv hds hs) :
      HdsX X g sp cv (.ExceptHandler (some (.Name x np)) none (b₀ :: suite) pos' :: hds) (.cons c none b hs)
  | as_ {x n : Str} {i c : Nat} {b : Ss} {b₀ : Stmt} {suite : List Stmt} {np pos' : Pos} {hds : List ExceptHandler} {hs : Hs} (hi : X.N[i]? = some n) (hln : X.env.kindOf n = some .local) (hc : Names X x (.ref (g.C c)))
      (hsu : ∀ (a : Addr) (oe : Obj) (cls : Value) (d : Option Addr) (pn : List (Addr × Obj)), Zc cls d oe → (∃ vs, oe.data = .fields vs) → PSs (X.suite a ((a, oe) :: pn)) (b₀ :: suite) (rdSs g sp cv ⟨a, cls, d⟩ W0 b)) (r : HdsX X g sp cv hds hs) :
      HdsX X g sp cv (.ExceptHandler (some (.Name x np)) (some n) (b₀ :: suite) pos' :: hds) (.cons c (some i) b hs)
section
variable {X : Cx} {g : Glb} {sp : Nat → Sp} {cv : Nat → V} {xi : XI} {b : Ss} {hs : Hs} {body : List Stmt} {h₀ : ExceptHandler} {hds : List ExceptHandler} {pos : Pos} {Wout : WX}
theorem ps_tryX (hK : g.K = X.K) (hst : X.stack = X.env :: X.outer) (hf : X.env.frame = some X.env.locals) (hN : X.N.Nodup) (tk : Takes X Wout)
    (hb : ∀ (W : WX) (pn : List (Addr × Obj)) (xe : Value → Shared → Prop), Takes (X.tr pn xe) W → PassesOwn (model X.prog X.w) X.A X.env xe → PSs (X.tr pn xe) body (rdSs g sp cv xi W b))
    (hh : HdsX X g sp cv (h₀ :: hds) hs) : PS X (.Try body (h₀ :: hds) [] [] pos) (rdS g sp cv xi Wout (.try_ b hs)) := by
  refine ⟨fun pins s σ H D I h => ?_⟩
  have h : rdSs g sp cv xi (rdHs g sp cv Wout D hs) b D σ H := h
  have ok := I.ok
  have hfr : X.A.frames = some (X.env :: X.outer) := by rw [ok.frames, hst]
  refine wpAny_Try_except ?_
  refine wpAny_mono ((hb (rdHs g sp cv Wout D hs) (X.pn ++ pins) (fun e s₁ => wpAny (model X.prog X.w) X.A (noteFrame e X.env) (fun _ s₂ => wpAny (model X.prog X.w) X.A (setFlight e none) (fun _ s₃ =>
    wpAny (model X.prog X.w) X.A (handleBy e X.env (h₀ :: hds)) (SP X pins D) X.xe s₃) X.xe s₂) X.xe s₁) (fun u s' xx => ?_) PassesOwn.looking).run [] s σ H D (I.toTry _) h) (fun f s1 hsp => ?_) (fun e s1 he => he)
  · obtain ⟨a, B, sI, pins', σ', H', cls, d, rfl, J', nb, up, sky, na, os, ag, w⟩ := xx
    have J : L2.Inv X pins σ' H' sI := J'.ofTry ok
    have sky' : Sky B (X.env :: X.outer) a (Zc cls d) X.env.locals s'.heap := by rw [← hst]; exact sky
    show wpAny (model X.prog X.w) X.A (noteFrame (.ref a) X.env) _ _ _
    refine Sky.land Zc.steady hfr hf sky' fun h3 fl3 up3 => ?_
    have J3 : L2.Inv X pins σ' H' { s' with heap := h3 } := J.landed nb fl3.1 (up.trans up3) os ag
    obtain ⟨oe3, vs3, he3, hz3, hd3⟩ := fl3.there
    have notFr : ∀ {h : Heap} {o : Obj} {vs : Array Value}, h.FunFrames B (X.env :: X.outer) → h.get? a = some o → o.data = .fields vs → a ∉ frs (X.env :: X.outer) := fun {h o vs} ff e dd hm => by
      obtain ⟨_, o', e', hnf⟩ := ff.mem hm
      rw [e] at e'
      cases e'
      exact hnf _ dd
    have nfr := notFr fl3.2.2.1 he3 hd3
    have nL : a ≠ X.env.locals := fun z => nfr (List.mem_filterMap.mpr ⟨X.env, List.mem_cons_self, by rw [hf, z]⟩)
    have nF : a ∉ X.fs := fun hm => by
      obtain ⟨e, he, q⟩ := List.mem_filterMap.mp hm
      exact nfr (List.mem_filterMap.mpr ⟨e, List.mem_cons_of_mem _ he, q⟩)
    have S3 := J3.suite he3 hd3 na nL nF
    have LT : PySem.W.Looks (model X.prog X.w) h3 (typeOf (.ref a)) cls := fun A Q E s k q => wpAny_typeOf_ref (k _ _ he3) (by rw [hz3.1]; exact q)
    have test : ∀ {x : Str} {np : Pos} {c : Value}, Names X x c → ∀ {Q : Value → Shared → Prop} {E : Value → Shared → Prop}, Q c { s' with heap := h3 } → wpAny (model X.prog X.w) (X.A.mark (some (.ref a))) (eval (.Name x np) X.env) Q E { s' with heap := h3 } := fun {x np c} hc {Q E} q => by
      obtain ⟨hg, hdbg, hm | ⟨hm, hv, hnn⟩⟩ := hc
      · exact ld_glob (X := X.suite a ((a, oe3) :: (X.pn ++ pins))) S3 hg hm q hdbg
      · exact ld_blt (X := X.suite a ((a, oe3) :: (X.pn ++ pins))) S3 hg hm hv q hnn hdbg
    have go : ∀ {hds' : List ExceptHandler} {hs' : Hs}, HdsX X g sp cv hds' hs' → rdHs g sp cv Wout D hs' cls d σ' H' →
        wpAny (model X.prog X.w) X.A (handleBy (.ref a) X.env hds') (SP X pins D) X.xe { s' with heap := h3 } := by
      intro hds' hs' hk
      induction hk with
      | nil =>
        intro w
        have w : Wout cls d σ' H' := w
        refine wpAny_handleBy_nil ?_
        obtain ⟨k1, k2, k3, oe, vs, T, oT, ts', he, hz, hd, h1, hr⟩ := id fl3
        unfold PySem.passOn
        refine wpAny_bind (wpAny_field he hd h1 ?_)
        rw [if_neg (show ¬ ((Value.ref T == Value.none) = true) from by simp)]
        have fin : wpAny (model X.prog X.w) X.A (setFlight (.ref a) X.env.frame) (fun _ s4 => wpAny (model X.prog X.w) X.A (throw (.ref a) : Sem Flow) (SP X pins D) X.xe s4) X.xe { s' with heap := h3 } := by
          rw [hf]
          refine HandSPX.setFlight_upZ fl3 fun h4 hh4 up4 => wpAny_throw (tk _ _ ?_)
          exact ⟨a, B, sI, pins, σ', H', cls, d, rfl, J, nb, (up.trans up3).trans up4, .inr (.inr (by rw [hst]; exact hh4)), na, os, ag, w⟩
        first
          | exact wpAny_bind (wpAny_pure (wpAny_bind fin))
          | exact wpAny_bind fin
      | @bare x c b1 b₀ suite np pos' hds2 hs2 hc hsu r ih =>
        intro w
        obtain ⟨k, hb1, hyes, hno⟩ := (show ∃ k, PySem.W.exmOne g.K cls (.ref (g.C c)) = some k ∧ (k = true → ∀ a, H' a = none → rdSs g sp cv ⟨a, cls, d⟩ W0 b1 D σ' H') ∧ (k = false → rdHs g sp cv Wout D hs2 cls d σ' H') from w)
        rw [hK] at hb1
        have LM := PySem.W.exm_one (M := model X.prog X.w) (J3.kIn) LT hb1
        refine wpAny_handleBy_cons (codeAny_handlers_test ?_) (by intro q; cases q)
        refine test hc (LM.here ?_)
        cases k with
        | true =>
          refine codeAny_handlers_suite ?_
          refine HandSPX.lands_againZ fl3 fun h4 fl4 up4 => ?_
          have J4 : L2.Inv X pins σ' H' { s' with heap := h4 } := J.landed nb fl4.1 ((up.trans up3).trans up4) os ag
          obtain ⟨oe4, vs4, he4, hz4, hd4⟩ := fl4.there
          have S4 := J4.suite he4 hd4 na nL nF
          refine wpAny_mono ((hsu a oe4 cls d (X.pn ++ pins) hz4 ⟨_, hd4⟩).run [] _ _ H' _ S4 (hyes rfl a na)) (fun f s6 hsp => ?_) (fun _ _ z => False.elim z)
          cases f with
          | next =>
            obtain ⟨σ6, H6, S6, q6⟩ := hsp
            exact ⟨_, _, S6.unsuite ok, q6⟩
          | brk =>
            obtain ⟨σ6, H6, S6, q6⟩ := hsp
            exact ⟨_, _, S6.unsuite ok, q6⟩
          | cont =>
            obtain ⟨σ6, H6, S6, q6⟩ := hsp
            exact ⟨_, _, S6.unsuite ok, q6⟩
          | ret u =>
            obtain ⟨v6, σ6, H6, S6, r6, q6⟩ := hsp
            exact ⟨_, _, _, S6.unsuite ok, r6, q6⟩
        | false =>
          show wpAny _ X.A (handleBy (.ref a) X.env hds2) _ _ _
          exact ih (hno rfl)
      | @as_ x n i c b1 b₀ suite np pos' hds2 hs2 hi hln hc hsu r ih =>
        intro w
        obtain ⟨k, hb1, hyes, hno⟩ := (show ∃ k, PySem.W.exmOne g.K cls (.ref (g.C c)) = some k ∧ (k = true → ∀ a, H' a = none → rdSs g sp cv ⟨a, cls, d⟩ W0 b1 { nx := fun σ' H' => D.nx (σ'.set i none) H', rt := D.rt, bk := fun σ' H' => D.bk (σ'.set i none) H', ct := fun σ' H' => D.ct (σ'.set i none) H' } (σ'.set i (some (.ref a))) H') ∧ (k = false → rdHs g sp cv Wout D hs2 cls d σ' H') from w)
        rw [hK] at hb1
        have hloc : Loc X.env.scope n := .inl hln
        have LM := PySem.W.exm_one (M := model X.prog X.w) (J3.kIn) LT hb1
        refine wpAny_handleBy_cons (codeAny_handlers_test ?_) (by intro q; cases q)
        refine test hc (LM.here ?_)
        cases k with
        | true =>
          refine codeAny_handlers_suite_as ?_
          refine HandSPX.lands_againZ fl3 fun h4 fl4 up4 => ?_
          have J4 : L2.Inv X pins σ' H' { s' with heap := h4 } := J.landed nb fl4.1 ((up.trans up3).trans up4) os ag
          obtain ⟨oe4, vs4, he4, hz4, hd4⟩ := fl4.there
          have S4 := J4.suite he4 hd4 na nL nF
          refine store_ok (X := X.suite a ((a, oe4) :: (X.pn ++ pins))) (v := .ref a) S4 hN hi hloc rfl (fun s5 S5 => ?_) (.inr hln)
          refine wpAny_mono ((hsu a oe4 cls d (X.pn ++ pins) hz4 ⟨_, hd4⟩).run [] s5 _ H' _ S5 (hyes rfl a na)) (fun f s6 hsp => ?_) (fun _ _ z => False.elim z)
          have end_ : ∀ {σ6 : L2.St} {H6 : Hp} {Q : Shared → Prop}, L2.Inv (X.suite a ((a, oe4) :: (X.pn ++ pins))) [] σ6 H6 s6 → (∀ s7, L2.Inv X pins (σ6.set i none) H6 s7 → Q s7) →
              wpAny (model X.prog X.w) X.A (do bindName X.env n .none; unbindBehindTheSuite X.env n pos') (fun _ s7 => Q s7) X.xe s6 := fun {σ6 H6 Q} S6 hq => gone_ok (S6.unsuite ok) hN hi hln hq
          cases f with
          | next =>
            obtain ⟨σ6, H6, S6, q6⟩ := hsp
            exact end_ S6 fun s7 J7 => ⟨_, _, J7, q6⟩
          | brk =>
            obtain ⟨σ6, H6, S6, q6⟩ := hsp
            exact end_ S6 fun s7 J7 => ⟨_, _, J7, q6⟩
          | cont =>
            obtain ⟨σ6, H6, S6, q6⟩ := hsp
            exact end_ S6 fun s7 J7 => ⟨_, _, J7, q6⟩
          | ret u =>
            obtain ⟨v6, σ6, H6, S6, r6, q6⟩ := hsp
            exact end_ S6 fun s7 J7 => ⟨_, _, _, J7, r6, q6⟩
        | false =>
          show wpAny _ X.A (handleBy (.ref a) X.env hds2) _ _ _
          exact ih (hno rfl)
    exact go hh w
  · cases f with
    | next =>
      obtain ⟨σ', H', J', q⟩ := hsp
      exact wpAny_execs_nil ⟨σ', H', J'.ofTry ok, q⟩
    | brk =>
      obtain ⟨σ', H', J', q⟩ := hsp
      exact ⟨σ', H', J'.ofTry ok, q⟩
    | cont =>
      obtain ⟨σ', H', J', q⟩ := hsp
      exact ⟨σ', H', J'.ofTry ok, q⟩
    | ret u =>
      obtain ⟨v, σ', H', J', r, q⟩ := hsp
      exact ⟨v, σ', H', J'.ofTry ok, r, q⟩
end
end VI

set_option Elab.async false
set_option linter.all false
set_option maxRecDepth 100000
set_option maxHeartbeats 2000000
/-! VIy: dicts of the module whose keys are texts. -/
namespace VI
open PySem PySem.Spec PyProof.Rows L2 RZ He
/-- at d stands a written dict with these entries -/
structure KD (K : PySem.W.Frag) (w : World) (d : Addr) (kvs : List (Str × VI.D)) : Prop where
  kd : ∃ es n, KDict K w d es n
  hit : ∀ z v, getF z kvs = some v → ∃ u, PySem.W.nsIn K d z = some (some u) ∧ RelV (scalV v) u
  miss : ∀ z, getF z kvs = none → PySem.W.nsIn K d z = some none
def KdF (w : World) (K : PySem.W.Frag) (mg : Str → Option Value) (kds : List (Str × List (Str × VI.D))) : Prop := ∀ (i : Nat) (q : Str × List (Str × VI.D)), kds[i]? = some q → ∃ d, mg q.1 = some (.ref d) ∧ KD K w d q.2
section
variable {X : Cx} {nm : Str} {kvs : List (Str × VI.D)} {e : Expr} {te : TE} {q pos apos cpos : Pos}
theorem pe_kget (hg : Gl X nm) (hk : ∃ d, X.mg nm = some (.ref d) ∧ KD X.K X.w d kvs) (he : PE X e te) (hdb : (nm == ("__debug__" : Str)) = false) (m : M1 X (.Name nm q) "get" apos e cpos) :
    PE X (.Call (.Attribute (.Name nm q) "get" apos) [e] [] cpos) (tKGet kvs te) := by
  obtain ⟨d, hm, D⟩ := hk
  obtain ⟨es, n, kd⟩ := D.kd
  have ho : PE X (.Name nm q) (tC (.ref d)) := pe_glob hg hm rfl hdb
  constructor
  intro pins s σ H Q I h
  refine wpAny_Call_method m.base m.few m.line PySem.F.plainAttrs_dict PySem.F.slot_dict_get PySem.F.type_dict_get (thn (ho.run pins s σ H (fun x H1 => x = .ref d ∧ H1 = H) I ⟨rfl, rfl⟩) fun u s1 ⟨x, H1, I1, rx, ex, eH⟩ => ?_)
  subst ex eH
  obtain rfl : u = Value.ref d := rx
  have look := I1.kIn _ _ kd.at_
  refine ⟨kd_type kd I1, fun b z => ?_, ?_⟩
  · cases z
    exact ⟨_, look, rfl⟩
  rw [m.trees]
  refine Calls.callWith_builtin rfl (Calls.evalArgs_plain (Calls.spliced_cons (thn (he.run pins s1 σ H1 _ I1 h) fun iv s2 ⟨y, H2, I2, ry, z, ey, q2⟩ => Calls.spliced_nil ?_)))
  subst ey
  obtain ⟨t, rfl⟩ := ry
  have hmap := PySem.W.mapOf_K (prog := X.prog) (w := X.w) I2.kIn kd.at_ kd.lit
  refine call_meetsIn PySem.F.slot_dict_get hmap.typeIs PySem.F.entry_dict_get (PySem.F.args_dict_get_2 _ _) (meets_dict_get (strKind X.prog X.w) d (PySem.strKind_is X.prog X.w z t) kd.low) ⟨_, hmap, ?_⟩
  cases c : getF z kvs with
  | some v =>
    rw [c] at q2
    obtain ⟨u, h1, h2⟩ := D.hit z v c
    rw [PySem.W.find_K kd.at_ h1]
    exact ⟨_, H2, I2.tok _, h2, q2⟩
  | none =>
    rw [c] at q2
    rw [PySem.W.find_K kd.at_ (D.miss z c)]
    exact ⟨.non, H2, I2.tok _, (rfl : Value.none = Value.none), q2⟩
theorem pe_kidx (hg : Gl X nm) (hk : ∃ d, X.mg nm = some (.ref d) ∧ KD X.K X.w d kvs) (he : PE X e te) (hdb : (nm == ("__debug__" : Str)) = false) (hs : PlainIx e) : PE X (.Subscript (.Name nm q) e pos) (tKIdx kvs te) := by
  obtain ⟨d, hm, D⟩ := hk
  obtain ⟨es, n, kd⟩ := D.kd
  have ho : PE X (.Name nm q) (tC (.ref d)) := pe_glob hg hm rfl hdb
  refine ⟨fun pins s σ H Q I h => ?_⟩
  refine Subscript_ (thn (ho.run pins s σ H (fun x H1 => x = .ref d ∧ H1 = H) I ⟨rfl, rfl⟩) fun u s1 ⟨x, H1, I1, rx, ex, eH⟩ => ?_)
  subst ex eH
  obtain rfl : u = Value.ref d := rx
  refine thn (he.run pins s1 σ H1 _ I1 h) fun iv s2 ⟨y, H2, I2, ry, z, v, ey, c, q2⟩ => ?_
  subst ey
  obtain ⟨u, h1, h2⟩ := D.hit z v c
  exact ix_kdict _ _ pins s2 σ H2 (.ref d) (.str z) _ _ Q I2 rfl ry ⟨d, z, scalV v, rfl, rfl, ⟨es, n, u, kd.at_, kd.lit, h1, h2⟩, q2⟩ (hs _ _)
theorem KD.nsOf {K : PySem.W.Frag} {w : World} {d : Addr} {kvs : List (Str × VI.D)} (D : KD K w d kvs) (z : Str) : ∃ r : Option Value, PySem.W.nsIn K d z = some r ∧ r.isSome = (getF z kvs).isSome := by
  cases c : getF z kvs with
  | some v =>
    obtain ⟨u, h1, _⟩ := D.hit z v c
    exact ⟨some u, h1, rfl⟩
  | none => exact ⟨none, D.miss z c, rfl⟩
theorem kin_run {pins : List (Addr × Obj)} {s : Shared} {σ : L2.St} {H : Hp} {Q : VK} {d : Addr} {z : Str} {v : Value} (neg : Bool) (D : KD X.K X.w d kvs) (I : L2.Inv X pins σ H s) (r : RelV (.str z) v) (q : Q (.bl ((getF z kvs).isSome != neg)) H) :
    wpAny (model X.prog X.w) X.A (compareOp (if neg then .NotIn else .In) v (.ref d)) (EP X pins σ Q) X.xe s := by
  obtain ⟨es, n, kd⟩ := D.kd
  obtain ⟨r0, h1, h2⟩ := D.nsOf z
  cases neg with
  | false =>
    refine op_in_kd kd pins s σ H (.str z) (.ref d) v _ Q I r rfl ⟨z, r0, rfl, rfl, h1, ?_⟩
    rw [h2]
    simpa using q
  | true =>
    refine op_notIn_kd kd pins s σ H (.str z) (.ref d) v _ Q I r rfl ⟨z, r0, rfl, rfl, h1, ?_⟩
    rw [h2]
    simpa using q
theorem pe_kin (neg : Bool) (hg : Gl X nm) (hk : ∃ d, X.mg nm = some (.ref d) ∧ KD X.K X.w d kvs) (he : PE X e te) (hdb : (nm == ("__debug__" : Str)) = false) (hm : behindInMarks (if neg then .NotIn else .In) (.Name nm q) = false := by rfl) :
    PE X (.Compare e [if neg then .NotIn else .In] [.Name nm q] pos) (tKIn neg kvs te) := by
  obtain ⟨d, hm', D⟩ := hk
  have ho : PE X (.Name nm q) (tC (.ref d)) := pe_glob hg hm' rfl hdb
  refine ⟨fun pins s σ H Q I h => ?_⟩
  refine wpAny_Compare1 (thn (he.run pins s σ H _ I h) fun v s1 ⟨x, H1, I1, r1, z, ex, q1⟩ => thn (ho.run pins s1 σ H1 (fun x H2 => x = .ref d ∧ H2 = H1) I1 ⟨rfl, rfl⟩) fun u s2 ⟨y, H2, I2, r2, ey, eH⟩ => ?_) hm
  subst ex ey eH
  obtain rfl : u = Value.ref d := r2
  exact kin_run neg D I2 r1 q1
theorem pt_kin (neg : Bool) (hg : Gl X nm) (hk : ∃ d, X.mg nm = some (.ref d) ∧ KD X.K X.w d kvs) (he : PE X e te) (hdb : (nm == ("__debug__" : Str)) = false) (hm : behindInMarks (if neg then .NotIn else .In) (.Name nm q) = false := by rfl) :
    PT X (.Compare e [if neg then .NotIn else .In] [.Name nm q] pos) (tTest (tKIn neg kvs te)) := by
  obtain ⟨d, hm', D⟩ := hk
  have ho : PE X (.Name nm q) (tC (.ref d)) := pe_glob hg hm' rfl hdb
  refine ⟨fun pins s σ H Q I h => ?_⟩
  refine wpAny_isTrue_Compare1 (thn (he.run pins s σ H _ I h) fun v s1 ⟨x, H1, I1, r1, z, ex, q1⟩ => thn (ho.run pins s1 σ H1 (fun x H2 => x = .ref d ∧ H2 = H1) I1 ⟨rfl, rfl⟩) fun u s2 ⟨y, H2, I2, r2, ey, eH⟩ => ?_) hm
  subst ex ey eH
  obtain rfl : u = Value.ref d := r2
  refine thn (kin_run (Q := fun x H' => ∃ k, x = .bl k ∧ Q k H') neg D I2 r1 q1) fun c s3 ⟨z, H3, I3, r3, k, e, q3⟩ => ?_
  subst e
  cases r3
  exact wpAny_truthy_bool ⟨H3, I3, q3⟩
end
end VI

set_option Elab.async false
set_option linter.all false
set_option maxRecDepth 100000
set_option maxHeartbeats 2000000
/-! VIj: exceptions: their making, their __init__, isinstance and fields in a suite. -/
namespace PySem.W
open PySem PySem.Spec PyProof.Rows
section
variable {prog : Program} {w : World} {A : Around} {E : Value → Shared → Prop} {s : Shared} {K : Frag} {x D : Addr} {ox : Obj} {od : Option Obj}
theorem findObj_dataO {C : Addr} {n : Str} {a b : Value} (hc : (clsIn K C).isSome = true) (ha : findIn K (.ref C) n = some (some a)) (hg : specialIn K a "__get__" = some (some b)) (ht : takesIn K a = some true) : findObj K C od n = some (.bind b a) := by
  obtain ⟨cd, hc⟩ := Option.isSome_iff_exists.mp hc
  unfold findObj
  rw [hc, Option.bind_some, ha, Option.bind_some]
  simp [hg, ht]
theorem kin_classO {Q : Option Value → Shared → Prop} (hga : findIn K (.ref D) "__getattribute__" = some (some (.builtin "BaseException.__getattribute__"))) (hgt : findIn K (.ref D) "__getattr__" = some none) (hsub : subIn K (.ref D) (.type "BaseException") = some true)
    (hdct : hasDictIn K D = true) (ha : findIn K (.ref D) "__class__" = some (some (.builtin "object.__class__")))
    (hn : specialIn K (.builtin "object.__class__") "__get__" = some (some (.builtin "getset_descriptor.__get__"))) (htk : takesIn K (.builtin "object.__class__") = some true) (hm : mroIn K D (.type "object") = some true)
    (X : K.In s.heap) (I : InstAt s.heap x ox D od) (h : Q (some (.ref D)) { s with toks := s.toks + 1 }) : wpAny (model prog w) A (getAttr? (.ref x) "__class__") Q E s := by
  have hf : findObj K D od "__class__" = some (.bind (.builtin "getset_descriptor.__get__") (.builtin "object.__class__")) := findObj_dataO (by obtain ⟨cd, hc, _⟩ := any_some hdct; rw [hc]; rfl) ha hn htk
  obtain ⟨hp, g, d, t, os⟩ := s
  have L0 := I.type (M := model prog w)
  have L1 := looks_findIn (M := model prog w) X hga
  have L2 := looks_findIn (M := model prog w) X hgt
  have L3 := looks_find (M := model prog w) X I hf
  have sub : Looks (model prog w) hp (isInstance (.ref x) (.type "BaseException")) true := L0.andThen (looks_subIn X hsub)
  have hx0 : (false && onTheHeap (Value.builtin "BaseException.__getattribute__")) = false := rfl
  have hx2 : (Value.builtin "BaseException.__getattribute__" == Value.builtin "object.__getattribute__") = false := by decide +kernel
  have hx1 : (onTheHeap (Value.ref D) && Value.builtin "BaseException.__getattribute__" == Value.builtin "object.__getattribute__") = false := by rw [hx2]; rfl
  unfold getAttr? getAttrBy? getAttrBy
  refine wpAny_bind (wpAny_mkText (wpAny_bind (wpAny_attempt (wpAny_holding (wpAny_bind (L0.at (wpAny_bind (L1.at ?_))))))))
  show wpAny _ _ (if (onTheHeap (Value.ref D) && Value.builtin "BaseException.__getattribute__" == Value.builtin "object.__getattribute__") = true then _ else _) _ _ _
  rw [hx1, if_neg Bool.false_ne_true]
  unfold getAttrByItsOwn hookBefore
  refine wpAny_bind ?_
  rw [if_pos (show onTheHeap (Value.ref D) = true from rfl)]
  refine L2.at ?_
  refine wpAny_bind (wpAny_attempt (wpAny_holding ?_))
  unfold callGetattribute
  rw [hx0, if_neg Bool.false_ne_true]
  unfold boundAndCalled
  rw [PySem.F.excAttr_ValueError.ga.bind (.ref x)]
  refine wpAny_bind (wpAny_pure ?_)
  show wpAny _ _ (call (.builtin "BaseException.__getattribute__") [.ref x, .str "__class__" t]) _ _ _
  refine wpAny_call (codeAny_call_builtin PySem.F.excAttr_ValueError.ga.plain PySem.F.entry_bexc_ga ?_)
  refine @check_slot (model prog w) _ _ ⟨hp, g, d, t + 1, os⟩ "BaseException.__getattribute__" "BaseException" "__getattribute__" (.ref x) [.str "__class__" t] [] _ (by decide +kernel) (by decide +kernel) sub (PySem.F.args_bexc_ga (.ref x) (.str "__class__" t)) ?_
  unfold Builtin.«object.__getattribute__»
  refine wpAny_bind (wpAny_of_eq (a := ((Value.ref x : Value), [Value.str "__class__" t])) (by first | rfl | (simp only [slotArgs]; rfl)) ?_)
  refine wpAny_bind (wpAny_pure (wpAny_bind (L0.at (wpAny_bind (L3.at ?_)))))
  show wpAny _ _ (holding [Value.builtin "object.__class__"] (call (.builtin "getset_descriptor.__get__") [.builtin "object.__class__", .ref x, .ref D]) >>= ret) _ _ _
  refine wpAny_bind (wpAny_holding (wpAny_call (class_get (s := ⟨hp, g, d, t + 1, os⟩) (ox := ox) (od := od) X I hm ?_)))
  refine wpAny_pure ?_
  show wpAny _ _ (handedOut (.ref D)) _ _ _
  rw [handedOut_of (v := .ref D) rfl]
  first
    | exact wpAny_pure (wpAny_pure h)
    | exact wpAny_pure h
    | exact wpAny_pure (wpAny_bind (wpAny_pure (wpAny_pure h)))
theorem kitx_excO (hga : findIn K (.ref D) "__getattribute__" = some (some (.builtin "BaseException.__getattribute__"))) (hgt : findIn K (.ref D) "__getattr__" = some none) (hsub : subIn K (.ref D) (.type "BaseException") = some true) (hdct : hasDictIn K D = true) (ha : findIn K (.ref D) "__class__" = some (some (.builtin "object.__class__")))
    (hn : specialIn K (.builtin "object.__class__") "__get__" = some (some (.builtin "getset_descriptor.__get__"))) (htk : takesIn K (.builtin "object.__class__") = some true) (hm : mroIn K D (.type "object") = some true) :
    KitX K (.ref x) (.ref D) (fun h => InstAt h x ox D od) where
  ty := fun _ _ _ I => I.type
  it := fun _ _ X _ => by
    obtain ⟨cdD, hcD, _⟩ := any_some hdct
    unfold clsIn at hcD
    split at hcD
    · rename_i c' d' cd' sl' ho
      intro A' Q' E' s' k q
      unfold isType loadHead
      exact wpAny_bind (wpAny_loadPart (k _ _ (X _ _ ho)) (wpAny_pure q))
    · cases hcD
  ne := fun h tp dd its n sl X htp => by
    obtain ⟨cdD, hcD, _⟩ := any_some hdct
    refine Bool.eq_false_iff.mpr fun q => ?_
    have e : D = tp := Value.ref.inj (beq_iff_eq.mp q)
    subst e
    unfold clsIn at hcD
    split at hcD
    · rename_i c' d' cd' sl' ho
      have z := (X _ _ ho).symm.trans htp
      cases z
    · cases hcD
  ca := fun X I k => kin_classO hga hgt hsub hdct ha hn htk hm X I k
end
end PySem.W
namespace VI
open PySem PySem.Spec PyProof.Rows L2 RZ
section
variable {X : Cx}
/-! ### in a suite -/
theorem pe_exIs {g : Glb} {xa : Addr} {xcl : Value} {xd : Option Addr} {i : Nat} {b : List (Nat × Bool)} {oe : Obj} {pn : List (Addr × Obj)} {en tn : Str} (cv : Value) {p1 p2 p3 p4 : Pos} {tv : V}
    (hK : g.K = X.K) (hN : X.N[i]? = some en) (hv : Vis X.env.scope en) (hz : Zc xcl xd oe) (hf : ∃ vs, oe.data = .fields vs)
    (hb : ∀ c k, b.lookup c = some k → ExcC X.K (g.C c) ∧ PySem.W.kitOne X.K (.ref (g.C c)) cv = some k) (hc : PE (X.suite xa ((xa, oe) :: pn)) (.Name tn p3) (tC tv)) (hcv : ∀ u, RelV tv u → u = cv)
    (hg : Gl X "isinstance") (hm : X.mg "isinstance" = none) (hd : (en == ("__debug__" : Str)) = false := by decide) (hcd : (en == ("__classdict__" : Str)) = false := by decide) :
    PE (X.suite xa ((xa, oe) :: pn)) (.Call (.Name "isinstance" p1) [.Name en p2, .Name tn p3] [] p4) (tExIs g ⟨xa, xcl, xd⟩ i b) := by
  have hi : CallR (X.suite xa ((xa, oe) :: pn)) (.builtin "isinstance") (fun xs H Q => xs = [.ref xa, tv] ∧ (xd = none ∨ ∃ dd fs, xd = some dd ∧ H dd = some (.xd fs)) ∧ ∃ c k, xcl = .ref (g.C c) ∧ b.lookup c = some k ∧ Q (.bl k) H) := by
    intro pins s σ H xs us Q I r h
    obtain ⟨rfl, hdd, c, k, hcls, hk, q⟩ := h
    obtain ⟨C, hkit⟩ := hb c k hk
    obtain ⟨u1, u2, rfl, r1, r2⟩ := vals2 r
    cases (show u1 = Value.ref xa from r1)
    have e2 := hcv _ r2
    subst e2
    obtain ⟨hget, _⟩ := I.pin (xa, oe) (List.mem_append.mpr (.inl List.mem_cons_self))
    obtain ⟨vs, hvs⟩ := hf
    obtain ⟨z1, z2⟩ := hz
    rw [hcls] at z1
    have hJ : ∃ od, PySem.W.InstAt s.heap xa oe (g.C c) od := by
      rcases hdd with hd0 | ⟨dd, fs, hd0, hxd⟩
      · exact ⟨none, hget, z1, by unfold PySem.W.notCls; rw [hvs] <;> rfl, by rw [z2, hd0]; trivial⟩
      · obtain ⟨mA, hns, _⟩ := (show ObjOk X.prog X.w H s.heap dd (.xd fs) from I.hok dd _ hxd)
        obtain ⟨od, ho, _⟩ := lookIn_ns hns
        exact ⟨some od, hget, z1, by unfold PySem.W.notCls; rw [hvs] <;> rfl, by rw [z2, hd0]; exact ho⟩
    obtain ⟨od, J⟩ := hJ
    exact PySem.W.kia_one (PySem.W.kitx_excO C.hg C.hk C.hs C.hd C.ha C.hn C.ht C.hm) I.kIn J hkit (fun z => nomatch z) fun tk => ⟨.bl k, H, I.kept (t' := tk) fun _ _ z => z, rfl, q⟩
  refine pe_imp (pe_callB hi hg hm (by decide +kernel) (pa_cons (pe_var (i := i) hN hv hd hcd) (pa_cons hc pa_nil)) (by decide) (by decide)) ?_
  intro σ H Q h
  exact ⟨.ref xa, h.1, rfl, h.2⟩
/-- e.f -/
theorem pe_exFld {g : Glb} {xa : Addr} {xcl : Value} {xd : Option Addr} {i : Nat} {f : Str} {cs : List Nat} {oe : Obj} {pn : List (Addr × Obj)} {en : Str} {p1 p2 : Pos}
    (hN : X.N[i]? = some en) (hv : Vis X.env.scope en) (hz : Zc xcl xd oe) (hf : ∃ vs, oe.data = .fields vs)
    (hb : ∀ c ∈ cs, XfC X.K (g.C c) ∧ PySem.W.findIn X.K (.ref (g.C c)) f = some none) (hd : (en == ("__debug__" : Str)) = false := by decide) (hcd : (en == ("__classdict__" : Str)) = false := by decide)
    (hab : attributeBase (.Name en p1) f X.env (eval (.Name en p1) X.env) = eval (.Name en p1) X.env := by rfl) :
    PE (X.suite xa ((xa, oe) :: pn)) (.Attribute (.Name en p1) f p2) (tExFld g ⟨xa, xcl, xd⟩ i f cs) := by
  refine ⟨fun pins s σ H Q I h => ?_⟩
  obtain ⟨h1, c, dd, fs, v, hc, h2, h3, h4, h5, h6⟩ := h
  obtain ⟨T, hno⟩ := hb c hc
  have hp : PE (X.suite xa ((xa, oe) :: pn)) (.Attribute (.Name en p1) f p2) (tXf xa xcl xd (g.C c) f (tVar i)) := pe_xf T hno hz hf (pe_var (i := i) hN hv hd hcd) hab
  exact hp.run pins s σ H Q I ⟨.ref xa, h1, rfl, h2, dd, fs, v, h3, h4, h5, h6⟩
/-! ### AheadError.__init__(self, ..): an own class's inherited __init__ -/
structure BaseI (K : PySem.W.Frag) (C : Addr) : Prop where
  rd : PySem.W.readsIn K C (.type "type") = true
  ga : PySem.W.specialIn K (.ref C) "__getattribute__" = some (some (.builtin "type.__getattribute__"))
  at_ : PySem.W.findCls K (.ref C) (.type "type") "__init__" = some (.val (.builtin "ValueError.__init__"))
theorem pe_baseinit {pl : Sem Bool} {x : Str} {C : Addr} {e : Expr} {es : List Expr} {ta : TA} {p1 p2 pos : Pos} (hg : Gl X x) (hm : X.mg x = some (.ref C)) (B : BaseI X.K C) (ha : PA X (e :: es) ta)
    (hdb : (x == ("__debug__" : Str)) = false := by decide)
    (hc : eval (.Call (.Attribute (.Name x p1) "__init__" p2) (e :: es) [] pos) X.env = (do
      let ov ← eval (.Name x p1) X.env
      standAt p2.atName
      let (f, first) ← holding [ov] (getMethod ov "__init__" pl)
      callWith pos f first (backTo pos (starEach (e :: es) X.env)) (backToKw pos (keywordEach [] X.env))) := by rfl)
    (he : starEach (e :: es) X.env = (false, eval e X.env) :: starEach es X.env := by rfl) (hpl : (backTo pos (starEach es X.env)).any (·.1) = false := by rfl) :
    PE X (.Call (.Attribute (.Name x p1) "__init__" p2) (e :: es) [] pos) (tVeI X.K ta) := by
  refine ⟨fun pins s σ H Q I h => ?_⟩
  refine PySem.W.methodCall_KW (ld_glob I hg hm ?_ hdb) hc
  refine PySem.W.method_cls I.kIn B.ga (PySem.W.cls_value I.kIn B.rd B.at_ (by decide +kernel) ?_)
  show wpAny _ _ (callWith pos (Value.builtin "ValueError.__init__") [] (backTo pos (starEach (e :: es) X.env)) []) _ _ _
  refine PyProof.Rows.callWith_method1 (thn (ha.run pos pins _ σ H _ (I.tok _) h) fun us s1 ⟨vs, H1, I1, r1, a, C, ws, ev, hl, T, ea, q⟩ => ?_) he hpl
  subst ev
  cases r1 with
  | @cons _ u0 _ ur ra rw' =>
    obtain rfl : u0 = Value.ref a := ra
    have hlen : ur.length ≤ sizeLine := by
      rw [← Paired.length rw', sizeLine_eq]
      omega
    exact oinit_ok T I1 ea hlen fun s' J => ⟨.non, H1, J, rfl, q⟩
/-! ### making an exception -/
/-- the promise of an own exception's __init__(self, f1, ..) that keeps each argument under its name -/
def spXI (K : PySem.W.Frag) (C : Addr) (fs : List Str) : Sp := fun vs H Q _ => ∃ a ws, vs = .ref a :: ws ∧ ws.length = fs.length ∧ OexC K C ∧ H a = some (exo a C none) ∧
  ∀ dx, H dx = none → dx ≠ a → Q .non (upd (upd H dx (exd dx (fs.zip ws).reverse)) a (exo a C (some dx)))
/-- arguments, and whatever follows of what is shown of them -/
def tUp (ta : TA) : TA := fun σ H Q => ∃ Kx : List V → Hp → Prop, ta σ H Kx ∧ ∀ vs H1, Kx vs H1 → Q vs H1
theorem pa_up {es : List Expr} {ta : TA} (h : PA X es ta) : PA X es (tUp ta) := ⟨fun pos pins s σ H Q I ⟨Kx, h1, h2⟩ => thn (h.run pos pins s σ H Kx I h1) fun us s1 ⟨vs, H1, I1, r1, q1⟩ => ⟨vs, H1, I1, r1, h2 vs H1 q1⟩⟩
theorem ps_raiseI {W : WX} {g : Glb} {c k : Nat} {fs : List Str} {x : Str} {fI : Addr} {fd : FuncData} {ps : List Str} {e : Expr} {es : List Expr} {ta : TA} {p pos pos2 : Pos} {CX : CXT} (hc : X.calm = true) (tk : Takes X W) (T : OexC X.K (g.C c))
    (iC : PySem.W.findIn X.K (.ref (g.C c)) "__init__" = some (some (.ref fI))) (tI : PySem.W.typeIn X.K (.ref fI) = some (.type "function")) (F : FnOk X.prog X.w X.K X.mg X.base CX k fI fd ps (spXI X.K (g.C c) fs)) (hr : Room (k + 1) X.A) (hb : Binds X.K fd ps [])
    (hx : Passes CX X (fun _ _ _ => False)) (hg : Gl X x) (hm : X.mg x = some (.ref (g.C c))) (ha : PA X (e :: es) ta) (hn : fs.length ≤ 900)
    (hdb : (x == ("__debug__" : Str)) = false := by decide) (he : starEach (e :: es) X.env = (false, eval e X.env) :: starEach es X.env := by rfl) (hpl : (backTo pos (starEach es X.env)).any (·.1) = false := by rfl) :
    PS X (.Raise (some (.Call (.Name x p) (e :: es) [] pos)) none pos2) (tRaise g c (.init fs) ta W) := by
  have hmk := pmk_oex (X := X) (x := x) (p := p) (pos := pos) (dvs := []) T iC tI F hr hb .nil hx hg hm (pa_up ha) hdb he hpl
  have h := ps_raise (pos := pos2) (W := W) hc tk hmk
  refine ⟨fun pins s σ H D I q => h.run pins s σ H D I ⟨_, q, fun vs H1 hq => ?_⟩⟩
  obtain ⟨hl, hq⟩ := hq
  refine ⟨by omega, fun a hna => ?_⟩
  refine ⟨a, vs, by simp, hl, T, upd_same, fun dx hdx hne => ⟨rfl, dx, _, upd_same, by rw [upd_ne hne, upd_same], ?_, ?_⟩⟩
  · rw [upd_ne hne] at hdx
    exact hdx
  · have hdx' : H1 dx = none := by
      rw [upd_ne hne] at hdx
      exact hdx
    have e1 : upd (del (upd (upd (upd H1 a (exo a (g.C c) none)) dx (exd dx (fs.zip vs).reverse)) a (exo a (g.C c) (some dx))) a) dx (.xd (fs.zip vs).reverse) = upd H1 dx (.xd (fs.zip vs).reverse) := by
      funext b
      by_cases hb1 : b = dx
      · rw [hb1, upd_same, upd_same]
      · rw [upd_ne hb1, upd_ne hb1]
        by_cases hb2 : b = a
        · rw [hb2, del_same, hna]
        · rw [del_ne hb2, upd_ne hb2, upd_ne hb1, upd_ne hb2]
    rw [e1]
    exact hq dx hdx'
/-- __init__(self, word): Base.__init__(self, word); self.word = word -/
theorem xinit1 {vs : List V} {H : Hp} {Q : VK} {E : L2.XK} {K : PySem.W.Frag} {C : Addr} {f : Str} (hno : PySem.W.findIn K (.ref C) f = some none) (h : spXI K C [f] vs H Q E) (N : List Str) (hN : N.length = 2) :
    tSeq (tDrop (tVeI K (tCons (tVar 0) (tCons (tVar 1) tNil)))) (tSeq (tOst K f (tVar 0) (tVar 1)) tNext) { nx := fun _ H' => Q .non H', rt := Q } (start N vs) H := by
  obtain ⟨a, ws, rfl, hl, T, ha, k⟩ := h
  match ws, hl with
  | [v], _ =>
    have e0 : (start N [.ref a, v])[0]? = some (some (.ref a)) := rfl
    have e1 : (start N [.ref a, v])[1]? = some (some v) := rfl
    exact ⟨_, e0, _, e1, a, C, [v], rfl, by simp, T, ha, _, e1, _, e0, a, C, rfl, T, hno, .inl ⟨ha, fun dx hd hne => k dx hd hne⟩⟩
/-- __init__(self, place, word): Base.__init__(self, word); self.place = place; self.word = word -/
theorem xinit2 {vs : List V} {H : Hp} {Q : VK} {E : L2.XK} {K : PySem.W.Frag} {C : Addr} {f f2 : Str} (hno : PySem.W.findIn K (.ref C) f = some none) (hno2 : PySem.W.findIn K (.ref C) f2 = some none) (h : spXI K C [f, f2] vs H Q E) (N : List Str) (hN : N.length = 3) :
    tSeq (tDrop (tVeI K (tCons (tVar 0) (tCons (tVar 2) tNil)))) (tSeq (tOst K f (tVar 0) (tVar 1)) (tSeq (tOst K f2 (tVar 0) (tVar 2)) tNext)) { nx := fun _ H' => Q .non H', rt := Q } (start N vs) H := by
  obtain ⟨a, ws, rfl, hl, T, ha, k⟩ := h
  match ws, hl with
  | [v, v2], _ =>
    have e0 : (start N [.ref a, v, v2])[0]? = some (some (.ref a)) := rfl
    have e1 : (start N [.ref a, v, v2])[1]? = some (some v) := rfl
    have e2 : (start N [.ref a, v, v2])[2]? = some (some v2) := rfl
    refine ⟨_, e0, _, e2, a, C, [v2], rfl, by simp, T, ha, _, e1, _, e0, a, C, rfl, T, hno, .inl ⟨ha, fun dx hd hne => ?_⟩⟩
    refine ⟨_, e2, _, e0, a, C, rfl, T, hno2, .inr ⟨dx, _, upd_same, by rw [upd_ne hne, upd_same], by simp, ?_⟩⟩
    have e : upd (upd (upd H dx (exd dx [(f, v)])) a (exo a C (some dx))) dx (exd dx [(f2, v2), (f, v)]) = upd (upd H dx (exd dx [(f2, v2), (f, v)])) a (exo a C (some dx)) := by
      funext b
      by_cases h1 : b = dx
      · rw [h1, upd_same, upd_ne hne, upd_same]
      · rw [upd_ne h1]
        by_cases h2 : b = a
        · rw [h2, upd_same, upd_same]
        · rw [upd_ne h2, upd_ne h2, upd_ne h1, upd_ne h1]
    show Q .non (upd (upd (upd H dx (exd dx [(f, v)])) a (exo a C (some dx))) dx (exd dx [(f2, v2), (f, v)]))
    rw [e]
    exact k dx hd hne
end
end VI

set_option Elab.async false
set_option linter.all false
set_option maxRecDepth 100000
set_option maxHeartbeats 1000000
/-! VIk: defs by levels; the law's end. -/
namespace VI
open PySem PySem.Spec PyProof.Rows L2 RZ
/-- what a call at a level promises: what the small tree's run gives -/
def spI (g : Glb) (T : Tab) (n f : Nat) : Sp := fun vs H Q E => ∃ (μ : Nat → Addr) (S : Store) (ds : List VI.D), Sim g μ S H ∧ Rls g μ S.length H ds vs ∧ (∃ d, T.df f = some d ∧ ds.length = d.k) ∧
  (run T n f ds S).want (KR g (Rl g) μ S.length H Q) (fun x S' => ∀ cls d μ' H', Ext g μ S.length H μ' S'.length H' → Sim g μ' S' H' → XR g μ' S'.length H' x cls d → E cls d H')
theorem run_args {T : Tab} {n f : Nat} {ds : List VI.D} {S : Store} {k : VI.D → Store → Prop} {x : XC → Store → Prop} (h : (run T n f ds S).want k x) : ∃ d, T.df f = some d ∧ ds.length = d.k := by
  cases n with
  | zero => rw [run_zero] at h; exact absurd h id
  | succ n =>
    rw [run_succ] at h
    cases hd : T.df f with
    | none => rw [hd] at h; exact absurd h id
    | some d =>
      rw [hd] at h
      dsimp only at h
      unfold runBody at h
      by_cases hl : ds.length = d.k
      · exact ⟨d, rfl, hl⟩
      · rw [if_neg hl] at h
        exact absurd h id
/-- what stands for the tables of a text -/
structure TabOk (g : Glb) (T : Tab) (cv : Nat → V) : Prop where
  con : ∀ k μ n H, Rl g μ n H (T.con k) (cv k)
  na : ∀ c f, T.na c f = true → Cls g.K (g.C c) ∧ NoAttr g.K (g.C c) f
  exm : ∀ k c b, T.exm k c = some b → PySem.W.exmOne g.K (.ref (g.C k)) (.ref (g.C c)) = some b
theorem TabOk.hy {g : Glb} {T : Tab} {cv : Nat → V} (t : TabOk g T cv) (n : Nat) : Hy g (pgAt T n) (spI g T n) cv :=
  ⟨fun f ds S μ H vs Q E s r h => ⟨μ, S, ds, s, r, run_args h, h⟩, t.con, t.na, t.exm⟩
theorem start_RlE {g : Glb} {μ : Nat → Addr} {n : Nat} {H : Hp} {ea : Addr} (m : Nat) : ∀ {ds : List VI.D} {vs : List V}, Rls g μ n H ds vs → RlE g μ n H ea (ds.map .val ++ List.replicate m .no) (vs.map some ++ List.replicate m none)
  | [], vs, r => by
    rw [r.nil_inv]
    show RlE g μ n H ea (List.replicate m .no) (List.replicate m none)
    induction m with
    | zero => unfold RlE; rfl
    | succ m ih =>
      rw [List.replicate_succ, List.replicate_succ]
      unfold RlE
      exact ⟨_, rfl, ih⟩
  | d :: ds, vs, r => by
    obtain ⟨x, ys, rfl, h1, h2⟩ := r.cons_inv
    show RlE g μ n H ea (.val d :: (ds.map .val ++ List.replicate m .no)) (some x :: (ys.map some ++ List.replicate m none))
    unfold RlE
    exact ⟨x, _, rfl, h1, start_RlE m h2⟩
abbrev xi0 : XI := ⟨0, .none, none⟩
/-- a def's body: its reading holds where its promise is asked -/
theorem body_holds {g : Glb} {T : Tab} {cv : Nat → V} (t : TabOk g T cv) {n f : Nat} {d : Df} (hd : T.df f = some d) {N : List Str} (hN : N.length = d.n) {vs : List V} {H : Hp} {Q : VK} {E : L2.XK} (h : spI g T (n + 1) f vs H Q E) :
    rdSs g (spI g T n) cv xi0 (fun cls dd _ H => E cls dd H) d.body { nx := fun _ H' => Q .non H', rt := Q } (L2.start N vs) H := by
  obtain ⟨μ, S, ds, s, r, _, hw⟩ := h
  rw [run_succ, hd] at hw
  dsimp only at hw
  unfold runBody at hw
  by_cases hl : ds.length = d.k
  · rw [if_pos hl] at hw
    have re : RlE g μ S.length H xi0.a (startE d.n ds) (L2.start N vs) := by
      unfold startE L2.start
      rw [hN, ← r.length]
      exact start_RlE _ r
    refine soundSs (t.hy n) xi0 none _ d.body (startE d.n ds) μ S H (L2.start N vs) _ ⟨s, re, trivial⟩ ?_
    cases hx : exSs (pgAt T n) none d.body (startE d.n ds) S with
    | err => rw [hx] at hw; exact absurd hw id
    | exc x env1 S1 =>
      rw [hx] at hw
      intro cls dd σ' μ' H' e1 s1 _ x1
      exact hw cls dd μ' H' e1 s1 x1
    | ok fl env1 S1 =>
      rw [hx] at hw
      cases fl with
      | nx => exact fun μ' H' e1 s1 σ' _ => hw .non μ' H' e1 s1 Rl.non_i
      | rt v => exact fun μ' H' e1 s1 w rw' => hw w μ' H' e1 s1 rw'
      | bk => exact absurd hw id
      | ct => exact absurd hw id
  · rw [if_neg hl] at hw
    exact absurd hw id
section
variable {P : Program} {w : World} {K : PySem.W.Frag} {mg : Str → Option Value} {base : Heap}
/-- a def keeps what its tree's run gives, one level up -/
theorem def_ok {g : Glb} {T : Tab} {cv : Nat → V} (t : TabOk g T cv) {n f : Nat} {d : Df} (hd : T.df f = some d) {x qual : Str} {params : Arguments} {body : List Stmt} {scope : Scope} {fd : FuncData} (F : FunD K x qual params body scope [] [] (g.F f) fd)
    {N ps : List Str} (S : FnScope N ps scope) (hN : N.length = d.n) (hps : ps.length = d.k)
    (hb : ∀ (cdv : Value) (A : Around) (outer : List PySem.Env) (s : Shared) (H : Hp) (E : L2.XK), Room (3 * n + 2) (A.deeper (envOfC qual scope s.heap.objs.size (g.F f) cdv)) →
      PSs (cxOf (L2.CX P w) P w K mg base N qual scope (g.F f) cdv A outer s H E) body (rdSs g (spI g T n) cv xi0 (fun cls dd _ H => E cls dd H) d.body)) :
    FnOk P w K mg base (L2.CX P w) (3 * (n + 1)) (g.F f) fd ps (spI g T (n + 1) f) := by
  refine F.ok S (fun vs H Q E h => ?_) (fun cdv A outer s H vs Q E hr h => ⟨_, hb cdv A outer s H E hr, body_holds t hd hN h⟩)
  obtain ⟨μ, S, ds, s, r, ⟨d', h1, h2⟩, _⟩ := h
  rw [hd] at h1
  cases h1
  rw [← r.length, h2, hps]
/-- at level 0 nothing is promised -/
theorem def_ok0 {g : Glb} {T : Tab} {f : Nat} {fd : FuncData} {ps : List Str} : FnOk P w K mg base (L2.CX P w) (3 * 0) (g.F f) fd ps (spI g T 0 f) :=
  ⟨fun vs H Q E ⟨_, _, _, _, _, _, h⟩ => by rw [run_zero] at h; exact absurd h id, fun A outer s H args us vs Q E _ _ _ _ ⟨_, _, _, _, _, _, h⟩ => by rw [run_zero] at h; exact absurd h id⟩
end
/-! ### defs called while an exception is handled -/
structure FnA (P : Program) (w : World) (K : PySem.W.Frag) (mg : Str → Option Value) (base : Heap) (CX : CXT) (k : Nat) (f : Addr) (fd : FuncData) (ps : List Str) (sp : Sp) : Prop where
  len : ∀ vs H Q E, sp vs H Q E → vs.length = ps.length
  run : ∀ (A : Around) (outer : List PySem.Env) (s : Shared) (H : Hp) (args : Args) (us : List Value) (vs : List V) (Q : VK) (E : L2.XK), L2H.RoomH k A → Env0 P w K mg base A outer s H → BindsTo s fd args (ps.zip us) → Vals vs us → sp vs H Q E →
    codeAny (model P w) A (.call (.ref f) args) (CR CX outer P w H s Q E) s
abbrev cxA (CX : CXT) (P : Program) (w : World) (K : PySem.W.Frag) (mg : Str → Option Value) (base : Heap) (N : List Str) (qual : Str) (scope : Scope) (f : Addr) (cd : Value) (A : Around) (outer : List PySem.Env) (s : Shared) (H : Hp) (E : L2.XK) : Cx :=
  { cxOf CX P w K mg base N qual scope f cd A outer s H E with calm := false }
theorem fn_ofA {CX : CXT} {P : Program} {w : World} {K : PySem.W.Frag} {mg : Str → Option Value} {base : Heap} {k : Nat} {f : Addr} {name qual : Str} {params : Arguments} {body : List Stmt} {scope : Scope} {dV kV doc pm cdv ct oc : Value} {an od : Option Addr}
    {osl : Array (Option Value)} {N ps : List Str} {sp : Sp} (lk : K.lookup f = some ⟨oc, od, .func (PySem.W.fnOf name qual params body scope dV kV doc pm an cdv ct), osl⟩) (hcd : PySem.W.codeIn K cdv qual = true) (S : FnScope N ps scope)
    (len : ∀ vs H Q E, sp vs H Q E → vs.length = ps.length)
    (hbody : ∀ (A : Around) (outer : List PySem.Env) (s : Shared) (H : Hp) (vs : List V) (Q : VK) (E : L2.XK), L2H.RoomH k (A.deeper (envOfC qual scope s.heap.objs.size f cdv)) → sp vs H Q E →
      ∃ t, PSs (cxA CX P w K mg base N qual scope f cdv A outer s H E) body t ∧ t { nx := fun _ H' => Q .non H', rt := Q } (L2.start N vs) H) :
    FnA P w K mg base CX (k + 1) f (PySem.W.fnOf name qual params body scope dV kV doc pm an cdv ct) ps sp := by
  refine ⟨len, fun A outer s H args us vs Q E hr e0 hb r hsp => ?_⟩
  have hl := len _ _ _ _ hsp
  have KX : K.In s.heap := e0.mod.kin.keeps fun b o e => (e0.bs b o e).1
  have lim : s.heap.NoLimit := e0.mod.nolimit.keeps fun b o e => (e0.bs b o e).1
  have hkind : ∀ y ∈ ps.zip us, scope.names.lookup y.1 = some .local ∨ (scope.names.lookup y.1 = some .cell ∧ ((cellsFrom (s.heap.objs.size + 1) scope.names []).lookup y.1).isSome = true) := fun ⟨n, v⟩ hy => by
    rcases S.par n (List.of_mem_zip hy).1 with q | q
    · exact .inl q
    · exact .inr ⟨q, PySem.W.cellsFrom_some _ _ _ (.inl q)⟩
  refine codeAny_call_function hr.depth (KX _ _ lk) rfl S.co S.gen rfl (PySem.W.codeRec_of KX hcd) (hb _ _ _ _ ?_)
  refine wpAny_newFunctionEnv_cells S.kind hkind fun env he s1 x => ?_
  subst he
  refine ⟨lim.keeps x.toInCall.keep, codeAny_func ?_⟩
  obtain ⟨t, ht, hq⟩ := hbody A outer s H vs Q E (hr.deeper _) hsp
  -- the start's invariant does not ask what is handled, but for a calm context
  have e1 : Env0 P w K mg base { A with handled := none } outer s H := ⟨e0.frames, e0.mod, e0.bs, e0.bsz, e0.funs, e0.frf, e0.hok, e0.bare⟩
  have I0 : L2.Inv (cxOf CX P w K mg base N qual scope f cdv { A with handled := none } outer s H E) [] (L2.start N vs) H s1 := inv_start S rfl e1 hl r x
  have I : L2.Inv (cxA CX P w K mg base N qual scope f cdv A outer s H E) [] (L2.start N vs) H s1 :=
    ⟨⟨I0.ok.mod, I0.ok.kind, I0.ok.glob, I0.ok.blt, I0.ok.above, I0.ok.inj, I0.ok.has, I0.ok.cab, (fun z => Bool.noConfusion (show false = true from z)), I0.ok.frames, I0.ok.stk, I0.ok.exf, I0.ok.bs, I0.ok.bsz, I0.ok.noex, I0.ok.exfs, I0.ok.funs, I0.ok.frf⟩,
      I0.os, I0.bare, I0.base, I0.loc, I0.cell, I0.free, I0.freeC, I0.pin, I0.hok, I0.len⟩
  refine wpAny_mono (ht.run [] s1 (L2.start N vs) H _ I hq) (fun fl s' hs => ?_) fun e s' hs => hs
  have fin : ∀ {σ' : L2.St} {H' : Hp} {v : V} {u : Value}, L2.Inv (cxA CX P w K mg base N qual scope f cdv A outer s H E) [] σ' H' s' → RelV v u → Q v H' → CE outer P w H s Q u s' :=
    fun {σ' H' v u} J rv q => ⟨v, H', J.os, J.bare, J.base, J.hok, rv, q⟩
  cases fl with
  | ret u =>
    obtain ⟨v, σ', H', J, rv, q⟩ := hs
    exact fin J rv q
  | next =>
    obtain ⟨σ', H', J, q⟩ := hs
    exact fin (v := V.non) (u := Value.none) J rfl q
  | brk =>
    obtain ⟨_, _, _, q⟩ := hs
    exact False.elim q
  | cont =>
    obtain ⟨_, _, _, q⟩ := hs
    exact False.elim q
section
variable {X : Cx} {CX : CXT} {k : Nat} {f C : Addr} {fd : FuncData} {ps : List Str} {sp : Sp} {E : L2.St → L2.XK} {x m : Str} {q pos apos : Pos} {e o : Expr} {es : List Expr} {ta : TE} {t : TA}
theorem run_fnA {pins : List (Addr × Obj)} {σ : L2.St} {H : Hp} {s : Shared} {Q : VK} {us : List Value} {vs : List V} (F : FnA X.prog X.w X.K X.mg X.base CX k f fd ps sp) (hr : L2H.RoomH k X.A) (hb : Binds X.K fd ps []) (hx : PassesAt CX X σ (E σ))
    (I : L2.Inv X pins σ H s) (r : Vals vs us) (h : sp vs H Q (E σ)) : wpAny (model X.prog X.w) X.A (call (.ref f) us) (EP X pins σ Q) X.xe s := by
  have hl : us.length = ps.length := by rw [← r.length]; exact F.len _ _ _ _ h
  have b := hb s us I.kIn (by rw [List.append_nil]; exact hl)
  rw [List.append_nil] at b
  refine wpAny_call (codeAny_mono (F.run X.A X.stack s H ⟨us, []⟩ us vs Q (E σ) hr I.env0 b r h) fun r s' hq => ?_)
  cases r with
  | error e => exact hx pins H s e s' I hq
  | ok fl =>
    cases fl with
    | ret u => exact I.after hq
    | next => exact False.elim hq
    | brk => exact False.elim hq
    | cont => exact False.elim hq
theorem pe_callA0 (F : FnA X.prog X.w X.K X.mg X.base CX k f fd ps sp) (hr : L2H.RoomH k X.A) (hg : Gl X x) (hm : X.mg x = some (.ref f)) (hk : PySem.W.keepIn X.K (.ref f) = true) (hb : Binds X.K fd ps []) (hx : ∀ σ, PassesAt CX X σ (E σ))
    (hdb : (x == ("__debug__" : Str)) = false := by decide) : PE X (.Call (.Name x q) [] [] pos) (tCallS sp E tNil) := by
  refine ⟨fun pins s σ H Q I h => ?_⟩
  refine wpAny_Call_Name_kw (ld_glob I hg hm ?_ hdb)
  exact PySem.W.callWith_K0 I.kIn hk (run_fnA (us := []) (vs := []) F hr hb (hx σ) I .nil h)
theorem pe_callA (F : FnA X.prog X.w X.K X.mg X.base CX k f fd ps sp) (hr : L2H.RoomH k X.A) (hg : Gl X x) (hm : X.mg x = some (.ref f)) (hk : PySem.W.keepIn X.K (.ref f) = true) (hb : Binds X.K fd ps []) (hx : ∀ σ, PassesAt CX X σ (E σ))
    (ha : PA X (e :: es) t) (hdb : (x == ("__debug__" : Str)) = false := by decide) (he : starEach (e :: es) X.env = (false, eval e X.env) :: starEach es X.env := by rfl) (hpl : (backTo pos (starEach es X.env)).any (·.1) = false := by rfl) :
    PE X (.Call (.Name x q) (e :: es) [] pos) (tCallS sp E t) := by
  refine ⟨fun pins s σ H Q I h => ?_⟩
  refine wpAny_Call_Name_kw (ld_glob I hg hm ?_ hdb)
  refine PySem.W.callWith_K (h₀ := X.base) I.ok.mod.kin hk (thn (ha.run pos pins s σ H _ I h) fun us s1 ⟨vs, H1, I1, r, q⟩ => ⟨I1.kIn, ?_⟩) he hpl
  exact run_fnA F hr hb (hx σ) I1 r q
theorem pe_methA {pl : Sem Bool} (he : PE X o ta) (c : Cls X.K C) (hm : Meth X.K C m f) (F : FnA X.prog X.w X.K X.mg X.base CX k f fd ps sp) (hr : L2H.RoomH k X.A) (hb : Binds X.K fd ps []) (hx : ∀ σ, PassesAt CX X σ (E σ)) (ha : PA X (e :: es) t)
    (hst : starEach (e :: es) X.env = (false, eval e X.env) :: starEach es X.env := by rfl) (hpl : (backTo pos (starEach es X.env)).any (·.1) = false := by rfl)
    (ht : eval (.Call (.Attribute o m apos) (e :: es) [] pos) X.env = (do
      let ov ← eval o X.env
      standAt apos.atName
      let (f, first) ← holding [ov] (getMethod ov m pl)
      callWith pos f first (backTo pos (starEach (e :: es) X.env)) (backToKw pos (keywordEach [] X.env))) := by rfl) :
    PE X (.Call (.Attribute o m apos) (e :: es) [] pos) (tMethS C m sp E ta t) := by
  refine ⟨fun pins s σ H Q I h => ?_⟩
  refine PySem.W.methodCall_KW (pl := pl) (thn (he.run pins s σ H _ I h) fun u s1 ⟨x, H1, I1, rx, a, dx, fs, ex, ea, l, q⟩ => ?_) ht
  subst ex
  obtain rfl : u = Value.ref a := rx
  refine getmeth_ok I1 ea c hm l ?_
  refine PySem.W.callWith_K (first := [.ref a]) (h₀ := X.base) I.ok.mod.kin hm.kp (thn (ha.run pos pins s1 σ H1 _ I1 q) fun us s2 ⟨vs, H2, I2, r, q2⟩ => ⟨I2.kIn, ?_⟩) hst hpl
  exact run_fnA (us := .ref a :: us) (vs := .ref a :: vs) F hr hb (hx σ) I2 (.cons rfl r) q2
theorem pe_methA0 {pl : Sem Bool} (he : PE X o ta) (c : Cls X.K C) (hm : Meth X.K C m f) (F : FnA X.prog X.w X.K X.mg X.base CX k f fd ps sp) (hr : L2H.RoomH k X.A) (hb : Binds X.K fd ps []) (hx : ∀ σ, PassesAt CX X σ (E σ))
    (ht : eval (.Call (.Attribute o m apos) [] [] pos) X.env = (do
      let ov ← eval o X.env
      standAt apos.atName
      let (f, first) ← holding [ov] (getMethod ov m pl)
      callWith pos f first (backTo pos (starEach [] X.env)) (backToKw pos (keywordEach [] X.env))) := by rfl) :
    PE X (.Call (.Attribute o m apos) [] [] pos) (tMethS C m sp E ta tNil) := by
  refine ⟨fun pins s σ H Q I h => ?_⟩
  refine PySem.W.methodCall_KW (pl := pl) (thn (he.run pins s σ H _ I h) fun u s1 ⟨x, H1, I1, rx, a, dx, fs, ex, ea, l, q⟩ => ?_) ht
  subst ex
  obtain rfl : u = Value.ref a := rx
  refine getmeth_ok I1 ea c hm l ?_
  exact PySem.W.callWith_K0 (first := [.ref a]) I1.kIn hm.kp (run_fnA (us := [.ref a]) (vs := [.ref a]) F hr hb (hx σ) I1 (.cons rfl .nil) q)
end
section
variable {P : Program} {w : World} {K : PySem.W.Frag} {mg : Str → Option Value} {base : Heap}
theorem def_okA {g : Glb} {T : Tab} {cv : Nat → V} (t : TabOk g T cv) {n f : Nat} {d : Df} (hd : T.df f = some d) {x qual : Str} {params : Arguments} {body : List Stmt} {scope : Scope} {fd : FuncData} (F : FunD K x qual params body scope [] [] (g.F f) fd)
    {N ps : List Str} (S : FnScope N ps scope) (hN : N.length = d.n) (hps : ps.length = d.k)
    (hb : ∀ (cdv : Value) (A : Around) (outer : List PySem.Env) (s : Shared) (H : Hp) (E : L2.XK), L2H.RoomH (3 * n + 2) (A.deeper (envOfC qual scope s.heap.objs.size (g.F f) cdv)) →
      PSs (cxA (L2.CX P w) P w K mg base N qual scope (g.F f) cdv A outer s H E) body (rdSs g (spI g T n) cv xi0 (fun cls dd _ H => E cls dd H) d.body)) :
    FnA P w K mg base (L2.CX P w) (3 * (n + 1)) (g.F f) fd ps (spI g T (n + 1) f) := by
  obtain ⟨oc, od, dV, kV, doc, pm, an, cdv, ct, osl, rfl, lk, hcd, _, _⟩ := F.ex
  refine fn_ofA lk hcd S (fun vs H Q E h => ?_) fun A outer s H vs Q E hr h => ⟨_, hb cdv A outer s H E hr, body_holds t hd hN h⟩
  obtain ⟨μ, S, ds, s, r, ⟨d', h1, h2⟩, _⟩ := h
  rw [hd] at h1
  cases h1
  rw [← r.length, h2, hps]
theorem def_okA0 {g : Glb} {T : Tab} {f : Nat} {fd : FuncData} {ps : List Str} : FnA P w K mg base (L2.CX P w) (3 * 0) (g.F f) fd ps (spI g T 0 f) :=
  ⟨fun vs H Q E ⟨_, _, _, _, _, _, h⟩ => by rw [run_zero] at h; exact absurd h id, fun A outer s H args us vs Q E _ _ _ _ ⟨_, _, _, _, _, _, h⟩ => by rw [run_zero] at h; exact absurd h id⟩
end
/-! ### the facts of a text, by tables -/
structure Tbl where
  ids : List Nat
  xis : List Nat
  bass : List (Nat × Str)
  clss : List Nat
  fns : List (Nat × Str)
  mks : List (Nat × Nat × Str)
  meths : List (Nat × Str × Nat)
  frees : List Str
  intz : List (Str × Int)
  strz : List (Str × Str)
  cons : List (Str × Nat)
  excs : List (Nat × Str × Nat × List Str)
  trs : List (Nat × Str)
  exis : List Nat
  xfs : List (Nat × Str)
structure Fac (K : PySem.W.Frag) (mg : Str → Option Value) (g : Glb) (FD : Nat → FuncData) (ps : Nat → List Str) (cv : Nat → V) (tb : Tbl) : Prop where
  fn : ∀ (i : Nat) (q : Nat × Str), tb.fns[i]? = some q → mg q.2 = some (.ref (g.F q.1))
  kp : ∀ i, tb.ids.contains i = true → PySem.W.keepIn K (.ref (g.F i)) = true
  bnd : ∀ i, tb.ids.contains i = true ∨ tb.xis.contains i = true → Binds K (FD i) (ps i) []
  bas : ∀ (i : Nat) (q : Nat × Str), tb.bass[i]? = some q → BaseI K (g.C q.1) ∧ mg q.2 = some (.ref (g.C q.1))
  cls : ∀ c, tb.clss.contains c = true → Cls K (g.C c)
  mkc : ∀ (i : Nat) (q : Nat × Nat × Str), tb.mks[i]? = some q → Mk K (g.C q.1) (g.F q.2.1) ∧ mg q.2.2 = some (.ref (g.C q.1))
  meth : ∀ (i : Nat) (q : Nat × Str × Nat), tb.meths[i]? = some q → Meth K (g.C q.1) q.2.1 (g.F q.2.2)
  free : ∀ (i : Nat) (x : Str), tb.frees[i]? = some x → mg x = none
  int : ∀ (i : Nat) (q : Str × Int), tb.intz[i]? = some q → ∃ t, mg q.1 = some (.int q.2 t)
  str : ∀ (i : Nat) (q : Str × Str), tb.strz[i]? = some q → ∃ t, mg q.1 = some (.str q.2 t)
  con : ∀ (i : Nat) (q : Str × Nat), tb.cons[i]? = some q → ∃ u, mg q.1 = some u ∧ RelV (cv q.2) u
  exc : ∀ (i : Nat) (q : Nat × Str × Nat × List Str), tb.excs[i]? = some q → OexC K (g.C q.1) ∧ PySem.W.findIn K (.ref (g.C q.1)) "__init__" = some (some (.ref (g.F q.2.2.1))) ∧ PySem.W.typeIn K (.ref (g.F q.2.2.1)) = some (.type "function") ∧ mg q.2.1 = some (.ref (g.C q.1))
  tr : ∀ (i : Nat) (q : Nat × Str), tb.trs[i]? = some q → mg q.2 = some (.ref (g.C q.1))
  xi : ∀ c, tb.exis.contains c = true → ExcC K (g.C c) ∧ PySem.W.kitOne K (.ref (g.C c)) (.type "ValueError") = some true
  xf : ∀ c f, tb.xfs.contains (c, f) = true → XfC K (g.C c) ∧ PySem.W.findIn K (.ref (g.C c)) f = some none
theorem xi_of {K : PySem.W.Frag} {g : Glb} {l : List Nat} (h : ∀ c, l.contains c = true → ExcC K (g.C c) ∧ PySem.W.kitOne K (.ref (g.C c)) (.type "ValueError") = some true) {b : List (Nat × Bool)} (hb : (b.all fun p => l.contains p.1 && p.2) = true) :
    ∀ c k, b.lookup c = some k → ExcC K (g.C c) ∧ PySem.W.kitOne K (.ref (g.C c)) (.type "ValueError") = some k := fun c k hk => by
  induction b with
  | nil => cases hk
  | cons p b ih =>
    rw [List.all_cons, Bool.and_eq_true] at hb
    obtain ⟨hb1, hb2⟩ := hb
    rw [Bool.and_eq_true] at hb1
    obtain ⟨h1, h2⟩ := hb1
    rw [List.lookup_cons] at hk
    split at hk
    · rename_i e
      have e : c = p.1 := by simpa using e
      have hk : p.2 = k := Option.some.inj hk
      rw [← hk, h2, e]
      exact h _ h1
    · exact ih hb2 hk
theorem xf_of {Φ : Nat → Str → Prop} {l : List (Nat × Str)} (h : ∀ c f, l.contains (c, f) = true → Φ c f) {cs : List Nat} {f : Str} (hb : (cs.all fun c => l.contains (c, f)) = true) : ∀ c ∈ cs, Φ c f := fun c hc => h c f (List.all_eq_true.mp hb c hc)
theorem hu64 {k : Nat} {A A' : Around} (r : Room k A) (e : A'.units = A.units := by rfl) : A'.units + 64 < cLine := by have := r.un; omega
theorem hu65 {k : Nat} {A A' : Around} (r : Room k A) (e : A'.units = A.units := by rfl) : A'.units + 65 < cLine := by have := r.un; omega
theorem hu65A {k : Nat} {A A' : Around} (r : L2H.RoomH k A) (e : A'.units = A.units := by rfl) : A'.units + 65 < cLine := by have := r.un; omega
theorem hu64A {k : Nat} {A A' : Around} (r : L2H.RoomH k A) (e : A'.units = A.units := by rfl) : A'.units + 64 < cLine := by have := r.un; omega
theorem noCX {P : Program} {w : World} {outer : List PySem.Env} {H : Hp} {s : Shared} {u : Value} {s' : Shared} {G : Prop} (h : L2.CX P w outer H s (fun _ _ _ => False) u s') : G := by
  obtain ⟨_, _, _, _, _, _, _, _, _, _, _, _, h⟩ := h
  exact h.elim
theorem aug_add {X : Cx} : PIp X .Add (rAug .add) := by
  intro pins s σ H x y u v Q I rx ry h
  rcases h with h | h | h
  · exact iop_add pins s σ H x y u v Q I rx ry h
  · exact iop_add_str pins s σ H x y u v Q I rx ry h
  · exact iop_ext pins s σ H x y u v Q I rx ry h
theorem aug_sub {X : Cx} : PIp X .Sub (rAug .sub) := fun pins s σ H x y u v Q I rx ry h => iop_sub pins s σ H x y u v Q I rx ry h
theorem pget_list {X : Cx} : PGet X rGetL := by
  intro pins s σ H x y v u Q I rx ry h
  obtain ⟨p, xs, i, z, rfl, rfl, hq, he, q⟩ := h
  cases rx
  obtain ⟨t, rfl⟩ := ry
  obtain ⟨its, r, pl, hz⟩ := I.list (.inl (.inl hq))
  obtain ⟨j, h1, h2, h3, h4, h5⟩ := atI_get he
  obtain ⟨w, ew, rw'⟩ := r.get h2
  have hl := r.length
  have hn := line63
  have fin : EP X pins σ Q w s := ⟨z, H, I, rw', q⟩
  by_cases h0 : 0 ≤ i
  · have hj : i.toNat = j := by
      rw [seqIndex_of h0 h5] at h1
      exact Option.some.inj h1
    exact wpAny_getItem_list pl.isList h0 (by omega) (by rw [hj]; simpa using ew) fin
  · have hj : (i + (its.toArray.size : Int)).toNat = j := by
      rw [seqIndex_neg (by omega) h4] at h1
      rw [List.size_toArray, ← hl]
      exact Option.some.inj h1
    exact wpAny_getItem_list_neg pl.isList (by omega) (by rw [List.size_toArray] <;> omega) (by omega) (by rw [hj]; simpa using ew) fin
/-- what is asked of the law's run -/
theorem spLaw_of {g : Glb} {T : Tab} {n f : Nat} {d : Df} (hd : T.df f = some d) (hk : d.k = 1) (h : ∀ ns : List Int, ns.length ≤ 63 → ∃ S', run T n f [.rol (ns.map .int)] [] = .ok (.bl true) S') (H : Hp) (a : Addr) (ns : List Int) (hl : ns.length ≤ 63) (hO : Only H) (hS : SqL g.K H a (ns.map V.int)) :
    spI g T n f [.ref a] H (fun v _ => v = .bl true) (fun _ _ _ => False) := by
  obtain ⟨S', e⟩ := h ns hl
  have sim : Sim g (fun _ => 0) [] H := ⟨fun i j hi => absurd hi (by simp), fun l c h => absurd h (by simp)⟩
  have hz : SqZ g.K H a (ns.map V.int) := by
    rcases hS with (h | ⟨o, h⟩) | h
    · rcases hO a with q | ⟨o, xs, q⟩
      · rw [q] at h; cases h
      · rw [q] at h; cases h
    · exact .inl ⟨o, h⟩
    · exact .inr (fun _ => .inr h)
  refine ⟨fun _ => 0, [], [.rol (ns.map .int)], sim, Rls.one ?_, ⟨d, hd, hk.symm⟩, ?_⟩
  · unfold Rl
    exact ⟨a, _, rfl, hz, Rls.ints ns⟩
  · rw [e]
    intro v μ' H' _ _ r
    exact r.bl_inv
end VI

set_option Elab.async false
set_option linter.all false
set_option maxRecDepth 100000
set_option maxHeartbeats 1000000
/-! VIl: a text's facts off the head, by one look. -/
namespace VI
open PySem PySem.Spec PyProof.Rows L2 RZ He
structure Lay where
  tb : Tbl
  cn : Nat → Str
  ft : Nat → Str × Option Str
  cq : List (Nat × Str × VI.D)
  nas : List (Nat × Str)
  exl : List ((Nat × Nat) × Bool)
  dd : List (Nat × DefD)
def conOf (cq : List (Nat × Str × VI.D)) (k : Nat) : VI.D := match cq.lookup k with
  | some p => p.2
  | none => .non
def cvOf (K : PySem.W.Frag) (cq : List (Nat × Str × VI.D)) (k : Nat) : V := match cq.lookup k with
  | some p => .ref (ga K p.1)
  | none => .non
def Lay.g (l : Lay) (K : PySem.W.Frag) : Glb := ⟨K, fun c => ga K (l.cn c), fun f => fAd K (l.ft f)⟩
/-! ### a constant -/
mutual
def valB (K : PySem.W.Frag) : VI.D → Value → Bool
  | .non, u => relB .non u
  | .bl b, u => relB (.bl b) u
  | .int i, u => relB (.int i) u
  | .str s, u => relB (.str s) u
  | .tup ds, u => (match u with
    | .ref a => (match K.lookup a with
      | some ⟨.type c, _, .seq its _, _⟩ => decide (c = "tuple") && (decide (its.size ≤ sizeLine) && valsB K ds its.toList)
      | _ => false)
    | _ => false)
  | _, _ => false
def valsB (K : PySem.W.Frag) : List VI.D → List Value → Bool
  | [], us => us.isEmpty
  | d :: ds, us => (match us with
    | u :: us => valB K d u && valsB K ds us
    | [] => false)
end
mutual
theorem valB_ok {g : Glb} : ∀ (d : VI.D) (u : Value), valB g.K d u = true → ∃ v, RelV v u ∧ ∀ μ n H, Rl g μ n H d v
  | .non, u, h => ⟨.non, relB_ok h, fun _ _ _ => by unfold Rl; rfl⟩
  | .bl b, u, h => ⟨.bl b, relB_ok h, fun _ _ _ => by unfold Rl; rfl⟩
  | .int i, u, h => ⟨.int i, relB_ok h, fun _ _ _ => by unfold Rl; rfl⟩
  | .str s, u, h => ⟨.str s, relB_ok h, fun _ _ _ => by unfold Rl; rfl⟩
  | .tup ds, u, h => by
    unfold valB at h
    cases u with
    | ref a =>
      dsimp only at h
      cases q : g.K.lookup a with
      | none => rw [q] at h; cases h
      | some o =>
        obtain ⟨oc, od, dt, osl⟩ := o
        rw [q] at h
        cases oc with
        | type c =>
          cases dt with
          | seq its n =>
            obtain ⟨h1, h2⟩ := ba (show (decide (c = "tuple") && (decide (its.size ≤ sizeLine) && valsB g.K ds its.toList)) = true from h)
            obtain ⟨h3, h4⟩ := ba h2
            obtain ⟨xs, r1, r2⟩ := valsB_ok ds its.toList h4
            refine ⟨.ref a, rfl, fun μ n H => ?_⟩
            unfold Rl
            exact ⟨a, xs, rfl, .inr ⟨_, its, _, q, congrArg Value.type (of_decide_eq_true h1), rfl, of_decide_eq_true h3, r1⟩, r2 μ n H⟩
          | _ => cases h
        | _ => cases dt <;> cases h
    | _ => cases h
  | .rol _, u, h => by unfold valB at h; cases h
  | .ref _, u, h => by unfold valB at h; cases h
  | .ty _, u, h => by unfold valB at h; cases h
  | .cls _, u, h => by unfold valB at h; cases h
  | .fn _, u, h => by unfold valB at h; cases h
theorem valsB_ok {g : Glb} : ∀ (ds : List VI.D) (us : List Value), valsB g.K ds us = true → ∃ xs, Vals xs us ∧ ∀ μ n H, Rls g μ n H ds xs
  | [], us, h => by
    unfold valsB at h
    cases us with
    | nil => exact ⟨[], .nil, fun _ _ _ => Rls.nil⟩
    | cons _ _ => cases h
  | d :: ds, us, h => by
    unfold valsB at h
    cases us with
    | nil => cases h
    | cons u us =>
      obtain ⟨h1, h2⟩ := ba h
      obtain ⟨v, r1, r2⟩ := valB_ok d u h1
      obtain ⟨xs, r3, r4⟩ := valsB_ok ds us h2
      exact ⟨v :: xs, .cons r1 r3, fun μ n H => Rls.cons (r2 μ n H) (r4 μ n H)⟩
end
/-! ### looks of own classes -/
def oexB (K : PySem.W.Frag) (C : Addr) : Bool := (match K.lookup C with
    | some ⟨.type "type", _, .cls cd, sl⟩ => (match cd.mro, sl.toList with
      | .ref C' :: bm, [_, _, _, _, some (.builtin n), _] => C' == C && (n == "ValueError.__new__" && (!cd.hasDel && (cd.hasDict && PySem.HandSPX.refsVE bm)))
      | _, _ => false)
    | _ => false) && (eqO (PySem.W.findIn K (.ref C) "__setattr__") (some (some (.builtin "object.__setattr__"))) && (decide (PySem.W.subIn K (.ref C) (.type "BaseException") = some true) && (decide (PySem.W.typeIn K (.ref C) = some (.type "type")) && PySem.W.keepIn K (.ref C))))
theorem oexB_ok {K : PySem.W.Frag} {C : Addr} (h : oexB K C = true) : OexC K C := by
  obtain ⟨h0, h⟩ := ba h
  obtain ⟨h1, h⟩ := ba h
  obtain ⟨h2, h⟩ := ba h
  obtain ⟨h3, h4⟩ := ba h
  refine ⟨?_, eqO_ok h1, of_decide_eq_true h2, of_decide_eq_true h3, h4⟩
  split at h0
  · rename_i dd cd sl ho
    split at h0
    · rename_i C' bm k0 k1 k2 k3 n k5 hm hs
      simp only [Bool.and_eq_true, beq_iff_eq, Bool.not_eq_true'] at h0
      obtain ⟨rfl, rfl, hdel, hdd, ht⟩ := h0
      obtain ⟨nm, bs, mro, ns, qn, hd, sn, sub, ab, col, del⟩ := cd
      dsimp only at hm hdel hdd
      subst hm hdel hdd
      have hsl : sl = #[k0, k1, k2, k3, some (.builtin "ValueError.__new__"), k5] := by
        obtain ⟨l⟩ := sl
        simp only at hs
        rw [hs]
      subst hsl
      exact ⟨nm, qn, ns, bs, bm, sn, sub, ab, col, dd, k0, k1, k2, k3, k5, ho, ht⟩
    · cases h0
  · cases h0
def excB (K : PySem.W.Frag) (D : Addr) : Bool := eqO (PySem.W.findIn K (.ref D) "__getattribute__") (some (some (.builtin "BaseException.__getattribute__"))) && (eqO (PySem.W.findIn K (.ref D) "__getattr__") (some none) && (decide (PySem.W.subIn K (.ref D) (.type "BaseException") = some true) &&
  (PySem.W.hasDictIn K D && (eqO (PySem.W.findIn K (.ref D) "__class__") (some (some (.builtin "object.__class__"))) && (eqO (PySem.W.specialIn K (.builtin "object.__class__") "__get__") (some (some (.builtin "getset_descriptor.__get__"))) &&
  (decide (PySem.W.takesIn K (.builtin "object.__class__") = some true) && decide (PySem.W.mroIn K D (.type "object") = some true)))))))
theorem excB_ok {K : PySem.W.Frag} {D : Addr} (h : excB K D = true) : ExcC K D := by
  obtain ⟨h1, h⟩ := ba h
  obtain ⟨h2, h⟩ := ba h
  obtain ⟨h3, h⟩ := ba h
  obtain ⟨h4, h⟩ := ba h
  obtain ⟨h5, h⟩ := ba h
  obtain ⟨h6, h⟩ := ba h
  obtain ⟨h7, h8⟩ := ba h
  exact ⟨eqO_ok h1, eqO_ok h2, of_decide_eq_true h3, h4, eqO_ok h5, eqO_ok h6, of_decide_eq_true h7, of_decide_eq_true h8⟩
def basB (K : PySem.W.Frag) (C : Addr) : Bool := PySem.W.readsIn K C (.type "type") && (eqO (PySem.W.specialIn K (.ref C) "__getattribute__") (some (some (.builtin "type.__getattribute__"))) && (match PySem.W.findCls K (.ref C) (.type "type") "__init__" with
  | some (.val (.builtin n)) => decide (n = "ValueError.__init__")
  | _ => false))
theorem basB_ok {K : PySem.W.Frag} {C : Addr} (h : basB K C = true) : BaseI K C := by
  obtain ⟨h1, h⟩ := ba h
  obtain ⟨h2, h3⟩ := ba h
  refine ⟨h1, eqO_ok h2, ?_⟩
  split at h3
  · rename_i n q
    rw [q, of_decide_eq_true h3]
  · cases h3
/-! ### the whole look -/
def facB (K : PySem.W.Frag) (l : Lay) : Bool :=
  (l.tb.fns.all fun q => decide (ga K q.2 = fAd K (l.ft q.1)) && (Fa.glo q.2).ok K) && (
  (l.tb.clss.all fun c => (Fa.cls (l.cn c)).ok K) && (
  (l.tb.mks.all fun q => decide (l.cn q.1 = q.2.2) && ((Fa.glo q.2.2).ok K && ((Fa.mkr q.2.2).ok K && decide (fAd K (l.ft q.2.1) = ma K (ga K q.2.2) "__init__")))) && (
  (l.tb.meths.all fun q => (Fa.meth (l.cn q.1) q.2.1).ok K && decide (fAd K (l.ft q.2.2) = ma K (ga K (l.cn q.1)) q.2.1)) && (
  (l.tb.frees.all fun x => (Fa.free x).ok K) && (
  (l.tb.intz.all fun q => (Fa.int q.1 q.2).ok K) && (
  (l.tb.strz.all fun q => (Fa.str q.1 q.2).ok K) && (
  (l.tb.cons.all fun q => (Fa.glo q.1).ok K && (match l.cq.lookup q.2 with
    | some p => decide (p.1 = q.1)
    | none => false)) && (
  (l.tb.excs.all fun q => decide (l.cn q.1 = q.2.1) && ((Fa.glo q.2.1).ok K && (oexB K (ga K q.2.1) && (eqO (PySem.W.findIn K (.ref (ga K q.2.1)) "__init__") (some (some (.ref (fAd K (l.ft q.2.2.1))))) && (decide (PySem.W.typeIn K (.ref (fAd K (l.ft q.2.2.1))) = some (.type "function")) &&
    q.2.2.2.all fun f => eqO (PySem.W.findIn K (.ref (ga K q.2.1)) f) (some none)))))) && (
  (l.tb.trs.all fun q => decide (l.cn q.1 = q.2) && (Fa.glo q.2).ok K) && (
  (l.tb.exis.all fun c => excB K (ga K (l.cn c)) && decide (PySem.W.kitOne K (.ref (ga K (l.cn c))) (.type "ValueError") = some true)) && (
  (l.tb.xfs.all fun q => xfB K (ga K (l.cn q.1)) && eqO (PySem.W.findIn K (.ref (ga K (l.cn q.1))) q.2) (some none)) && (
  (l.tb.bass.all fun q => decide (l.cn q.1 = q.2) && ((Fa.glo q.2).ok K && basB K (ga K q.2))) && (
  (l.cq.all fun p => valB K p.2.2 (.ref (ga K p.2.1))) && (
  (l.nas.all fun q => (Fa.cls (l.cn q.1)).ok K && (Fa.noat (l.cn q.1) q.2).ok K) && (
  (l.exl.all fun q => (Fa.exm (l.cn q.1.1) (l.cn q.1.2) q.2).ok K) && (
  (l.dd.all fun p => decide (p.2.at_ = l.ft p.1)) && (
  (l.tb.ids.all fun i => (l.dd.lookup i).isSome) && Fa.ok K (.glo "law"))))))))))))))))))
def obsV (l : Lay) (K : PySem.W.Frag) : AlD := (facB K l && l.dd.all fun p => p.2.ok K, l.dd.map fun p => fnW K p.2.at_)
def valV (l : Lay) : AlD := (true, l.dd.map fun p => p.2.val)
def SaysV (l : Lay) (K : PySem.W.Frag) : Prop := obsV l K = valV l
/-- what the module's names reach, and the table of the interpreter's own statics -/
def asV (g : Addr → Option Obj) (n : Nat) : List Addr := asD g n ++ [cStatics]
def obsVG (n : Nat) (l : Lay) (g : Addr → Option Obj) : AlD := obsV l (frG g (asV g n))
def hookV (n : Nat) (l : Lay) : PySem.W.Hook where
  α := AlD
  obs := fun s => obsVG n l s.heap.get?
  val := fun _ => valV l
  says := fun _ h => ∃ K : PySem.W.Frag, K.In h ∧ SaysV l K
  of := fun _ _ e => ⟨_, frG_in, e⟩
  keeps := fun _ _ _ ⟨K, hK, c⟩ k => ⟨K, PySem.W.Frag.In.keeps hK k, c⟩
theorem obsVG_eq {n : Nat} {l : Lay} {g : Addr → Option Obj} {s : Shared} (h : ∀ a, g a = s.heap.get? a) : obsVG n l g = (hookV n l).obs s := by
  have e : g = s.heap.get? := funext h
  rw [e] <;> rfl
section
variable {l : Lay} {K : PySem.W.Frag}
theorem SaysV.fac (c : SaysV l K) : facB K l = true := (ba (show (facB K l && l.dd.all fun p => p.2.ok K) = true from congrArg (fun z : AlD => z.1) c)).1
theorem mem_of_lookup {α : Type} {i : Nat} {d : α} : ∀ {l : List (Nat × α)}, l.lookup i = some d → (i, d) ∈ l
  | [], h => by cases h
  | (j, e) :: r, h => by
    rw [List.lookup_cons] at h
    split at h
    · rename_i q
      have q : i = j := by simpa using q
      cases h
      rw [q]
      exact List.mem_cons_self
    · exact List.mem_cons_of_mem _ (mem_of_lookup h)
theorem SaysV.def_ (c : SaysV l K) {i : Nat} {d : DefD} (h : l.dd.lookup i = some d) : ∃ fd, FunD K d.name d.qual d.params d.body d.scope (d.dvs K) (d.kws K) (fAd K (l.ft i)) fd := by
  have c2 := (ba (show (facB K l && l.dd.all fun p => p.2.ok K) = true from congrArg (fun z : AlD => z.1) c)).2
  have hm := mem_of_lookup h
  have e : l.dd.map (fun p => fnW K p.2.at_) = l.dd.map fun p => p.2.val := congrArg (fun z : AlD => z.2) c
  have e2 : fnW K d.at_ = d.val := by
    obtain ⟨k, hk, ek⟩ := List.getElem_of_mem hm
    have e3 : (l.dd.map fun p => fnW K p.2.at_)[k]? = (l.dd.map fun p => p.2.val)[k]? := by rw [e]
    rw [List.getElem?_map, List.getElem?_map, List.getElem?_eq_getElem hk, ek] at e3
    exact Option.some.inj e3
  have e4 : d.at_ = l.ft i := by
    have f := c.fac
    unfold facB at f
    obtain ⟨_, f⟩ := ba f
    obtain ⟨_, f⟩ := ba f
    obtain ⟨_, f⟩ := ba f
    obtain ⟨_, f⟩ := ba f
    obtain ⟨_, f⟩ := ba f
    obtain ⟨_, f⟩ := ba f
    obtain ⟨_, f⟩ := ba f
    obtain ⟨_, f⟩ := ba f
    obtain ⟨_, f⟩ := ba f
    obtain ⟨_, f⟩ := ba f
    obtain ⟨_, f⟩ := ba f
    obtain ⟨_, f⟩ := ba f
    obtain ⟨_, f⟩ := ba f
    obtain ⟨_, f⟩ := ba f
    obtain ⟨_, f⟩ := ba f
    obtain ⟨_, f⟩ := ba f
    obtain ⟨f, _⟩ := ba f
    exact of_decide_eq_true (List.all_eq_true.mp f _ hm)
  rw [← e4]
  exact DefD.funD e2 (List.all_eq_true.mp c2 _ hm)
theorem SaysV.law (c : SaysV l K) : (Fa.glo "law").ok K = true := by
  have f := c.fac
  unfold facB at f
  obtain ⟨_, f⟩ := ba f
  obtain ⟨_, f⟩ := ba f
  obtain ⟨_, f⟩ := ba f
  obtain ⟨_, f⟩ := ba f
  obtain ⟨_, f⟩ := ba f
  obtain ⟨_, f⟩ := ba f
  obtain ⟨_, f⟩ := ba f
  obtain ⟨_, f⟩ := ba f
  obtain ⟨_, f⟩ := ba f
  obtain ⟨_, f⟩ := ba f
  obtain ⟨_, f⟩ := ba f
  obtain ⟨_, f⟩ := ba f
  obtain ⟨_, f⟩ := ba f
  obtain ⟨_, f⟩ := ba f
  obtain ⟨_, f⟩ := ba f
  obtain ⟨_, f⟩ := ba f
  obtain ⟨_, f⟩ := ba f
  obtain ⟨_, f⟩ := ba f
  exact f
/-- the defs' function objects -/
theorem SaysV.defs (c : SaysV l K) : ∃ FD : Nat → FuncData, ∀ i d, l.dd.lookup i = some d → FunD K d.name d.qual d.params d.body d.scope (d.dvs K) (d.kws K) (fAd K (l.ft i)) (FD i) := by
  have h : ∀ i, ∃ fd : FuncData, ∀ d, l.dd.lookup i = some d → FunD K d.name d.qual d.params d.body d.scope (d.dvs K) (d.kws K) (fAd K (l.ft i)) fd := fun i => by
    cases e : l.dd.lookup i with
    | none => exact ⟨PySem.W.fnOf "" "" (defArgs (.Pass ⟨0, 0, 0, 0⟩)) [] (defScope (.Pass ⟨0, 0, 0, 0⟩)) .none .none .none .none none .none .none, fun d h => by cases h⟩
    | some d =>
      obtain ⟨fd, F⟩ := c.def_ e
      exact ⟨fd, fun d' h => by cases h; exact F⟩
  exact ⟨fun i => (h i).choose, fun i => (h i).choose_spec⟩
theorem get_all {α : Type} {f : α → Bool} {xs : List α} (h : xs.all f = true) {i : Nat} {q : α} (e : xs[i]? = some q) : f q = true := List.all_eq_true.mp h q (List.mem_of_getElem? e)
theorem con_all {f : Nat → Bool} {xs : List Nat} (h : xs.all f = true) {i : Nat} (e : xs.contains i = true) : f i = true := List.all_eq_true.mp h i (by simpa using e)
theorem fac_of {h : Heap} {mg : Str → Option Value} (X : K.In h) (G : h.Ns mainGlobals mg) (c : SaysV l K) {FD : Nat → FuncData} {ps : Nat → List Str} (FF : ∀ i d, l.dd.lookup i = some d → FunD K d.name d.qual d.params d.body d.scope (d.dvs K) (d.kws K) (fAd K (l.ft i)) (FD i))
    (hb : ∀ i, l.tb.ids.contains i = true ∨ l.tb.xis.contains i = true → Binds K (FD i) (ps i) []) : Fac K mg (l.g K) FD ps (cvOf K l.cq) l.tb := by
  have f := c.fac
  unfold facB at f
  obtain ⟨f1, f⟩ := ba f
  obtain ⟨f2, f⟩ := ba f
  obtain ⟨f3, f⟩ := ba f
  obtain ⟨f4, f⟩ := ba f
  obtain ⟨f5, f⟩ := ba f
  obtain ⟨f6, f⟩ := ba f
  obtain ⟨f7, f⟩ := ba f
  obtain ⟨f8, f⟩ := ba f
  obtain ⟨f9, f⟩ := ba f
  obtain ⟨f10, f⟩ := ba f
  obtain ⟨f11, f⟩ := ba f
  obtain ⟨f12, f⟩ := ba f
  obtain ⟨f13, f⟩ := ba f
  obtain ⟨f14, f⟩ := ba f
  obtain ⟨f15, f⟩ := ba f
  obtain ⟨f16, f⟩ := ba f
  obtain ⟨f17, f⟩ := ba f
  obtain ⟨f18, f⟩ := ba f
  constructor
  · intro i q e
    obtain ⟨a, b⟩ := ba (get_all f1 e)
    show mg q.2 = some (.ref (fAd K (l.ft q.1)))
    rw [← of_decide_eq_true a]
    exact glo_ok X G b
  · intro i e
    have z := con_all f18 e
    obtain ⟨d, hd⟩ := Option.isSome_iff_exists.mp z
    exact (FF i d hd).kp
  · exact hb
  · intro i q e
    obtain ⟨a, b⟩ := ba (get_all f13 e)
    obtain ⟨b, d⟩ := ba b
    show BaseI K (ga K (l.cn q.1)) ∧ mg q.2 = some (.ref (ga K (l.cn q.1)))
    rw [of_decide_eq_true a]
    exact ⟨basB_ok d, glo_ok X G b⟩
  · intro i e
    exact cls_ok (con_all f2 e)
  · intro i q e
    obtain ⟨a, b⟩ := ba (get_all f3 e)
    obtain ⟨b, d⟩ := ba b
    obtain ⟨d, d2⟩ := ba d
    show Mk K (ga K (l.cn q.1)) (fAd K (l.ft q.2.1)) ∧ mg q.2.2 = some (.ref (ga K (l.cn q.1)))
    rw [of_decide_eq_true a, of_decide_eq_true d2]
    exact ⟨mkr_ok d, glo_ok X G b⟩
  · intro i q e
    obtain ⟨a, b⟩ := ba (get_all f4 e)
    show Meth K (ga K (l.cn q.1)) q.2.1 (fAd K (l.ft q.2.2))
    rw [of_decide_eq_true b]
    exact meth_ok a
  · intro i x e
    exact free_ok X G (get_all f5 e)
  · intro i q e
    exact int_ok X G (get_all f6 e)
  · intro i q e
    exact str_ok X G (get_all f7 e)
  · intro i q e
    obtain ⟨a, b⟩ := ba (get_all f8 e)
    refine ⟨.ref (ga K q.1), glo_ok X G a, ?_⟩
    unfold cvOf
    split at b
    · rename_i p hp
      have e1 : p.1 = q.1 := of_decide_eq_true b
      show RelV (.ref (ga K p.1)) _
      rw [e1]
      rfl
    · cases b
  · intro i q e
    obtain ⟨a, b⟩ := ba (get_all f9 e)
    obtain ⟨b, d⟩ := ba b
    obtain ⟨d, d2⟩ := ba d
    obtain ⟨d2, d3⟩ := ba d2
    obtain ⟨d3, d4⟩ := ba d3
    show OexC K (ga K (l.cn q.1)) ∧ PySem.W.findIn K (.ref (ga K (l.cn q.1))) "__init__" = some (some (.ref (fAd K (l.ft q.2.2.1)))) ∧ _ ∧ mg q.2.1 = some (.ref (ga K (l.cn q.1)))
    rw [of_decide_eq_true a]
    exact ⟨oexB_ok d, eqO_ok d2, of_decide_eq_true d3, glo_ok X G b⟩
  · intro i q e
    obtain ⟨a, b⟩ := ba (get_all f10 e)
    show mg q.2 = some (.ref (ga K (l.cn q.1)))
    rw [of_decide_eq_true a]
    exact glo_ok X G b
  · intro i e
    obtain ⟨a, b⟩ := ba (con_all f11 e)
    exact ⟨excB_ok a, of_decide_eq_true b⟩
  · intro i x e
    have e : (i, x) ∈ l.tb.xfs := by simpa using e
    obtain ⟨a, b⟩ := ba (List.all_eq_true.mp f12 _ e)
    exact ⟨xfB_ok a, eqO_ok b⟩
/-- own exceptions' fields -/
theorem exc_flds (c : SaysV l K) {i : Nat} {q : Nat × Str × Nat × List Str} (e : l.tb.excs[i]? = some q) : ∀ x ∈ q.2.2.2, PySem.W.findIn K (.ref ((l.g K).C q.1)) x = some none := by
  have f := c.fac
  unfold facB at f
  obtain ⟨_, f⟩ := ba f
  obtain ⟨_, f⟩ := ba f
  obtain ⟨_, f⟩ := ba f
  obtain ⟨_, f⟩ := ba f
  obtain ⟨_, f⟩ := ba f
  obtain ⟨_, f⟩ := ba f
  obtain ⟨_, f⟩ := ba f
  obtain ⟨_, f⟩ := ba f
  obtain ⟨f9, _⟩ := ba f
  obtain ⟨a, b⟩ := ba (get_all f9 e)
  obtain ⟨b, d⟩ := ba b
  obtain ⟨d, d2⟩ := ba d
  obtain ⟨d2, d3⟩ := ba d2
  obtain ⟨d3, d4⟩ := ba d3
  intro x hx
  show PySem.W.findIn K (.ref (ga K (l.cn q.1))) x = some none
  rw [of_decide_eq_true a]
  exact eqO_ok (List.all_eq_true.mp d4 x hx)
theorem tabOk_of (c : SaysV l K) {df : Nat → Option Df} : TabOk (l.g K) ⟨df, conOf l.cq, fun c f => l.nas.contains (c, f), fun k c => l.exl.lookup (k, c)⟩ (cvOf K l.cq) := by
  have f := c.fac
  unfold facB at f
  obtain ⟨_, f⟩ := ba f
  obtain ⟨_, f⟩ := ba f
  obtain ⟨_, f⟩ := ba f
  obtain ⟨_, f⟩ := ba f
  obtain ⟨_, f⟩ := ba f
  obtain ⟨_, f⟩ := ba f
  obtain ⟨_, f⟩ := ba f
  obtain ⟨_, f⟩ := ba f
  obtain ⟨_, f⟩ := ba f
  obtain ⟨_, f⟩ := ba f
  obtain ⟨_, f⟩ := ba f
  obtain ⟨_, f⟩ := ba f
  obtain ⟨_, f⟩ := ba f
  obtain ⟨f14, f⟩ := ba f
  obtain ⟨f15, f⟩ := ba f
  obtain ⟨f16, f⟩ := ba f
  refine ⟨fun k μ n H => ?_, fun a x e => ?_, fun a b v e => ?_⟩
  · show Rl _ _ _ _ (conOf l.cq k) _
    unfold conOf cvOf
    cases e : l.cq.lookup k with
    | none =>
      show Rl _ _ _ _ .non .non
      unfold Rl
      rfl
    | some p =>
      have z := List.all_eq_true.mp f14 _ (mem_of_lookup e)
      obtain ⟨v, r1, r2⟩ := valB_ok (g := l.g K) p.2 (.ref (ga K p.1)) z
      have r3 := r2 μ n H
      show Rl _ _ _ _ p.2 (.ref (ga K p.1))
      have : v = .ref (ga K p.1) := by
        cases v with
        | ref b => cases r1; rfl
        | int i => obtain ⟨t, q⟩ := r1; cases q
        | str i => obtain ⟨t, q⟩ := r1; cases q
        | byt i => obtain ⟨t, q⟩ := r1; cases q
        | flt i => obtain ⟨t, q⟩ := r1; cases q
        | non => cases r1
        | bl b => cases r1
        | ty b => cases r1
      rw [← this]
      exact r3
  · have e : (a, x) ∈ l.nas := by simpa using e
    obtain ⟨z1, z2⟩ := ba (List.all_eq_true.mp f15 _ e)
    exact ⟨cls_ok z1, noat_ok z2⟩
  · have e : ((a, b), v) ∈ l.exl := by
      have e : List.lookup (a, b) l.exl = some v := e
      clear f f14 f15 f16 c
      revert e
      generalize l.exl = xs
      intro e
      induction xs with
      | nil => cases e
      | cons p r ih =>
        rw [List.lookup_cons] at e
        split at e
        · rename_i q
          have q : (a, b) = p.1 := by simpa using q
          have e : p.2 = v := Option.some.inj e
          rw [q, ← e]
          exact List.mem_cons_self
        · exact List.mem_cons_of_mem _ (ih e)
    exact exm_ok (List.all_eq_true.mp f16 _ e)
end
/-- a law's end: its own exceptions stay inside -/
theorem walk_ofX {l : PySem.W.OpenLaw} {n k : Nat} {q : Program} {loose : List Str} {XP : (Str → Option Value) → Heap → Prop} {YP : World → Heap → Prop} {d : DefRec} {x : Str}
    (hn : l.most = some n) (hn2 : n ≤ sizeLine) (hdf : d.params.defaults = []) (hr : Room k callerA)
    (F : ∀ (w : World) (mg : Str → Option Value) (fa : Addr) (h : Heap), YP w h → h.Ns mainGlobals mg → mg d.name = some (.ref fa) →
      ∃ (K : PySem.W.Frag) (fd : FuncData) (sp : Sp), K.In h ∧ (∀ (s : Shared) (u : Value), BindsTo s fd ⟨[u], []⟩ [(x, u)]) ∧
        (∀ (H : Hp) (a : Addr) (ns : List Int), ns.length ≤ n → Only H → SqL K H a (ns.map V.int) → sp [.ref a] H (fun v _ => v = .bl true) fun _ _ _ => False) ∧
        ∀ base : Heap, K.In base → base.Ns mainGlobals mg → FnOk l.prog w K mg base (L2.CX l.prog w) k fa fd [x] sp) :
    PySem.W.WalkO q loose XP YP l.row.toRowW d [] (fun f vs => PySem.call f vs) := by
  refine Att.attach_call hn hdf fun w s₀ s₁ mg mb fa o pm cd doc a vs ns G Y ho hd hcd hmg hobj hints hlen hg => ?_
  obtain ⟨K, fd, sp, KX, hb, hsp, hF⟩ := F w mg fa _ Y G.T.g hmg
  exact law_call KX G.T.g G.T.b G.T.builtins G.T.nolimit hg hobj hints (Nat.le_trans hlen hn2) hr hF hb (fun H hO hS => hsp H a ns hlen hO hS) fun H e s' h => noCX h
theorem all_nil {α : Type} {Φ : α → Prop} : ∀ x ∈ ([] : List α), Φ x := fun x h => by cases h
theorem all_cons {α : Type} {Φ : α → Prop} {a : α} {l : List α} (h : Φ a) (t : ∀ x ∈ l, Φ x) : ∀ x ∈ a :: l, Φ x := fun x hx => by
  rcases List.mem_cons.mp hx with rfl | hx
  · exact h
  · exact t x hx
theorem of_contains {l : List Nat} {Φ : Nat → Prop} (h : ∀ x ∈ l, Φ x) : ∀ i, l.contains i = true → Φ i := fun i e => h i (by simpa using e)
theorem get_cons {α : Type} {Φ : α → Prop} {l : List α} (h : ∀ x ∈ l, Φ x) : ∀ (i : Nat) (q : α), l[i]? = some q → Φ q := fun i q e => h q (List.mem_of_getElem? e)
end VI

set_option Elab.async false
set_option linter.all false
set_option maxRecDepth 100000
/-! printed by geneq2.py: the equations for simp. -/
namespace VI
open PySem L2
/-- a cell, out of simp's hands -/
def at_ (S : Store) (l : Nat) : Option Cell := S[l]?
/-- what simp shall not enter -/
def Dum {α : Type} (_ : α) : Type := Unit
def dum {α : Type} {f : α} : Dum f := ()
def R.bindK {α β : Type} (r : R α) (f : α → Store → R β) (_ : Dum f := dum) : R β := r.bind f
def R.toK {α : Type} (r : R α) (env : Env) (f : α → Store → RS) (_ : Dum f := dum) : RS := r.toS env f
def RS.seqK (r : RS) (k : Env → Store → RS) (_ : Dum k := dum) : RS := r.seq k
@[simp] theorem bindK_ok {α β : Type} (a : α) (S : Store) (f : α → Store → R β) (u : Dum f) : (R.ok a S).bindK f u = f a S := (rfl)
@[simp] theorem bindK_exc {α β : Type} (x : XC) (S : Store) (f : α → Store → R β) (u : Dum f) : (R.exc x S : R α).bindK f u = .exc x S := (rfl)
@[simp] theorem bindK_err {α β : Type} (f : α → Store → R β) (u : Dum f) : (R.err : R α).bindK f u = .err := (rfl)
@[simp] theorem toK_ok {α : Type} (a : α) (S : Store) (env : Env) (f : α → Store → RS) (u : Dum f) : (R.ok a S).toK env f u = f a S := (rfl)
@[simp] theorem toK_exc {α : Type} (x : XC) (S : Store) (env : Env) (f : α → Store → RS) (u : Dum f) : (R.exc x S : R α).toK env f u = .exc x env S := (rfl)
@[simp] theorem toK_err {α : Type} (env : Env) (f : α → Store → RS) (u : Dum f) : (R.err : R α).toK env f u = .err := (rfl)
@[simp] theorem seqK_nx (env : Env) (S : Store) (k : Env → Store → RS) (u : Dum k) : (RS.ok .nx env S).seqK k u = k env S := (rfl)
@[simp] theorem seqK_rt (d : D) (env : Env) (S : Store) (k : Env → Store → RS) (u : Dum k) : (RS.ok (.rt d) env S).seqK k u = .ok (.rt d) env S := (rfl)
@[simp] theorem seqK_bk (env : Env) (S : Store) (k : Env → Store → RS) (u : Dum k) : (RS.ok .bk env S).seqK k u = .ok .bk env S := (rfl)
@[simp] theorem seqK_ct (env : Env) (S : Store) (k : Env → Store → RS) (u : Dum k) : (RS.ok .ct env S).seqK k u = .ok .ct env S := (rfl)
@[simp] theorem seqK_exc (x : XC) (env : Env) (S : Store) (k : Env → Store → RS) (u : Dum k) : (RS.exc x env S).seqK k u = .exc x env S := (rfl)
@[simp] theorem seqK_err (k : Env → Store → RS) (u : Dum k) : RS.err.seqK k u = .err := (rfl)
def forS (P : Pg) (xc : Option XC) (g : G) (b : Ss) (src : Src) (env : Env) (S : Store) (_ : Dum (g, b) := dum) : RS := forLoop src (fun d env S => asgG P xc env g d S) (fun env S => exSs P xc b env S) turns 0 env S
def whS (P : Pg) (xc : Option XC) (t : T) (b : Ss) (env : Env) (S : Store) (_ : Dum (t, b) := dum) : RS := whileLoop (fun env S => evT P xc env t S) (fun env S => exSs P xc b env S) turns env S
def lcS (P : Pg) (own : List Nat) (g : G) (t : T) (e : E) (env : Env) (src : Src) (S : Store) (_ : Dum (g, t, e) := dum) : R D := if (slotsG g).all (own.contains ·) then lcLoop src (fun d env S => asgG P none env g d S) (wipeE env own) (fun env S => (evT P none env t S).noX) (fun env S => (evE P none env e S).noX) S.length turns 0 (S ++ [.lst []]) else .err
def lcIn (P : Pg) (own : List Nat) (g : G) (t : T) (e : E) (l : Nat) (env : Env) (src : Src) (S : Store) (_ : Dum (g, t, e) := dum) : R D := lcLoop src (fun d env S => asgG P none env g d S) (wipeE env own) (fun env S => (evT P none env t S).noX) (fun env S => (evE P none env e S).noX) l turns 0 S
def lc2S (P : Pg) (own : List Nat) (g : G) (t : T) (it1 : I) (own1 : List Nat) (g1 : G) (t1 : T) (e : E) (env : Env) (src : Src) (S : Store) (_ : Dum (g, t, it1, g1, t1, e) := dum) : R D := if (slotsG g).all (own.contains ·) && ((slotsG g1).all (own1.contains ·) && own1.all (own.contains ·)) then lc2Loop src (fun d env S => asgG P none env g d S) (wipeE env own) (fun env S => (evT P none env t S).noX) (fun env1 S1 => (evI P none env1 it1 S1).noX.bind fun src1 S1 => lcIn P own1 g1 t1 e S.length env1 src1 S1) S.length turns 0 (S ++ [.lst []]) else .err
def tryS (P : Pg) (hs : Hs) (r : RS) (_ : Dum hs := dum) : RS := match r with
  | .exc x env1 S1 => exHs P x hs env1 S1
  | r => r
@[simp] theorem try_ok {P : Pg} {hs : Hs} {f env S} : tryS P hs (.ok f env S) = .ok f env S := (rfl)
@[simp] theorem try_err {P : Pg} {hs : Hs} : tryS P hs .err = .err := (rfl)
@[simp] theorem try_exc {P : Pg} {hs : Hs} {x env S} : tryS P hs (.exc x env S) = exHs P x hs env S := (rfl)
@[simp] theorem s_evE_var {P : Pg} {xc env i S} : evE P xc env (.var i : VI.E) S = (optM (getV env i) S) := (rfl)
@[simp] theorem s_evE_int {P : Pg} {xc env i S} : evE P xc env (.int i : VI.E) S = (.ok (.int i) S) := (rfl)
@[simp] theorem s_evE_bl {P : Pg} {xc env b S} : evE P xc env (.bl b : VI.E) S = (.ok (.bl b) S) := (rfl)
@[simp] theorem s_evE_non {P : Pg} {xc env S} : evE P xc env (.non : VI.E) S = (.ok .non S) := (rfl)
@[simp] theorem s_evE_str {P : Pg} {xc env s S} : evE P xc env (.str s : VI.E) S = (.ok (.str s) S) := (rfl)
@[simp] theorem s_evE_gcon {P : Pg} {xc env k S} : evE P xc env (.gcon k : VI.E) S = (.ok (P.con k) S) := (rfl)
@[simp] theorem s_evE_bin {P : Pg} {xc env o a b S} : evE P xc env (.bin o a b : VI.E) S = ((evE P xc env a S).bindK fun x S => (evE P xc env b S).bindK fun y S => binOp o x y S) := (rfl)
@[simp] theorem s_evE_neg {P : Pg} {xc env a S} : evE P xc env (.neg a : VI.E) S = ((evE P xc env a S).bindK fun x S => match x with
    | .int i => .ok (.int (-i)) S
    | _ => .err) := (rfl)
@[simp] theorem s_evE_cmp {P : Pg} {xc env o a b S} : evE P xc env (.cmp o a b : VI.E) S = ((evE P xc env a S).bindK fun x S => (evE P xc env b S).bindK fun y S => (optM (cmpOp o x y S) S).bindK fun k S => .ok (.bl k) S) := (rfl)
@[simp] theorem s_evE_chain {P : Pg} {xc env o p a b c S} : evE P xc env (.chain o p a b c : VI.E) S = ((evE P xc env a S).bindK fun x S => (evE P xc env b S).bindK fun y S => (optM (cmpOp o x y S) S).bindK fun k S => if k then (evE P xc env c S).bindK fun z S => (optM (cmpOp p y z S) S).bindK fun k S => .ok (.bl k) S else .ok (.bl false) S) := (rfl)
@[simp] theorem s_evE_andE {P : Pg} {xc env a b S} : evE P xc env (.andE a b : VI.E) S = ((evE P xc env a S).bindK fun x S => match x with
    | .bl k => if k then evE P xc env b S else .ok (.bl false) S
    | _ => .err) := (rfl)
@[simp] theorem s_evE_orE {P : Pg} {xc env a b S} : evE P xc env (.orE a b : VI.E) S = ((evE P xc env a S).bindK fun x S => match x with
    | .bl k => if k then .ok (.bl true) S else evE P xc env b S
    | _ => .err) := (rfl)
@[simp] theorem s_evE_notE {P : Pg} {xc env a S} : evE P xc env (.notE a : VI.E) S = ((evE P xc env a S).bindK fun x S => (optM (truD x S) S).bindK fun k S => .ok (.bl (!k)) S) := (rfl)
@[simp] theorem s_evE_ife {P : Pg} {xc env t a b S} : evE P xc env (.ife t a b : VI.E) S = ((evT P xc env t S).bindK fun k S => if k then evE P xc env a S else evE P xc env b S) := (rfl)
@[simp] theorem s_evE_idx {P : Pg} {xc env a b S} : evE P xc env (.idx a b : VI.E) S = ((evE P xc env a S).bindK fun x S => (evE P xc env b S).bindK fun y S => optM (idxOp x y S) S) := (rfl)
@[simp] theorem s_evE_sl {P : Pg} {xc env a lo hi S} : evE P xc env (.sl a lo hi : VI.E) S = ((evE P xc env a S).bindK fun x S => (evO P xc env lo S).bindK fun l S => (evO P xc env hi S).bindK fun h S => slOp x l h S) := (rfl)
@[simp] theorem s_evE_rev {P : Pg} {xc env a S} : evE P xc env (.rev a : VI.E) S = ((evE P xc env a S).bindK fun x S => revOp x S) := (rfl)
@[simp] theorem s_evE_tup {P : Pg} {xc env es S} : evE P xc env (.tup es : VI.E) S = ((evEs P xc env es S).bindK fun ds S => if ds.length ≤ LIM then .ok (.tup ds) S else .err) := (rfl)
@[simp] theorem s_evE_lst {P : Pg} {xc env es S} : evE P xc env (.lst es : VI.E) S = ((evEs P xc env es S).bindK fun ds S => if ds.length ≤ LIM then .ok (.ref S.length) (S ++ [.lst ds]) else .err) := (rfl)
@[simp] theorem s_evE_fld {P : Pg} {xc env a f S} : evE P xc env (.fld a f : VI.E) S = ((evE P xc env a S).bindK fun x S => optM (getFld x f S) S) := (rfl)
@[simp] theorem s_evE_call {P : Pg} {xc env f es S} : evE P xc env (.call f es : VI.E) S = ((evEs P xc env es S).bindK fun ds S => P.call f ds S) := (rfl)
@[simp] theorem s_evE_meth {P : Pg} {xc env m cs a es S} : evE P xc env (.meth m cs a es : VI.E) S = ((evE P xc env a S).noX.bindK fun x S => match x with
    | .ref l => match at_ S l with
      | some (.ins c fs) => match getF m fs, cs.lookup c with
        | none, some f => (evEs P xc env es S).bindK fun ds S => P.call f (.ref l :: ds) S
        | _, _ => .err
      | _ => .err
    | _ => .err) := (rfl)
@[simp] theorem s_evE_mk {P : Pg} {xc env c f es S} : evE P xc env (.mk c f es : VI.E) S = ((evEs P xc env es S).bindK fun ds S => (P.call f (.ref S.length :: ds) (S ++ [.ins c []])).bindK fun d S1 => match d with
    | .non => .ok (.ref S.length) S1
    | _ => .err) := (rfl)
@[simp] theorem s_evE_gfn {P : Pg} {xc env f S} : evE P xc env (.gfn f : VI.E) S = (.ok (.fn f) S) := (rfl)
@[simp] theorem s_evE_callE {P : Pg} {xc env fs a es S} : evE P xc env (.callE fs a es : VI.E) S = ((evE P xc env a S).noX.bindK fun x S => match x with
    | .fn f => if fs.contains f then (evEs P xc env es S).bindK fun ds S => P.call f ds S else .err
    | _ => .err) := (rfl)
@[simp] theorem s_evE_isi {P : Pg} {xc env a t S} : evE P xc env (.isi a t : VI.E) S = ((evE P xc env a S).bindK fun x S => (optM (isiOp x t S) S).bindK fun k S => .ok (.bl k) S) := (rfl)
@[simp] theorem s_evE_blt {P : Pg} {xc env b es S} : evE P xc env (.blt b es : VI.E) S = ((evEs P xc env es S).bindK fun ds S => bltOp b ds S) := (rfl)
@[simp] theorem s_evE_bm {P : Pg} {xc env m a es S} : evE P xc env (.bm m a es : VI.E) S = ((evE P xc env a S).bindK fun x S => if isLst x S then (evEs P xc env es S).bindK fun ds S => bmOp m x ds S else .err) := (rfl)
@[simp] theorem s_evE_lrng1 {P : Pg} {xc env k a S} : evE P xc env (.lrng1 k a : VI.E) S = ((evE P xc env a S).bindK fun x S => match x with
    | .int j => lrngOp k 0 j S
    | _ => .err) := (rfl)
@[simp] theorem s_evE_lrng2 {P : Pg} {xc env k a b S} : evE P xc env (.lrng2 k a b : VI.E) S = ((evE P xc env a S).bindK fun x S => (evE P xc env b S).bindK fun y S => match x, y with
    | .int i, .int j => lrngOp k i j S
    | _, _ => .err) := (rfl)
@[simp] theorem s_evE_kget {P : Pg} {xc env kvs a S} : evE P xc env (.kget kvs a : VI.E) S = ((evE P xc env a S).bindK fun x S => match x with
    | .str z => match getF z kvs with
      | some d => if isScal d then .ok d S else .err
      | none => .ok .non S
    | _ => .err) := (rfl)
@[simp] theorem s_evE_kidx {P : Pg} {xc env kvs a S} : evE P xc env (.kidx kvs a : VI.E) S = ((evE P xc env a S).bindK fun x S => match x with
    | .str z => match getF z kvs with
      | some d => if isScal d then .ok d S else .err
      | none => .err
    | _ => .err) := (rfl)
@[simp] theorem s_evE_kin {P : Pg} {xc env neg kvs a S} : evE P xc env (.kin neg kvs a : VI.E) S = ((evE P xc env a S).bindK fun x S => match x with
    | .str z => .ok (.bl ((getF z kvs).isSome != neg)) S
    | _ => .err) := (rfl)
@[simp] theorem s_evE_dnew {P : Pg} {xc env S} : evE P xc env (.dnew : VI.E) S = (.ok (.ref S.length) (S ++ [.dK []])) := (rfl)
@[simp] theorem s_evE_disp {P : Pg} {xc env es S} : evE P xc env (.disp es : VI.E) S = ((evEs P xc env es (S ++ [.dK []])).bindK fun ds S1 => dispOp S.length ds S1) := (rfl)
@[simp] theorem s_evE_dget1 {P : Pg} {xc env a k S} : evE P xc env (.dget1 a k : VI.E) S = ((evE P xc env a S).bindK fun x S => if isDK x S then (evE P xc env k S).bindK fun y S => optM (dget2Op x y .non S) S else .err) := (rfl)
@[simp] theorem s_evE_dget2 {P : Pg} {xc env a k d S} : evE P xc env (.dget2 a k d : VI.E) S = ((evE P xc env a S).bindK fun x S => if isDK x S then (evE P xc env k S).bindK fun y S => (evE P xc env d S).bindK fun z S => optM (dget2Op x y z S) S else .err) := (rfl)
@[simp] theorem s_evE_srtItems {P : Pg} {xc env a S} : evE P xc env (.srtItems a : VI.E) S = ((evE P xc env a S).bindK fun x S => srtItemsOp x S) := (rfl)
@[simp] theorem s_evE_srtSet {P : Pg} {xc env a S} : evE P xc env (.srtSet a : VI.E) S = ((evE P xc env a S).bindK fun x S => srtSetOp x S) := (rfl)
@[simp] theorem s_evE_lenSet {P : Pg} {xc env a S} : evE P xc env (.lenSet a : VI.E) S = ((evE P xc env a S).bindK fun x S => lenSetOp x S) := (rfl)
@[simp] theorem s_evE_excIs {P : Pg} {xc env i b S} : evE P xc env (.excIs i b : VI.E) S = (match env[i]?, xc with
    | some .exc, some x => match (b.lookup x.c : Option Bool) with
      | some k => .ok (.bl k) S
      | none => .err
    | _, _ => .err) := (rfl)
@[simp] theorem s_evE_excFld {P : Pg} {xc env i f cs S} : evE P xc env (.excFld i f cs : VI.E) S = (match env[i]?, xc with
    | some .exc, some x => if cs.contains x.c then optM (getF f x.fs) S else .err
    | _, _ => .err) := (rfl)
@[simp] theorem s_evEs_nil {P : Pg} {xc env S} : evEs P xc env (.nil : VI.Es) S = (.ok [] S) := (rfl)
@[simp] theorem s_evEs_cons {P : Pg} {xc env e es S} : evEs P xc env (.cons e es : VI.Es) S = ((evE P xc env e S).bindK fun d S => (evEs P xc env es S).bindK fun ds S => .ok (d :: ds) S) := (rfl)
@[simp] theorem s_evO_no {P : Pg} {xc env S} : evO P xc env (.no : VI.O) S = (.ok none S) := (rfl)
@[simp] theorem s_evO_yes {P : Pg} {xc env e S} : evO P xc env (.yes e : VI.O) S = ((evE P xc env e S).bindK fun d S => match d with
    | .int i => .ok (some i) S
    | _ => .err) := (rfl)
@[simp] theorem s_evT_yes {P : Pg} {xc env S} : evT P xc env (.yes : VI.T) S = (.ok true S) := (rfl)
@[simp] theorem s_evT_val {P : Pg} {xc env e S} : evT P xc env (.val e : VI.T) S = ((evE P xc env e S).bindK fun d S => match d with
    | .bl b => .ok b S
    | _ => .err) := (rfl)
@[simp] theorem s_evT_tru {P : Pg} {xc env e S} : evT P xc env (.tru e : VI.T) S = ((evE P xc env e S).bindK fun d S => optM (truD d S) S) := (rfl)
@[simp] theorem s_evT_and {P : Pg} {xc env a b S} : evT P xc env (.and a b : VI.T) S = ((evT P xc env a S).bindK fun k S => if k then evT P xc env b S else .ok false S) := (rfl)
@[simp] theorem s_evT_or {P : Pg} {xc env a b S} : evT P xc env (.or a b : VI.T) S = ((evT P xc env a S).bindK fun k S => if k then .ok true S else evT P xc env b S) := (rfl)
@[simp] theorem s_evT_not {P : Pg} {xc env a S} : evT P xc env (.not a : VI.T) S = ((evT P xc env a S).bindK fun k S => .ok (!k) S) := (rfl)
@[simp] theorem s_evI_seq {P : Pg} {xc env e S} : evI P xc env (.seq e : VI.I) S = ((evE P xc env e S).bindK fun x S => optM (seqSrc x S) S) := (rfl)
@[simp] theorem s_evI_rng1 {P : Pg} {xc env e S} : evI P xc env (.rng1 e : VI.I) S = ((evE P xc env e S).bindK fun x S => optM (rngOp [x]) S) := (rfl)
@[simp] theorem s_evI_rng2 {P : Pg} {xc env a b S} : evI P xc env (.rng2 a b : VI.I) S = ((evE P xc env a S).bindK fun x S => (evE P xc env b S).bindK fun y S => optM (rngOp [x, y]) S) := (rfl)
@[simp] theorem s_evI_enum {P : Pg} {xc env e S} : evI P xc env (.enum e : VI.I) S = ((evE P xc env e S).bindK fun x S => match x with
    | .ref l => match getL S l with
      | some _ => .ok (.enumL l) S
      | none => .err
    | .tup ds => .ok (.fixB (enumD 0 ds)) S
    | _ => .err) := (rfl)
@[simp] theorem s_evI_zip {P : Pg} {xc env a b S} : evI P xc env (.zip a b : VI.I) S = ((evE P xc env a S).bindK fun x S => (evE P xc env b S).bindK fun y S => match x, y with
    | .ref l, .ref m => match getL S l, getL S m with
      | some _, some _ => .ok (.zipL l m) S
      | _, _ => .err
    | .tup ds, .tup es => .ok (.fix (List.zipWith (fun d e => .tup [d, e]) ds es)) S
    | .str z, .tup es => .ok (.fixB (List.zipWith (fun c e => .tup [.str ⟨#[c]⟩, e]) z.cps.toList es)) S
    | _, _ => .err) := (rfl)
@[simp] theorem s_evI_revr {P : Pg} {xc env es S} : evI P xc env (.revr es : VI.I) S = (.err) := (rfl)
@[simp] theorem s_asgG_name {P : Pg} {xc env i d S} : asgG P xc env (.name i : VI.G) d S = (.ok (env.set i (.val d)) S) := (rfl)
@[simp] theorem s_asgG_tup {P : Pg} {xc env n gs d S} : asgG P xc env (.tup n gs : VI.G) d S = (match d with
    | .tup ds => if ds.length = n then asgGs P xc env gs ds S else .err
    | _ => .err) := (rfl)
@[simp] theorem s_asgG_sub {P : Pg} {xc env a i d S} : asgG P xc env (.sub a i : VI.G) d S = ((evE P xc env a S).noX.bindK fun x S => (evE P xc env i S).noX.bindK fun y S => match setIdx x y d S with
    | some S' => .ok env S'
    | none => .err) := (rfl)
@[simp] theorem s_asgGs_nil {P : Pg} {xc env ds S} : asgGs P xc env (.nil : VI.Gs) ds S = (match ds with
    | [] => .ok env S
    | _ => .err) := (rfl)
@[simp] theorem s_asgGs_cons {P : Pg} {xc env g gs ds S} : asgGs P xc env (.cons g gs : VI.Gs) ds S = (match ds with
    | [] => .err
    | d :: ds => (asgG P xc env g d S).bindK fun env S => asgGs P xc env gs ds S) := (rfl)
@[simp] theorem s_exS_asg {P : Pg} {xc g e env S} : exS P xc (.asg g e : VI.S) env S = ((evE P xc env e S).toK env fun d S => (asgG P xc env g d S).toK env fun env S => .ok .nx env S) := (rfl)
@[simp] theorem s_exS_asgI {P : Pg} {xc a i e env S} : exS P xc (.asgI a i e : VI.S) env S = ((evE P xc env e S).toK env fun d S => (evE P xc env a S).noX.toK env fun x S => (evE P xc env i S).noX.toK env fun y S => match setIdxD x y d S with
    | some S' => .ok .nx env S'
    | none => .err) := (rfl)
@[simp] theorem s_exS_asgF {P : Pg} {xc a f e env S} : exS P xc (.asgF a f e : VI.S) env S = ((evE P xc env e S).toK env fun d S => (evE P xc env a S).toK env fun x S => match setFld P.na x d f S with
    | some S' => .ok .nx env S'
    | none => .err) := (rfl)
@[simp] theorem s_exS_par {P : Pg} {xc i j es env S} : exS P xc (.par i j es : VI.S) env S = ((evEs P xc env es S).toK env fun ds S => match ds with
    | [v, w] => .ok .nx ((env.set i (.val v)).set j (.val w)) S
    | _ => .err) := (rfl)
@[simp] theorem s_exS_par3 {P : Pg} {xc i j k es env S} : exS P xc (.par3 i j k es : VI.S) env S = ((evEs P xc env es S).toK env fun ds S => match ds with
    | [v, w, u] => .ok .nx (((env.set i (.val v)).set j (.val w)).set k (.val u)) S
    | _ => .err) := (rfl)
@[simp] theorem s_exS_aug {P : Pg} {xc i o e env S} : exS P xc (.aug i o e : VI.S) env S = (match getV env i with
    | some x => (evE P xc env e S).toK env fun y S => (augOp o x y S).toK env fun z S => .ok .nx (env.set i (.val z)) S
    | none => .err) := (rfl)
@[simp] theorem s_exS_augF {P : Pg} {xc a f o e env S} : exS P xc (.augF a f o e : VI.S) env S = ((evE P xc env a S).toK env fun x S => let c := clsAt x S; match getFld x f S with
    | some v => (evE P xc env e S).toK env fun y S => (augOp o v y S).toK env fun z S' => if clsAt x S' = c then (match setFld P.na x z f S' with
      | some S' => .ok .nx env S'
      | none => .err) else .err
    | none => .err) := (rfl)
@[simp] theorem s_exS_augI {P : Pg} {xc a i o e env S} : exS P xc (.augI a i o e : VI.S) env S = ((evE P xc env a S).toK env fun x S => (evE P xc env i S).toK env fun k S => match getLI x k S with
    | some v => (evE P xc env e S).toK env fun y S => (augOp o v y S).toK env fun z S => match setIdx x k z S with
      | some S' => .ok .nx env S'
      | none => .err
    | none => .err) := (rfl)
@[simp] theorem s_exS_ife {P : Pg} {xc t a b env S} : exS P xc (.ife t a b : VI.S) env S = ((evT P xc env t S).toK env fun k S => if k then exSs P xc a env S else exSs P xc b env S) := (rfl)
@[simp] theorem s_exS_ret {P : Pg} {xc e env S} : exS P xc (.ret e : VI.S) env S = ((evE P xc env e S).toK env fun d S => .ok (.rt d) env S) := (rfl)
@[simp] theorem s_exS_retN {P : Pg} {xc env S} : exS P xc (.retN : VI.S) env S = (.ok (.rt .non) env S) := (rfl)
@[simp] theorem s_exS_drop {P : Pg} {xc e env S} : exS P xc (.drop e : VI.S) env S = ((evE P xc env e S).toK env fun _ S => .ok .nx env S) := (rfl)
@[simp] theorem s_exS_pass {P : Pg} {xc env S} : exS P xc (.pass : VI.S) env S = (.ok .nx env S) := (rfl)
@[simp] theorem s_exS_brk {P : Pg} {xc env S} : exS P xc (.brk : VI.S) env S = (.ok .bk env S) := (rfl)
@[simp] theorem s_exS_cont {P : Pg} {xc env S} : exS P xc (.cont : VI.S) env S = (.ok .ct env S) := (rfl)
@[simp] theorem s_exS_raise {P : Pg} {xc c k es env S} : exS P xc (.raise c k es : VI.S) env S = ((evEs P xc env es S).toK env fun ds S => match k with
    | .init fs => if ds.length = fs.length then .exc ⟨c, (fs.zip ds).reverse⟩ env S else .err
    | .bare => if ds.length ≤ LIM then .exc ⟨c, []⟩ env S else .err) := (rfl)
@[simp] theorem s_exSs_nil {P : Pg} {xc env S} : exSs P xc (.nil : VI.Ss) env S = (.ok .nx env S) := (rfl)
@[simp] theorem s_exSs_cons {P : Pg} {xc s ss env S} : exSs P xc (.cons s ss : VI.Ss) env S = ((exS P xc s env S).seqK fun env S => exSs P xc ss env S) := (rfl)
@[simp] theorem s_exHs_nil {P : Pg} {x env S} : exHs P x (.nil : VI.Hs) env S = (.exc x env S) := (rfl)
@[simp] theorem s_exHs_cons {P : Pg} {x c i b hs env S} : exHs P x (.cons c i b hs : VI.Hs) env S = (match P.exm x.c c with
    | none => .err
    | some false => exHs P x hs env S
    | some true => if noExc env then (match i with
      | none => RS.outX none (exSs P (some x) b env S)
      | some i => RS.outX (some i) (exSs P (some x) b (env.set i .exc) S)) else .err) := (rfl)
@[simp] theorem s_exS_for {P : Pg} {xc it g b env S} : exS P xc (.for_ it g b : VI.S) env S = ((evI P xc env it S).toK env fun src S => forS P xc g b src env S) := (rfl)
@[simp] theorem s_exS_while {P : Pg} {xc t b env S} : exS P xc (.while_ t b : VI.S) env S = whS P xc t b env S := (rfl)
@[simp] theorem s_exS_try {P : Pg} {xc b hs env S} : exS P xc (.try_ b hs : VI.S) env S = tryS P hs (exSs P xc b env S) := (rfl)
@[simp] theorem s_evE_lc {P : Pg} {xc env it own g t e S} : evE P xc env (.lc it own g t e : VI.E) S = ((evI P xc env it S).bindK fun src S => lcS P own g t e env src S) := (rfl)
@[simp] theorem s_evE_lc2 {P : Pg} {xc env it own g t it1 own1 g1 t1 e S} : evE P xc env (.lc2 it own g t it1 own1 g1 t1 e : VI.E) S = ((evI P xc env it S).bindK fun src S => lc2S P own g t it1 own1 g1 t1 e env src S) := (rfl)
end VI

set_option Elab.async false
set_option linter.all false
set_option maxRecDepth 100000
set_option maxHeartbeats 1000000
/-! VIm: running the small trees by hand. -/
namespace VI
open PySem L2
/-! ### ends -/
def RS.wp (r : RS) (Q : Fl → Env → Store → Prop) (X : XC → Env → Store → Prop) (_ : Dum (Q, X) := dum) : Prop := match r with
  | .ok f env S => Q f env S
  | .exc x env S => X x env S
  | .err => False
@[simp] theorem wp_ok {f env S} {Q : Fl → Env → Store → Prop} {X : XC → Env → Store → Prop} : (RS.ok f env S).wp Q X = Q f env S := (rfl)
@[simp] theorem wp_exc {x env S} {Q : Fl → Env → Store → Prop} {X : XC → Env → Store → Prop} : (RS.exc x env S).wp Q X = X x env S := (rfl)
@[simp] theorem wp_err {Q : Fl → Env → Store → Prop} {X : XC → Env → Store → Prop} : RS.err.wp Q X = False := (rfl)
@[simp] theorem want_ok {α : Type} {a : α} {S : Store} {k : α → Store → Prop} {x : XC → Store → Prop} : (R.ok a S).want k x = k a S := (rfl)
@[simp] theorem want_exc {α : Type} {e : XC} {S : Store} {k : α → Store → Prop} {x : XC → Store → Prop} : (R.exc e S : R α).want k x = x e S := (rfl)
@[simp] theorem want_err {α : Type} {k : α → Store → Prop} {x : XC → Store → Prop} : (R.err : R α).want k x = False := (rfl)
theorem RS.wp_mono {r : RS} {Q Q' : Fl → Env → Store → Prop} {X X' : XC → Env → Store → Prop} (h : r.wp Q X) (hq : ∀ f env S, Q f env S → Q' f env S) (hx : ∀ x env S, X x env S → X' x env S) : r.wp Q' X' := by
  cases r with
  | ok f env S => exact hq _ _ _ h
  | exc x env S => exact hx _ _ _ h
  | err => exact h
def Fl.then_ (Q : Fl → Env → Store → Prop) (N : Env → Store → Prop) : Fl → Env → Store → Prop := fun f env S => match f with
  | .nx => N env S
  | f => Q f env S
@[simp] theorem then_nx {Q : Fl → Env → Store → Prop} {N : Env → Store → Prop} {env S} : Fl.then_ Q N .nx env S = N env S := (rfl)
@[simp] theorem then_rt {Q : Fl → Env → Store → Prop} {N : Env → Store → Prop} {d env S} : Fl.then_ Q N (.rt d) env S = Q (.rt d) env S := (rfl)
@[simp] theorem then_bk {Q : Fl → Env → Store → Prop} {N : Env → Store → Prop} {env S} : Fl.then_ Q N .bk env S = Q .bk env S := (rfl)
@[simp] theorem then_ct {Q : Fl → Env → Store → Prop} {N : Env → Store → Prop} {env S} : Fl.then_ Q N .ct env S = Q .ct env S := (rfl)
theorem wp_seq {r : RS} {k : Env → Store → RS} {u : Dum k} {Q : Fl → Env → Store → Prop} {X : XC → Env → Store → Prop} (h : r.wp (Fl.then_ Q fun env S => (k env S).wp Q X) X) : (r.seqK k u).wp Q X := by
  cases r with
  | ok f env S => cases f <;> exact h
  | exc x env S => exact h
  | err => exact h
theorem wp_toS {α : Type} {r : R α} {env : Env} {f : α → Store → RS} {u : Dum f} {Q : Fl → Env → Store → Prop} {X : XC → Env → Store → Prop} (h : r.want (fun a S => (f a S).wp Q X) fun x S => X x env S) : (r.toK env f u).wp Q X := by
  cases r with
  | ok a S => exact h
  | exc x S => exact h
  | err => exact h
theorem want_bind_i {α β : Type} {r : R α} {f : α → Store → R β} {u : Dum f} {k : β → Store → Prop} {x : XC → Store → Prop} (h : r.want (fun a S => (f a S).want k x) x) : (r.bindK f u).want k x := by
  cases r with
  | ok a S => exact h
  | exc e S => exact h
  | err => exact h
theorem wp_try {P : Pg} {hs : Hs} {r : RS} {Q : Fl → Env → Store → Prop} {X : XC → Env → Store → Prop} (h : r.wp Q fun x env S => (exHs P x hs env S).wp Q X) : (tryS P hs r).wp Q X := by
  cases r with
  | ok f env S => exact h
  | exc x env S => exact h
  | err => exact h
/-- a call: its body's end -/
def endQ (k : D → Store → Prop) : Fl → Env → Store → Prop := fun f _ S => match f with
  | .nx => k .non S
  | .rt v => k v S
  | _ => False
@[simp] theorem endQ_nx {k : D → Store → Prop} {env S} : endQ k .nx env S = k .non S := (rfl)
@[simp] theorem endQ_rt {k : D → Store → Prop} {v env S} : endQ k (.rt v) env S = k v S := (rfl)
@[simp] theorem endQ_bk {k : D → Store → Prop} {env S} : endQ k .bk env S = False := (rfl)
@[simp] theorem endQ_ct {k : D → Store → Prop} {env S} : endQ k .ct env S = False := (rfl)
theorem run_i {T : Tab} {n f : Nat} {d : Df} {ds : List D} {S : Store} {k : D → Store → Prop} {x : XC → Store → Prop} (hd : T.df f = some d) (hl : ds.length = d.k) (h : (exSs (pgAt T n) none d.body (startE d.n ds) S).wp (endQ k) fun e _ S => x e S) : (run T (n + 1) f ds S).want k x := by
  rw [run_succ, hd]
  show (runBody (pgAt T n) d ds S).want k x
  unfold runBody
  rw [if_pos hl]
  cases hx : exSs (pgAt T n) none d.body (startE d.n ds) S with
  | err => rw [hx] at h; exact h
  | exc e env S => rw [hx] at h; exact h
  | ok fl env S =>
    rw [hx] at h
    cases fl with
    | nx => exact h
    | rt v => exact h
    | bk => exact h
    | ct => exact h
theorem want_some {α : Type} {r : R α} {k : α → Store → Prop} (h : r.want k fun _ _ => False) : ∃ a S, r = .ok a S ∧ k a S := by
  cases r with
  | ok a S => exact ⟨a, S, rfl, h⟩
  | exc e S => exact h.elim
  | err => exact h.elim
theorem want_exc_some {α : Type} {r : R α} {x : XC → Store → Prop} (h : r.want (fun _ _ => False) x) : ∃ e S, r = .exc e S ∧ x e S := by
  cases r with
  | ok a S => exact h.elim
  | exc e S => exact ⟨e, S, rfl, h⟩
  | err => exact h.elim
/-! ### loops -/
section
variable {P : Pg} {xc : Option XC} {g : G} {b : Ss}
theorem turns_eq : turns = 1000000000000 := by unfold turns; rfl
theorem forLoop_wp {src : Src} {asg : D → Env → M Env} {body : Env → Store → RS} {Q : Fl → Env → Store → Prop} {X : XC → Env → Store → Prop} {ds : List D} (I : Nat → Env → Store → Prop)
    (hn : ∀ i env S, I i env S → src.next i S = some ds[i]?)
    (hs : ∀ i d env S, ds[i]? = some d → I i env S → ((asg d env S).toS env body).wp (fun f env S => match f with
      | .nx => I (i + 1) env S
      | .ct => I (i + 1) env S
      | .bk => Q .nx env S
      | .rt v => Q (.rt v) env S) X)
    (hd : ∀ env S, I ds.length env S → Q .nx env S) : ∀ (m i : Nat) (env : Env) (S : Store), i ≤ ds.length → ds.length < i + m → I i env S → (forLoop src asg body m i env S).wp Q X
  | 0, i, env, S, h1, h2, h => by omega
  | m + 1, i, env, S, h1, h2, h => by
    unfold forLoop
    rw [hn i env S h]
    cases e : ds[i]? with
    | none =>
      have : i = ds.length := by
        have := List.getElem?_eq_none_iff.mp e
        omega
      subst this
      exact hd env S h
    | some d =>
      have hlt := (List.getElem?_eq_some_iff.mp e).1
      have z := hs i d env S e h
      dsimp only
      cases ha : asg d env S with
      | err => rw [ha] at z; exact z
      | exc x S1 => rw [ha] at z; exact z
      | ok env1 S1 =>
        rw [ha] at z
        simp only [toS_ok] at z ⊢
        cases hb : body env1 S1 with
        | err => rw [hb] at z; exact z
        | exc x env2 S2 => rw [hb] at z; exact z
        | ok f env2 S2 =>
          rw [hb] at z
          cases f with
          | nx => exact forLoop_wp I hn hs hd m (i + 1) env2 S2 hlt (by omega) z
          | ct => exact forLoop_wp I hn hs hd m (i + 1) env2 S2 hlt (by omega) z
          | bk => exact z
          | rt v => exact z
/-- what a turn must give -/
def turnQ (I : Env → Store → Prop) (Q : Fl → Env → Store → Prop) : Fl → Env → Store → Prop := fun f env S => match f with
  | .nx => I env S
  | .ct => I env S
  | .bk => Q .nx env S
  | .rt v => Q (.rt v) env S
@[simp] theorem turn_nx {I : Env → Store → Prop} {Q : Fl → Env → Store → Prop} {env S} : turnQ I Q .nx env S = I env S := (rfl)
@[simp] theorem turn_ct {I : Env → Store → Prop} {Q : Fl → Env → Store → Prop} {env S} : turnQ I Q .ct env S = I env S := (rfl)
@[simp] theorem turn_bk {I : Env → Store → Prop} {Q : Fl → Env → Store → Prop} {env S} : turnQ I Q .bk env S = Q .nx env S := (rfl)
@[simp] theorem turn_rt {I : Env → Store → Prop} {Q : Fl → Env → Store → Prop} {v env S} : turnQ I Q (.rt v) env S = Q (.rt v) env S := (rfl)
theorem wp_for {ds : List D} {src : Src} {env : Env} {S : Store} {Q : Fl → Env → Store → Prop} {X : XC → Env → Store → Prop} (I : Nat → Env → Store → Prop) (hn : ∀ i env S, I i env S → src.next i S = some ds[i]?) (hl : ds.length < 1000000000000) (h0 : I 0 env S)
    (hs : ∀ i d env S, ds[i]? = some d → I i env S → ((asgG P xc env g d S).toK env fun env S => exSs P xc b env S).wp (turnQ (I (i + 1)) Q) X)
    (hd : ∀ env S, I ds.length env S → Q .nx env S) : (forS P xc g b src env S).wp Q X := by
  unfold forS
  rw [turns_eq]
  exact forLoop_wp I hn hs hd _ 0 env S (Nat.zero_le _) (by omega) h0
theorem wp_for_fix {ds : List D} {env : Env} {S : Store} {Q : Fl → Env → Store → Prop} {X : XC → Env → Store → Prop} (I : Nat → Env → Store → Prop) (hl : ds.length < 1000000000000) (h0 : I 0 env S)
    (hs : ∀ i d env S, ds[i]? = some d → I i env S → ((asgG P xc env g d S).toK env fun env S => exSs P xc b env S).wp (turnQ (I (i + 1)) Q) X)
    (hd : ∀ env S, I ds.length env S → Q .nx env S) : (forS P xc g b (.fix ds) env S).wp Q X := wp_for I (fun _ _ _ _ => rfl) hl h0 hs hd
theorem wp_for_live {ds : List D} {l : Nat} {env : Env} {S : Store} {Q : Fl → Env → Store → Prop} {X : XC → Env → Store → Prop} (I : Nat → Env → Store → Prop) (hl : ds.length < 1000000000000) (hn : ∀ i env S, I i env S → at_ S l = some (.lst ds)) (h0 : I 0 env S)
    (hs : ∀ i d env S, ds[i]? = some d → I i env S → ((asgG P xc env g d S).toK env fun env S => exSs P xc b env S).wp (turnQ (I (i + 1)) Q) X)
    (hd : ∀ env S, I ds.length env S → Q .nx env S) : (forS P xc g b (.live l) env S).wp Q X :=
  wp_for I (fun i env S h => by
    show (match getL S l with
      | some ds => some ds[i]?
      | none => none) = _
    unfold getL
    rw [show S[l]? = _ from hn i env S h]) hl h0 hs hd
theorem whileLoop_wp {test : Env → M Bool} {body : Env → Store → RS} {Q : Fl → Env → Store → Prop} {X : XC → Env → Store → Prop} (I : Nat → Env → Store → Prop)
    (hs : ∀ m env S, I m env S → ((test env S).toS env fun k S => if k then body env S else .ok .bk env S).wp (fun f env S => match f with
      | .nx => ∃ j, j < m ∧ I j env S
      | .ct => ∃ j, j < m ∧ I j env S
      | .bk => Q .nx env S
      | .rt v => Q (.rt v) env S) X) : ∀ (n m : Nat) (env : Env) (S : Store), m < n → I m env S → (whileLoop test body n env S).wp Q X
  | 0, m, env, S, h1, h => by omega
  | n + 1, m, env, S, h1, h => by
    unfold whileLoop
    have z := hs m env S h
    cases ha : test env S with
    | err => rw [ha] at z; exact z
    | exc x S1 => rw [ha] at z; exact z
    | ok k S1 =>
      rw [ha] at z
      simp only [toS_ok] at z ⊢
      cases k with
      | false => exact z
      | true =>
        rw [if_pos rfl] at z ⊢
        cases hb : body env S1 with
        | err => rw [hb] at z; exact z
        | exc x env2 S2 => rw [hb] at z; exact z
        | ok f env2 S2 =>
          rw [hb] at z
          cases f with
          | nx => obtain ⟨j, hj, z⟩ := z; exact whileLoop_wp I hs n j env2 S2 (by omega) z
          | ct => obtain ⟨j, hj, z⟩ := z; exact whileLoop_wp I hs n j env2 S2 (by omega) z
          | bk => exact z
          | rt v => exact z
theorem wp_while {t : VI.T} {env : Env} {S : Store} {Q : Fl → Env → Store → Prop} {X : XC → Env → Store → Prop} (I : Nat → Env → Store → Prop) (m : Nat) (hm : m < 1000000000000) (h0 : I m env S)
    (hs : ∀ m env S, I m env S → ((evT P xc env t S).toK env fun k S => if k then exSs P xc b env S else .ok .bk env S).wp (turnQ (fun env S => ∃ j, j < m ∧ I j env S) Q) X) : (whS P xc t b env S).wp Q X := by
  unfold whS
  rw [turns_eq]
  exact whileLoop_wp I hs _ m env S hm h0
/-- a comprehension: I i acc S, l the new list's place -/
theorem lcLoop_want {src : Src} {asg : D → Env → M Env} {wenv : Env} {test : Env → M Bool} {elt : Env → M D} {l : Nat} {k : D → Store → Prop} {x : XC → Store → Prop} {ds : List D} (I : Nat → List D → Store → Prop)
    (hn : ∀ i acc S, I i acc S → src.next i S = some ds[i]?) (hc : ∀ i acc S, I i acc S → at_ S l = some (.lst acc) ∧ acc.length < LIM)
    (hs : ∀ i d acc S, ds[i]? = some d → I i acc S → ((asg d wenv S).bind fun env1 S1 => (test env1 S1).bind fun b S2 => if b then (elt env1 S2).bind fun y S3 => .ok (some y) S3 else .ok none S2).want (fun y S3 => match y with
      | some y => ∃ acc', at_ S3 l = some (.lst acc') ∧ acc'.length < LIM ∧ I (i + 1) (acc' ++ [y]) (S3.set l (.lst (acc' ++ [y])))
      | none => I (i + 1) acc S3) x)
    (hd : ∀ acc S, I ds.length acc S → k (.ref l) S) : ∀ (m i : Nat) (acc : List D) (S : Store), i ≤ ds.length → ds.length < i + m → I i acc S → (lcLoop src asg wenv test elt l m i S).want k x
  | 0, i, acc, S, h1, h2, h => by omega
  | m + 1, i, acc, S, h1, h2, h => by
    unfold lcLoop
    rw [hn i acc S h]
    cases e : ds[i]? with
    | none =>
      have : i = ds.length := by
        have := List.getElem?_eq_none_iff.mp e
        omega
      subst this
      exact hd acc S h
    | some d =>
      have hlt := (List.getElem?_eq_some_iff.mp e).1
      have z := hs i d acc S e h
      dsimp only
      cases ha : asg d wenv S with
      | err => rw [ha] at z; exact z
      | exc x S1 => rw [ha] at z; exact z
      | ok env1 S1 =>
        rw [ha] at z
        simp only [bind_ok] at z ⊢
        cases ht : test env1 S1 with
        | err => rw [ht] at z; exact z
        | exc x S1 => rw [ht] at z; exact z
        | ok b S2 =>
          rw [ht] at z
          simp only [bind_ok] at z ⊢
          cases b with
          | false => exact lcLoop_want I hn hc hs hd m (i + 1) acc S2 hlt (by omega) z
          | true =>
            rw [if_pos rfl] at z ⊢
            cases he : elt env1 S2 with
            | err => rw [he] at z; exact z
            | exc x S1 => rw [he] at z; exact z
            | ok y S3 =>
              rw [he] at z
              obtain ⟨acc', z1, z2, z3⟩ := z
              simp only [bind_ok]
              rw [show S3[l]? = _ from z1]
              dsimp only
              rw [if_pos z2]
              exact lcLoop_want I hn hc hs hd m (i + 1) _ _ hlt (by omega) z3
end
/-! ### the store -/
section
variable {S S' S'' G : Store} {l k : Nat} {c c' : Cell} {W W' : List Nat}
theorem lt_of_at (h : at_ S l = some c) : l < S.length := (List.getElem?_eq_some_iff.mp h).1
theorem lt_of_is (h : (at_ S l).isSome = true) : l < S.length := by
  obtain ⟨c, h⟩ := Option.isSome_iff_exists.mp h
  exact lt_of_at h
theorem at_is (h : at_ S l = some c) : (at_ S l).isSome = true := by rw [h]; rfl
theorem is_of_lt (h : l < S.length) : (at_ S l).isSome = true := by unfold at_; rw [List.getElem?_eq_getElem h]; rfl
@[simp] theorem at_set_same (h : (at_ S l).isSome = true) : at_ (S.set l c) l = some c := List.getElem?_set_self (lt_of_is h)
@[simp] theorem at_set_ne (h : k ≠ l) : at_ (S.set k c) l = at_ S l := List.getElem?_set_ne h
@[simp] theorem at_app_k (h : S.length ≤ k) : at_ (S ++ G) k = G[k - S.length]? := List.getElem?_append_right h
@[simp] theorem at_app (h : (at_ S l).isSome = true) : at_ (S ++ G) l = at_ S l := List.getElem?_append_left (lt_of_is h)
@[simp] theorem set_app_k (h : S.length ≤ k) : (S ++ G).set k c = S ++ G.set (k - S.length) c := List.set_append_right _ _ h
@[simp] theorem set_app (h : (at_ S l).isSome = true) : (S ++ G).set l c = S.set l c ++ G := List.set_append_left _ _ (lt_of_is h)
theorem ne_new (h : (at_ S l).isSome = true) : l ≠ S.length + k := by have := lt_of_is h; omega
structure Keeps (W : List Nat) (S S' : Store) : Prop where
  le : S.length ≤ S'.length
  at_ : ∀ l, l < S.length → l ∉ W → VI.at_ S' l = VI.at_ S l
theorem Keeps.refl : Keeps W S S := ⟨Nat.le_refl _, fun _ _ _ => rfl⟩
theorem Keeps.trans (a : Keeps W S S') (b : Keeps W S' S'') : Keeps W S S'' := ⟨Nat.le_trans a.le b.le, fun l h w => (b.at_ l (Nat.lt_of_lt_of_le h a.le) w).trans (a.at_ l h w)⟩
theorem Keeps.mono (a : Keeps W S S') (h : ∀ l ∈ W, l ∈ W') : Keeps W' S S' := ⟨a.le, fun l hl w => a.at_ l hl fun z => w (h l z)⟩
theorem Keeps.get (a : Keeps W S S') (h : VI.at_ S l = some c) (w : l ∉ W) : VI.at_ S' l = some c := (a.at_ l (lt_of_at h) w).trans h
theorem Keeps.app (a : Keeps W S S') : Keeps W S (S' ++ G) := ⟨by simpa using Nat.le_trans a.le (Nat.le_add_right _ _), fun l h w => (List.getElem?_append_left (Nat.lt_of_lt_of_le h a.le)).trans (a.at_ l h w)⟩
theorem Keeps.set (a : Keeps W S S') (h : l ∈ W ∨ S.length ≤ l) : Keeps W S (S'.set l c) := ⟨by simpa using a.le, fun k hk w => by
  show VI.at_ (S'.set l c) k = _
  rw [at_set_ne (fun e => by subst e; rcases h with h | h; exact w h; omega)]
  exact a.at_ k hk w⟩
end
end VI

set_option Elab.async false
set_option linter.all false
set_option maxRecDepth 100000
set_option maxHeartbeats 1000000
/-! VIs: operations for simp. -/
namespace VI
open PySem L2
@[simp] theorem ofS_inj {a b : String} : (Str.ofString a = Str.ofString b) = (a = b) := by
  apply propext
  rw [Str.ofString_eq_toList, Str.ofString_eq_toList]
  constructor
  · intro h
    have h := congrArg (fun s => s.cps.toList) h
    simp at h
    have := (List.map_inj_right (f := Char.toNat) (by intro x y h; exact Char.toNat_inj.mp h)).mp h
    exact String.toList_inj.mp this
  · rintro rfl; rfl
@[simp] theorem lim_s : LIM = 16777216 := (rfl)
@[simp] theorem getV_eq {env : Env} {i : Nat} : getV env i = match env[i]? with
  | some (.val d) => some d
  | _ => none := (rfl)
section
variable {S : Store} {i j : Int} {a b : Bool} {s t : Str} {ds es : List D} {l m : Nat} {x y : D}
@[simp] theorem bin_int {o} : binOp o (.int i) (.int j) S = match opI o i j with
  | some k => .ok (.int k) S
  | none => .err := (rfl)
@[simp] theorem opI_add : opI .add i j = some (i + j) := (rfl)
@[simp] theorem opI_sub : opI .sub i j = some (i - j) := (rfl)
@[simp] theorem opI_mul : opI .mul i j = if two64 i || two64 j then some (i * j) else none := (rfl)
@[simp] theorem opI_fdiv : opI .fdiv i j = if decide (0 < j) && decide (j < 1073741824) then some (i / j) else none := (rfl)
@[simp] theorem opI_mod : opI .mod i j = if decide (0 < j) then some (i % j) else none := (rfl)
@[simp] theorem opI_pow : opI .pow i j = if powOk i j then some (i ^ j.toNat) else none := (rfl)
@[simp] theorem opI_shl : opI .shl i j = if powOk i j then some (i * 2 ^ j.toNat) else none := (rfl)
@[simp] theorem opI_shr : opI .shr i j = if decide (0 ≤ j) then some (i / 2 ^ j.toNat) else none := (rfl)
@[simp] theorem opI_and : opI .and i j = some (Builtin.bitAnd i j) := (rfl)
@[simp] theorem opI_or : opI .or i j = some (Builtin.bitOr i j) := (rfl)
@[simp] theorem opI_xor : opI .xor i j = some (Builtin.bitXor i j) := (rfl)
@[simp] theorem two64_eq : two64 i = (decide (-(2 ^ 64) < i) && decide (i < 2 ^ 64)) := by unfold two64; rfl
@[simp] theorem powOk_eq : powOk i j = (decide (0 ≤ j) && (decide (j ≤ 1000000) && decide (i.natAbs < 2 ^ 64))) := by unfold powOk; rfl
@[simp] theorem add_tup : binOp .add (.tup ds) (.tup es) S = if ds.length + es.length ≤ LIM then .ok (.tup (ds ++ es)) S else .err := (rfl)
@[simp] theorem add_str : binOp .add (.str s) (.str t) S = if s.length + t.length ≤ LIM then .ok (.str (s ++ t)) S else .err := (rfl)
@[simp] theorem add_ref : binOp .add (.ref l) (.ref m) S = match at_ S l, at_ S m with
    | some (.lst a), some (.lst b) => if a.length + b.length ≤ LIM then .ok (.ref S.length) (S ++ [.lst (a ++ b)]) else .err
    | _, _ => .err := (rfl)
/-- a list so many times -/
def repD (k : Nat) (a : List D) : List D := (List.replicate k a).flatten
@[simp] theorem repD_one {k : Nat} {x : D} : repD k [x] = List.replicate k x := by unfold repD; simp
@[simp] theorem mul_ref : binOp .mul (.ref l) (.int i) S = match at_ S l with
    | some (.lst a) => if decide (-(2 ^ 63) ≤ i) && (decide (i < 2 ^ 63) && decide (a.length * i.toNat ≤ LIM)) then .ok (.ref S.length) (S ++ [.lst (repD i.toNat a)]) else .err
    | _ => .err := (rfl)
/-! equality -/
@[simp] theorem cmp_eq : cmpOp .eq x y S = eqOp x y S := (rfl)
@[simp] theorem cmp_ne : cmpOp .ne x y S = (eqOp x y S).map (!·) := (rfl)
@[simp] theorem cmp_is : cmpOp .is x y S = isOp x y S := (rfl)
@[simp] theorem cmp_isn : cmpOp .isn x y S = (isOp x y S).map (!·) := (rfl)
@[simp] theorem cmp_inn : cmpOp .inn x y S = inOp x y S := (rfl)
@[simp] theorem cmp_nin : cmpOp .nin x y S = (inOp x y S).map (!·) := (rfl)
@[simp] theorem cmp_lt : cmpOp .lt (.int i) (.int j) S = some (decide (i < j)) := (rfl)
@[simp] theorem cmp_le : cmpOp .le (.int i) (.int j) S = some (decide (i ≤ j)) := (rfl)
@[simp] theorem cmp_gt : cmpOp .gt (.int i) (.int j) S = some (decide (j < i)) := (rfl)
@[simp] theorem cmp_ge : cmpOp .ge (.int i) (.int j) S = some (decide (j ≤ i)) := (rfl)
@[simp] theorem eq_int : eqOp (.int i) (.int j) S = some (decide (i = j)) := (rfl)
@[simp] theorem eq_bl : eqOp (.bl a) (.bl b) S = some (decide (a = b)) := (rfl)
@[simp] theorem eq_str : eqOp (.str s) (.str t) S = some (decide (s = t)) := (rfl)
@[simp] theorem eq_nn : eqOp .non .non S = some true := (rfl)
@[simp] theorem eq_ni : eqOp .non (.int i) S = some false := (rfl)
@[simp] theorem eq_in : eqOp (.int i) .non S = some false := (rfl)
@[simp] theorem eq_nb : eqOp .non (.bl a) S = some false := (rfl)
@[simp] theorem eq_bn : eqOp (.bl a) .non S = some false := (rfl)
@[simp] theorem eq_ns : eqOp .non (.str s) S = some false := (rfl)
@[simp] theorem eq_sn : eqOp (.str s) .non S = some false := (rfl)
@[simp] theorem eq_is : eqOp (.int i) (.str s) S = some false := (rfl)
@[simp] theorem eq_si : eqOp (.str s) (.int i) S = some false := (rfl)
@[simp] theorem eq_bs : eqOp (.bl a) (.str s) S = some false := (rfl)
@[simp] theorem eq_sb : eqOp (.str s) (.bl a) S = some false := (rfl)
@[simp] theorem is_non : isOp x .non S = some (isNonD x) := by cases x <;> rfl
@[simp] theorem is_bl : isOp x (.bl b) S = some (isBlD b x) := by cases x <;> rfl
@[simp] theorem is_rr : isOp (.ref l) (.ref m) S = if objAt S l && objAt S m then some (decide (l = m)) else none := (rfl)
@[simp] theorem isNonD_non : isNonD .non = true := (rfl)
@[simp] theorem isNonD_int : isNonD (.int i) = false := (rfl)
@[simp] theorem isNonD_bl : isNonD (.bl a) = false := (rfl)
@[simp] theorem isNonD_str : isNonD (.str s) = false := (rfl)
@[simp] theorem isNonD_tup : isNonD (.tup ds) = false := (rfl)
@[simp] theorem isNonD_rol : isNonD (.rol ds) = false := (rfl)
@[simp] theorem isNonD_ref : isNonD (.ref l) = false := (rfl)
@[simp] theorem isBlD_bl : isBlD b (.bl a) = decide (a = b) := (rfl)
@[simp] theorem isBlD_non : isBlD b .non = false := (rfl)
@[simp] theorem isBlD_int : isBlD b (.int i) = false := (rfl)
@[simp] theorem isBlD_str : isBlD b (.str s) = false := (rfl)
@[simp] theorem isBlD_tup : isBlD b (.tup ds) = false := (rfl)
@[simp] theorem isBlD_ref : isBlD b (.ref l) = false := (rfl)
/-! in -/
@[simp] theorem in_tup : inOp x (.tup ds) S = inAny x ds S := (rfl)
@[simp] theorem inAny_eq : inAny x ds S = match inSeq x ds with
  | some k => some k
  | none => inData x ds S := (rfl)
@[simp] theorem in_ref : inOp x (.ref l) S = match at_ S l with
    | some (.lst ds) => inAny x ds S
    | some (.dK kvs) => (match keyOf x with
      | some k => some (dGet k kvs).isSome
      | none => none)
    | _ => none := (rfl)
@[simp] theorem keyOf_int : keyOf (.int i) = some (.inl i) := (rfl)
@[simp] theorem keyOf_str : keyOf (.str s) = some (.inr s) := (rfl)
@[simp] theorem dkGet_eq {k : Key} : dkGet S l k = match at_ S l with
    | some (.dK kvs) => dGet k kvs
    | _ => none := (rfl)
@[simp] theorem inSeq_eq : inSeq x ds = if flatD x && ds.all flatD then some (ds.any fun y => eqvD y x) else none := (rfl)
@[simp] theorem flat_non : flatD .non = true := (rfl)
@[simp] theorem flat_int : flatD (.int i) = true := (rfl)
@[simp] theorem flat_bl : flatD (.bl a) = true := (rfl)
@[simp] theorem flat_str : flatD (.str s) = true := (rfl)
@[simp] theorem eqv_nn : eqvD .non .non = true := (rfl)
@[simp] theorem eqv_ii : eqvD (.int i) (.int j) = (i == j) := (rfl)
@[simp] theorem eqv_ss : eqvD (.str s) (.str t) = (s == t) := (rfl)
@[simp] theorem eqv_bb : eqvD (.bl a) (.bl b) = (a == b) := (rfl)
@[simp] theorem eqv_bi : eqvD (.bl a) (.int i) = ((if a then 1 else 0) == i) := (rfl)
@[simp] theorem eqv_ib : eqvD (.int i) (.bl a) = (i == (if a then 1 else 0)) := (rfl)
@[simp] theorem eqv_ns : eqvD .non (.str s) = false := (rfl)
@[simp] theorem eqv_sn : eqvD (.str s) .non = false := (rfl)
@[simp] theorem eqv_ni : eqvD .non (.int i) = false := (rfl)
@[simp] theorem eqv_in : eqvD (.int i) .non = false := (rfl)
@[simp] theorem eqv_si : eqvD (.str s) (.int i) = false := (rfl)
@[simp] theorem eqv_is : eqvD (.int i) (.str s) = false := (rfl)
@[simp] theorem eqv_nb : eqvD .non (.bl a) = false := (rfl)
@[simp] theorem eqv_bn : eqvD (.bl a) .non = false := (rfl)
@[simp] theorem eqv_sb : eqvD (.str s) (.bl a) = false := (rfl)
@[simp] theorem eqv_bs : eqvD (.bl a) (.str s) = false := (rfl)
/-! truth -/
@[simp] theorem tru_non : truD .non S = some false := (rfl)
@[simp] theorem tru_bl : truD (.bl a) S = some a := (rfl)
@[simp] theorem tru_int : truD (.int i) S = some (i != 0) := (rfl)
@[simp] theorem tru_tup : truD (.tup ds) S = some (!ds.isEmpty) := (rfl)
@[simp] theorem tru_rol : truD (.rol ds) S = some (!ds.isEmpty) := (rfl)
@[simp] theorem tru_ref : truD (.ref l) S = match at_ S l with
    | some (.lst ds) => some (!ds.isEmpty)
    | some (.dK kvs) => some (!kvs.isEmpty)
    | _ => none := (rfl)
/-! items -/
@[simp] theorem getL_eq : getL S l = match at_ S l with
  | some (.lst ds) => some ds
  | _ => none := (rfl)
@[simp] theorem idx_tup : idxOp (.tup ds) (.int i) S = atI ds i := (rfl)
@[simp] theorem idx_rol : idxOp (.rol ds) (.int i) S = atI ds i := (rfl)
@[simp] theorem idx_ref : idxOp (.ref l) (.int i) S = match getL S l with
    | some ds => atI ds i
    | none => dkGet S l (.inl i) := (rfl)
@[simp] theorem idx_refs : idxOp (.ref l) (.str s) S = dkGet S l (.inr s) := (rfl)
@[simp] theorem atI_0 {α : Type} {d : α} {xs : List α} : atI (d :: xs) 0 = some d := atI_nat (j := 0) rfl
@[simp] theorem atI_1 {α : Type} {d e : α} {xs : List α} : atI (d :: e :: xs) 1 = some e := atI_nat (j := 1) rfl
@[simp] theorem atI_2 {α : Type} {d e f : α} {xs : List α} : atI (d :: e :: f :: xs) 2 = some f := atI_nat (j := 2) rfl
@[simp] theorem atI_3 {α : Type} {d e f g : α} {xs : List α} : atI (d :: e :: f :: g :: xs) 3 = some g := atI_nat (j := 3) rfl
@[simp] theorem atI_4 {α : Type} {d e f g h : α} {xs : List α} : atI (d :: e :: f :: g :: h :: xs) 4 = some h := atI_nat (j := 4) rfl
theorem atI_at {α : Type} {xs : List α} {i : Int} {d : α} (h0 : 0 ≤ i) (h : xs[i.toNat]? = some d) : atI xs i = some d := by
  have := atI_nat h
  rwa [Int.toNat_of_nonneg h0] at this
theorem ixN_at {n : Nat} {i : Int} (h0 : 0 ≤ i) (h : i < n) : ixN n i = some i.toNat := by
  unfold ixN
  rw [if_pos h0, if_pos h]
@[simp] theorem ixN_0 {n : Nat} : ixN (n + 1) 0 = some 0 := by unfold ixN; rw [if_pos (by omega), if_pos (by omega)]; rfl
@[simp] theorem ixN_1 {n : Nat} : ixN (n + 1 + 1) 1 = some 1 := by unfold ixN; rw [if_pos (by omega), if_pos (by omega)]; rfl
@[simp] theorem ixN_2 {n : Nat} : ixN (n + 1 + 1 + 1) 2 = some 2 := by unfold ixN; rw [if_pos (by omega), if_pos (by omega)]; rfl
@[simp] theorem ixN_3 {n : Nat} : ixN (n + 1 + 1 + 1 + 1) 3 = some 3 := by unfold ixN; rw [if_pos (by omega), if_pos (by omega)]; rfl
@[simp] theorem sl_tup {lo hi : Option Int} : slOp (.tup ds) lo hi S = .ok (.tup (cutD ds lo hi)) S := (rfl)
@[simp] theorem sl_ref {lo hi : Option Int} : slOp (.ref l) lo hi S = match getL S l with
    | some ds => .ok (.ref S.length) (S ++ [.lst (cutD ds lo hi)])
    | none => .err := (rfl)
@[simp] theorem rev_ref : revOp (.ref l) S = match getL S l with
    | some ds => .ok (.ref S.length) (S ++ [.lst ds.reverse])
    | none => .err := (rfl)
@[simp] theorem setIdx_ref {v : D} : setIdx (.ref l) (.int i) v S = match at_ S l with
    | some (.lst ds) => (match ixN ds.length i with
        | some j => some (S.set l (.lst (ds.set j v)))
        | none => none)
    | _ => none := by
  unfold at_
  cases e : S[l]? with
  | none => unfold setIdx; simp [e]
  | some c => cases c <;> (unfold setIdx; simp [e]) <;> rfl
@[simp] theorem setIdxD_ref {y v : D} : setIdxD (.ref l) y v S = match at_ S l with
    | some (.dK kvs) => (match keyOf y with
      | some k => if kvs.length < LIM then some (S.set l (.dK (dPut k v kvs))) else none
      | none => none)
    | _ => setIdx (.ref l) y v S := (rfl)
@[simp] theorem isDK_ref : isDK (.ref l) S = match at_ S l with
    | some (.dK _) => true
    | _ => false := (rfl)
@[simp] theorem dget2_ref {y z : D} : dget2Op (.ref l) y z S = match at_ S l with
    | some (.dK kvs) => (match keyOf y with
      | some k => some ((dGet k kvs).getD z)
      | none => none)
    | _ => none := (rfl)
@[simp] theorem srtItems_ref : srtItemsOp (.ref l) S = match at_ S l with
    | some (.dK kvs) => (match itemsI kvs with
      | some ps => if ps.length ≤ LIM then .ok (.ref S.length) (S ++ [.lst ((sortP ps).map fun p => .tup [.int p.1, .int p.2])]) else .err
      | none => .err)
    | _ => .err := (rfl)
@[simp] theorem dispOp_eq {ds : List D} : dispOp l ds S = match at_ S l with
    | some (.dK []) => (match dispOf (pairUp ds) with
      | some kvs => if kvs.length ≤ 15 then .ok (.ref l) (S.set l (.dK (mergeD [] kvs))) else .err
      | none => .err)
    | _ => .err := (rfl)
@[simp] theorem intsAt_tup : intsAt (.tup ds) S = intsOf ds := (rfl)
@[simp] theorem intsAt_ref : intsAt (.ref l) S = match getL S l with
    | some ds => intsOf ds
    | none => none := (rfl)
@[simp] theorem srtSet_eq {x : D} : srtSetOp x S = match intsAt x S with
  | some is => if decide (is.length ≤ 4000) && decide ((setI is).length < 64) then .ok (.ref S.length) (S ++ [.lst ((setI is).map .int)]) else .err
  | none => .err := (rfl)
@[simp] theorem lenSet_eq {x : D} : lenSetOp x S = match intsAt x S with
  | some is => if decide (is.length ≤ 4000) then .ok (.int (setI is).length) S else .err
  | none => .err := (rfl)
@[simp] theorem getLI_ref : getLI (.ref l) (.int i) S = match at_ S l with
    | some (.lst ds) => atI ds i
    | _ => none := (rfl)
/-! types -/
theorem isi_of {n t : String} {r : Option Bool} (h : tyName x S = some n) (k : kitB n t = r) : isiOp x t S = r := by unfold isiOp; rw [h]; exact k
@[simp] theorem isi_int_int : isiOp (.int i) "int" S = some true := isi_of rfl (by decide +kernel)
@[simp] theorem isi_int_bool : isiOp (.int i) "bool" S = some false := isi_of rfl (by decide +kernel)
@[simp] theorem isi_int_str : isiOp (.int i) "str" S = some false := isi_of rfl (by decide +kernel)
@[simp] theorem isi_int_list : isiOp (.int i) "list" S = some false := isi_of rfl (by decide +kernel)
@[simp] theorem isi_int_tuple : isiOp (.int i) "tuple" S = some false := isi_of rfl (by decide +kernel)
@[simp] theorem isi_int_dict : isiOp (.int i) "dict" S = some false := isi_of rfl (by decide +kernel)
@[simp] theorem isi_bl_int : isiOp (.bl a) "int" S = some true := isi_of rfl (by decide +kernel)
@[simp] theorem isi_bl_bool : isiOp (.bl a) "bool" S = some true := isi_of rfl (by decide +kernel)
@[simp] theorem isi_bl_str : isiOp (.bl a) "str" S = some false := isi_of rfl (by decide +kernel)
@[simp] theorem isi_bl_list : isiOp (.bl a) "list" S = some false := isi_of rfl (by decide +kernel)
@[simp] theorem isi_bl_tuple : isiOp (.bl a) "tuple" S = some false := isi_of rfl (by decide +kernel)
@[simp] theorem isi_bl_dict : isiOp (.bl a) "dict" S = some false := isi_of rfl (by decide +kernel)
@[simp] theorem isi_str_int : isiOp (.str s) "int" S = some false := isi_of rfl (by decide +kernel)
@[simp] theorem isi_str_bool : isiOp (.str s) "bool" S = some false := isi_of rfl (by decide +kernel)
@[simp] theorem isi_str_str : isiOp (.str s) "str" S = some true := isi_of rfl (by decide +kernel)
@[simp] theorem isi_str_list : isiOp (.str s) "list" S = some false := isi_of rfl (by decide +kernel)
@[simp] theorem isi_str_tuple : isiOp (.str s) "tuple" S = some false := isi_of rfl (by decide +kernel)
@[simp] theorem isi_str_dict : isiOp (.str s) "dict" S = some false := isi_of rfl (by decide +kernel)
@[simp] theorem isi_non_int : isiOp .non "int" S = some false := isi_of rfl (by decide +kernel)
@[simp] theorem isi_non_bool : isiOp .non "bool" S = some false := isi_of rfl (by decide +kernel)
@[simp] theorem isi_non_str : isiOp .non "str" S = some false := isi_of rfl (by decide +kernel)
@[simp] theorem isi_non_list : isiOp .non "list" S = some false := isi_of rfl (by decide +kernel)
@[simp] theorem isi_non_tuple : isiOp .non "tuple" S = some false := isi_of rfl (by decide +kernel)
@[simp] theorem isi_non_dict : isiOp .non "dict" S = some false := isi_of rfl (by decide +kernel)
@[simp] theorem isi_tup_int : isiOp (.tup ds) "int" S = some false := isi_of rfl (by decide +kernel)
@[simp] theorem isi_tup_bool : isiOp (.tup ds) "bool" S = some false := isi_of rfl (by decide +kernel)
@[simp] theorem isi_tup_str : isiOp (.tup ds) "str" S = some false := isi_of rfl (by decide +kernel)
@[simp] theorem isi_tup_list : isiOp (.tup ds) "list" S = some false := isi_of rfl (by decide +kernel)
@[simp] theorem isi_tup_tuple : isiOp (.tup ds) "tuple" S = some true := isi_of rfl (by decide +kernel)
@[simp] theorem isi_tup_dict : isiOp (.tup ds) "dict" S = some false := isi_of rfl (by decide +kernel)
theorem ty_lst (h : at_ S l = some (.lst ds)) : tyName (.ref l) S = some "list" := by unfold tyName; dsimp only; rw [show S[l]? = _ from h]
theorem isi_lst_int (h : at_ S l = some (.lst ds)) : isiOp (.ref l) "int" S = some false := isi_of (ty_lst h) (by decide +kernel)
theorem isi_lst_bool (h : at_ S l = some (.lst ds)) : isiOp (.ref l) "bool" S = some false := isi_of (ty_lst h) (by decide +kernel)
theorem isi_lst_str (h : at_ S l = some (.lst ds)) : isiOp (.ref l) "str" S = some false := isi_of (ty_lst h) (by decide +kernel)
theorem isi_lst_list (h : at_ S l = some (.lst ds)) : isiOp (.ref l) "list" S = some true := isi_of (ty_lst h) (by decide +kernel)
theorem isi_lst_tuple (h : at_ S l = some (.lst ds)) : isiOp (.ref l) "tuple" S = some false := isi_of (ty_lst h) (by decide +kernel)
theorem isi_lst_dict (h : at_ S l = some (.lst ds)) : isiOp (.ref l) "dict" S = some false := isi_of (ty_lst h) (by decide +kernel)
/-! built-ins -/
@[simp] theorem len_tup : bltOp .len [.tup ds] S = .ok (.int ds.length) S := (rfl)
@[simp] theorem len_rol : bltOp .len [.rol ds] S = .ok (.int ds.length) S := (rfl)
@[simp] theorem len_str : bltOp .len [.str s] S = if s.length ≤ LIM then .ok (.int s.length) S else .err := (rfl)
@[simp] theorem len_ref : bltOp .len [.ref l] S = match at_ S l with
    | some (.lst xs) => .ok (.int xs.length) S
    | some (.dK kvs) => .ok (.int kvs.length) S
    | _ => .err := (rfl)
@[simp] theorem int_int : bltOp .int [.int i] S = .ok (.int i) S := (rfl)
@[simp] theorem int_bl : bltOp .int [.bl a] S = .ok (.int (if a then 1 else 0)) S := (rfl)
@[simp] theorem bool_int : bltOp .bool [.int i] S = .ok (.bl (i != 0)) S := (rfl)
@[simp] theorem bool_bl : bltOp .bool [.bl a] S = .ok (.bl a) S := (rfl)
@[simp] theorem tuple_tup : bltOp .tuple [.tup ds] S = .ok (.tup ds) S := (rfl)
@[simp] theorem tuple_ref : bltOp .tuple [.ref l] S = match getL S l with
    | some xs => .ok (.tup xs) S
    | none => .err := (rfl)
@[simp] theorem list_tup : bltOp .list [.tup ds] S = .ok (.ref S.length) (S ++ [.lst ds]) := (rfl)
@[simp] theorem list_rol : bltOp .list [.rol ds] S = .ok (.ref S.length) (S ++ [.lst ds]) := (rfl)
@[simp] theorem list_ref : bltOp .list [.ref l] S = match getL S l with
    | some xs => .ok (.ref S.length) (S ++ [.lst xs])
    | none => .err := (rfl)
@[simp] theorem min2_ii : bltOp .min2 [.int i, .int j] S = .ok (.int (if j < i then j else i)) S := (rfl)
@[simp] theorem max2_ii : bltOp .max2 [.int i, .int j] S = .ok (.int (if j > i then j else i)) S := (rfl)
@[simp] theorem abs_i : bltOp .abs [.int i] S = .ok (.int (if i < 0 then -i else i)) S := (rfl)
@[simp] theorem isLst_ref : isLst (.ref l) S = match at_ S l with
    | some (.lst _) => true
    | _ => false := (rfl)
@[simp] theorem append_ref : bmOp .append (.ref l) [x] S = match at_ S l with
    | some (.lst xs) => if xs.length < LIM then .ok .non (S.set l (.lst (xs ++ [x]))) else .err
    | _ => .err := (rfl)
@[simp] theorem pop_ref : bmOp .pop (.ref l) [] S = match at_ S l with
    | some (.lst xs) => (match xs[xs.length - 1]? with
      | some d => .ok d (S.set l (.lst xs.dropLast))
      | none => .err)
    | _ => .err := (rfl)
@[simp] theorem extend_ref : bmOp .extend (.ref l) [.ref m] S = match at_ S l, at_ S m with
    | some (.lst xs), some (.lst ys) => if xs.length + ys.length ≤ LIM then .ok .non (S.set l (.lst (xs ++ ys))) else .err
    | _, _ => .err := (rfl)
/-! fields -/
@[simp] theorem getFld_ref {f : Str} : getFld (.ref l) f S = match at_ S l with
    | some (.ins _ fs) => getF f fs
    | _ => none := (rfl)
@[simp] theorem setFld_ref {na : Nat → Str → Bool} {f : Str} : setFld na (.ref l) x f S = match at_ S l with
    | some (.ins c fs) => if decide (fs.length < 1000) && (hasF f fs || na c f) then some (S.set l (.ins c (putD f x fs))) else none
    | _ => none := (rfl)
@[simp] theorem getF_nil {f : Str} : getF f [] = none := (rfl)
@[simp] theorem getF_cons {f k : Str} {r : Fs} : getF f ((k, x) :: r) = if k = f then some x else getF f r := (rfl)
@[simp] theorem hasF_nil {f : Str} : hasF f [] = false := (rfl)
@[simp] theorem hasF_cons {f k : Str} {r : Fs} : hasF f ((k, x) :: r) = (decide (k = f) || hasF f r) := (rfl)
@[simp] theorem putD_nil {f : Str} : putD f x [] = [(f, x)] := (rfl)
@[simp] theorem putD_cons {f k : Str} {r : Fs} : putD f x ((k, y) :: r) = if k = f then (k, x) :: r else (k, y) :: putD f x r := (rfl)
@[simp] theorem clsAt_ref : clsAt (.ref l) S = match at_ S l with
    | some (.ins c _) => some c
    | _ => none := (rfl)
@[simp] theorem objAt_eq : objAt S l = match at_ S l with
  | some (.lst _) => true
  | some (.ins _ _) => true
  | _ => false := (rfl)
@[simp] theorem aug_ii_add : augOp .add (.int i) (.int j) S = .ok (.int (i + j)) S := (rfl)
@[simp] theorem aug_ii_sub : augOp .sub (.int i) (.int j) S = .ok (.int (i - j)) S := (rfl)
@[simp] theorem aug_rr : augOp .add (.ref l) (.ref m) S = match at_ S l, at_ S m with
      | some (.lst a), some (.lst b) => if a.length + b.length ≤ LIM then .ok (.ref l) (S.set l (.lst (a ++ b))) else .err
      | _, _ => .err := (rfl)
/-! sources -/
@[simp] theorem seq_tup : seqSrc (.tup ds) S = some (.fix ds) := (rfl)
@[simp] theorem seq_rol : seqSrc (.rol ds) S = some (.fix ds) := (rfl)
@[simp] theorem seq_ref : seqSrc (.ref l) S = match getL S l with
    | some _ => some (.live l)
    | none => none := (rfl)
@[simp] theorem rng_1 : rngOp [.int j] = if small62 j then some (.fix (rngD 0 1 j.toNat)) else none := (rfl)
@[simp] theorem rng_2 : rngOp [.int i, .int j] = if small62 i && small62 j then some (.fix (rngD i 1 (j - i).toNat)) else none := (rfl)
@[simp] theorem small62_eq : small62 i = (decide (-(2 ^ 62) ≤ i) && decide (i < 2 ^ 62)) := by unfold small62; rfl
end
theorem rngD_len {lo c : Int} : ∀ {n : Nat}, (rngD lo c n).length = n
  | 0 => rfl
  | n + 1 => by show (rngD (lo + c) c n).length + 1 = _; rw [rngD_len]
theorem rngD_at {lo : Int} {n i : Nat} {d : D} (h : (rngD lo 1 n)[i]? = some d) : d = .int (lo + i) ∧ i < n := by
  rw [rngD_get] at h
  by_cases c : i < n
  · rw [if_pos c] at h
    cases h
    exact ⟨by simp, c⟩
  · rw [if_neg c] at h
    cases h
/-- a comprehension -/
theorem want_lc {P : Pg} {own : List Nat} {g : G} {t : VI.T} {e : E} {env : Env} {src : Src} {S : Store} {k : D → Store → Prop} {x : XC → Store → Prop} {ds : List D} (I : Nat → List D → Store → Prop) (ho : (slotsG g).all (own.contains ·) = true) (hl : ds.length < 1000000000000)
    (hn : ∀ i acc S, I i acc S → src.next i S = some ds[i]?) (hc : ∀ i acc S', I i acc S' → at_ S' S.length = some (.lst acc) ∧ acc.length < LIM) (h0 : I 0 [] (S ++ [.lst []]))
    (hs : ∀ i d acc S', ds[i]? = some d → I i acc S' → ((asgG P none (wipeE env own) g d S').bindK fun env1 S1 => (evT P none env1 t S1).noX.bindK fun b S2 => if b then (evE P none env1 e S2).noX.bindK fun y S3 => .ok (some y) S3 else .ok none S2).want (fun y S3 => match y with
      | some y => ∃ acc', at_ S3 S.length = some (.lst acc') ∧ acc'.length < LIM ∧ I (i + 1) (acc' ++ [y]) (S3.set S.length (.lst (acc' ++ [y])))
      | none => I (i + 1) acc S3) x)
    (hd : ∀ acc S', I ds.length acc S' → k (.ref S.length) S') : (lcS P own g t e env src S).want k x := by
  unfold lcS
  rw [if_pos ho, turns_eq]
  exact lcLoop_want (asg := fun d env S => asgG P none env g d S) (test := fun env S => (evT P none env t S).noX) (elt := fun env S => (evE P none env e S).noX) I hn hc hs hd _ 0 [] _ (Nat.zero_le _) (by omega) h0
/-! frames -/
@[simp] theorem startE_eq {n : Nat} {ds : List D} : startE n ds = ds.map .val ++ List.replicate (n - ds.length) .no := (rfl)
@[simp] theorem wipe_nil {env : Env} : wipeE env [] = env := (rfl)
@[simp] theorem wipe_cons {env : Env} {v : Nat} {vs : List Nat} : wipeE env (v :: vs) = (wipeE env vs).set v .no := (rfl)
@[simp] theorem noExc_nil : noExc [] = true := (rfl)
@[simp] theorem noExc_no {r : Env} : noExc (.no :: r) = noExc r := (rfl)
@[simp] theorem noExc_val {d : D} {r : Env} : noExc (.val d :: r) = noExc r := (rfl)
@[simp] theorem noExc_exc {r : Env} : noExc (.exc :: r) = false := (rfl)
/-- a slot that holds no exception -/
def Sl.ok : Sl → Bool
  | .exc => false
  | _ => true
@[simp] theorem ok_no : Sl.ok .no = true := (rfl)
@[simp] theorem ok_val {d : D} : Sl.ok (.val d) = true := (rfl)
@[simp] theorem noExc_ok {e : Sl} {r : Env} (h : e.ok = true) : noExc (e :: r) = noExc r := by cases e <;> first | rfl | cases h
@[simp] theorem outX_none {f env S} : RS.outX none (.ok f env S) = if noExc env then .ok f env S else .err := (rfl)
@[simp] theorem outX_some {i f env S} : RS.outX (some i) (.ok f env S) = if noExc (env.set i .no) then .ok f (env.set i .no) S else .err := (rfl)
theorem wp_outX {i : Nat} {r : RS} {Q : Fl → Env → Store → Prop} {X : XC → Env → Store → Prop} (h : r.wp (fun f env S => noExc (env.set i .no) = true ∧ Q f (env.set i .no) S) fun _ _ _ => False) : (RS.outX (some i) r).wp Q X := by
  cases r with
  | ok f env S =>
    rw [outX_some, if_pos h.1]
    exact h.2
  | exc x env S => exact h.elim
  | err => exact h
@[simp] theorem pg_call {T : Tab} {n : Nat} : (pgAt T n).call = run T n := (rfl)
@[simp] theorem pg_con {T : Tab} {n : Nat} : (pgAt T n).con = T.con := (rfl)
@[simp] theorem pg_na {T : Tab} {n : Nat} : (pgAt T n).na = T.na := (rfl)
@[simp] theorem pg_exm {T : Tab} {n : Nat} : (pgAt T n).exm = T.exm := (rfl)
end VI

set_option Elab.async false
set_option linter.all false
set_option maxRecDepth 100000
set_option maxHeartbeats 1000000
/-! VIt: comprehensions, more built-ins. -/
namespace VI
open PySem L2
section
variable {S : Store} {l m : Nat} {x : D} {ds : List D}
@[simp] theorem all_ref : bltOp .all [.ref l] S = match getL S l with
    | some xs => (match blsOf xs with
      | some bs => .ok (.bl (bs.all id)) S
      | none => .err)
    | none => .err := (rfl)
@[simp] theorem any_ref : bltOp .any [.ref l] S = match getL S l with
    | some xs => (match blsOf xs with
      | some bs => .ok (.bl (bs.any id)) S
      | none => .err)
    | none => .err := (rfl)
@[simp] theorem sum_ref : bltOp .sum [.ref l] S = match getL S l with
    | some xs => (match intsOf xs with
      | some is => .ok (.int is.sum) S
      | none => .err)
    | none => .err := (rfl)
theorem blsOf_map {bs : List Bool} : blsOf (bs.map D.bl) = some bs := by
  induction bs with
  | nil => rfl
  | cons b bs ih =>
    show (match blsOf (bs.map D.bl) with
      | some l => some (b :: l)
      | none => none) = _
    rw [ih]
theorem intsOf_map {bs : List Int} : intsOf (bs.map D.int) = some bs := by
  induction bs with
  | nil => rfl
  | cons b bs ih =>
    show (match intsOf (bs.map D.int) with
      | some l => some (b :: l)
      | none => none) = _
    rw [ih]
end
section
variable {P : Pg} {own : List Nat} {g : G} {t : VI.T} {e : E} {env : Env} {src : Src} {S : Store} {k : D → Store → Prop} {x : XC → Store → Prop} {ds : List D}
/-- a comprehension without a test: each turn gives one thing that R knows -/
theorem want_map {R : Nat → D → Prop} (J : Nat → Store → Prop) (ho : (slotsG g).all (own.contains ·) = true) (hl : ds.length < 16777216) (hn : ∀ i S', J i S' → src.next i S' = some ds[i]?)
    (st : ∀ i S' c, J i S' → J i (S'.set S.length c)) (h0 : J 0 (S ++ [.lst []]))
    (hs : ∀ i d acc S', ds[i]? = some d → J i S' → at_ S' S.length = some (.lst acc) → ((asgG P none (wipeE env own) g d S').bindK fun env1 S1 => (evE P none env1 e S1).noX.bindK fun y S3 => .ok y S3).want (fun y S3 => R i y ∧ J (i + 1) S3 ∧ at_ S3 S.length = some (.lst acc)) x)
    (hd : ∀ ys S', ys.length = ds.length → (∀ i y, ys[i]? = some y → R i y) → J ds.length S' → at_ S' S.length = some (.lst ys) → k (.ref S.length) S') : (lcS P own g .yes e env src S).want k x := by
  refine want_lc (ds := ds) (fun i acc S' => acc.length = i ∧ i ≤ ds.length ∧ (∀ j y, acc[j]? = some y → R j y) ∧ J i S' ∧ at_ S' S.length = some (.lst acc)) ho (by omega) (fun i acc S' h => hn i S' h.2.2.2.1) (fun i acc S' h => ⟨h.2.2.2.2, by show acc.length < 16777216; omega⟩) ⟨rfl, Nat.zero_le _, fun j y h => (by simp at h), h0, by simp⟩ (fun i d acc S' hd' h => ?_) (fun acc S' h => hd acc S' h.1 h.2.2.1 h.2.2.2.1 h.2.2.2.2)
  obtain ⟨h1, h2, h3, h4, h5⟩ := h
  have hlt := (List.getElem?_eq_some_iff.mp hd').1
  have z := hs i d acc S' hd' h4 h5
  cases ha : asgG P none (wipeE env own) g d S' with
  | err => rw [ha] at z; exact z
  | exc ee S1 => rw [ha] at z; exact z
  | ok env1 S1 =>
    rw [ha] at z
    simp only [bindK_ok, s_evT_yes, noX_ok, if_true] at z ⊢
    cases he : (evE P none env1 e S1).noX with
    | err => rw [he] at z; exact z
    | exc ee S1 => rw [he] at z; exact z
    | ok y S3 =>
      rw [he] at z
      obtain ⟨z1, z2, z3⟩ := z
      refine ⟨acc, z3, by show acc.length < 16777216; omega, by simp [h1], hlt, fun j w hj => ?_, st _ _ _ z2, by simp [z3]⟩
      by_cases c : j < acc.length
      · rw [List.getElem?_append_left c] at hj
        exact h3 j w hj
      · have cj : j = acc.length := by
          have := (List.getElem?_eq_some_iff.mp hj).1
          simp at this
          omega
        subst cj
        simp at hj
        rw [h1, ← hj]
        exact z1
/-- how many below n -/
def cnt (c : Nat → Bool) : Nat → Nat
  | 0 => 0
  | n + 1 => cnt c n + if c n then 1 else 0
theorem cnt_le {c : Nat → Bool} : ∀ {n : Nat}, cnt c n ≤ n
  | 0 => Nat.le_refl _
  | n + 1 => by
    unfold cnt
    have := cnt_le (c := c) (n := n)
    split <;> omega
theorem cnt_zero {c : Nat → Bool} : ∀ {n : Nat}, (∀ i, i < n → c i = false) → cnt c n = 0
  | 0, _ => rfl
  | n + 1, h => by
    unfold cnt
    rw [cnt_zero fun i hi => h i (by omega), h n (by omega)]
    rfl
theorem cnt_congr {c c' : Nat → Bool} : ∀ {n : Nat}, (∀ i, i < n → c i = c' i) → cnt c n = cnt c' n
  | 0, _ => rfl
  | n + 1, h => by
    unfold cnt
    rw [cnt_congr fun i hi => h i (by omega), h n (by omega)]
/-- a comprehension with a test, told by c: how long the list is -/
theorem want_count {c : Nat → Bool} (J : Nat → Store → Prop) (ho : (slotsG g).all (own.contains ·) = true) (hl : ds.length < 16777216) (hn : ∀ i S', J i S' → src.next i S' = some ds[i]?)
    (st : ∀ i S' c, J i S' → J i (S'.set S.length c)) (h0 : J 0 (S ++ [.lst []]))
    (hs : ∀ i d acc S', ds[i]? = some d → J i S' → at_ S' S.length = some (.lst acc) → ((asgG P none (wipeE env own) g d S').bindK fun env1 S1 => (evT P none env1 t S1).noX.bindK fun b S2 => (evE P none env1 e S2).noX.bindK fun y S3 => .ok (b, y) S3).want (fun y S3 => y.1 = c i ∧ J (i + 1) S3 ∧ at_ S3 S.length = some (.lst acc)) x)
    (hs2 : ∀ i d acc S', ds[i]? = some d → J i S' → at_ S' S.length = some (.lst acc) → c i = false → ((asgG P none (wipeE env own) g d S').bindK fun env1 S1 => (evT P none env1 t S1).noX).want (fun y S3 => J (i + 1) S3 ∧ at_ S3 S.length = some (.lst acc)) x)
    (hd : ∀ ys S', ys.length = cnt c ds.length → J ds.length S' → at_ S' S.length = some (.lst ys) → k (.ref S.length) S') : (lcS P own g t e env src S).want k x := by
  refine want_lc (ds := ds) (fun i acc S' => acc.length = cnt c i ∧ i ≤ ds.length ∧ J i S' ∧ at_ S' S.length = some (.lst acc)) ho (by omega) (fun i acc S' h => hn i S' h.2.2.1) (fun i acc S' h => ⟨h.2.2.2, by have := cnt_le (c := c) (n := i); show acc.length < 16777216; omega⟩) ⟨rfl, Nat.zero_le _, h0, by simp⟩ (fun i d acc S' hd' h => ?_) (fun acc S' h => hd acc S' h.1 h.2.2.1 h.2.2.2)
  obtain ⟨h1, h2, h4, h5⟩ := h
  have hlt := (List.getElem?_eq_some_iff.mp hd').1
  have z := hs i d acc S' hd' h4 h5
  have z' := hs2 i d acc S' hd' h4 h5
  cases ha : asgG P none (wipeE env own) g d S' with
  | err => rw [ha] at z; exact z
  | exc ee S1 => rw [ha] at z; exact z
  | ok env1 S1 =>
    rw [ha] at z z'
    simp only [bindK_ok] at z z' ⊢
    cases ht : (evT P none env1 t S1).noX with
    | err => rw [ht] at z; exact z
    | exc ee S1 => rw [ht] at z; exact z
    | ok b S2 =>
      rw [ht] at z z'
      simp only [bindK_ok] at z z' ⊢
      cases he : (evE P none env1 e S2).noX with
      | err => rw [he] at z; exact z.elim
      | exc ee S1 =>
        rw [he] at z
        cases hb : evE P none env1 e S2 with
        | err => rw [hb] at he; cases he
        | ok _ _ => rw [hb] at he; cases he
        | exc _ _ => rw [hb] at he; cases he
      | ok y S3 =>
        rw [he] at z
        obtain ⟨z1, z2, z3⟩ := z
        have z1 : b = c i := z1
        cases b with
        | true =>
          rw [if_pos rfl]
          have := cnt_le (c := c) (n := i)
          refine ⟨acc, z3, by show acc.length < 16777216; omega, ?_, hlt, st _ _ _ z2, by simp [z3]⟩
          unfold cnt
          rw [← z1]
          simp [h1]
        | false =>
          rw [if_neg Bool.false_ne_true]
          obtain ⟨z4, z5⟩ := z' z1.symm
          refine ⟨?_, hlt, z4, z5⟩
          unfold cnt
          rw [← z1]
          simp [h1]
end
theorem Keeps.new {W V : List Nat} {S S' S'' : Store} (a : Keeps V S S') (b : Keeps W S' S'') (h : ∀ l ∈ W, S.length ≤ l) : Keeps V S S'' := ⟨Nat.le_trans a.le b.le, fun l hl w => (b.at_ l (Nat.lt_of_lt_of_le hl a.le) fun z => by have := h l z; omega).trans (a.at_ l hl w)⟩
theorem Keeps.set_ {V : List Nat} {S S' : Store} {l : Nat} {c : Cell} (a : Keeps V S S') (h : S.length ≤ l) : Keeps V S (S'.set l c) := a.set (.inr h)
end VI

set_option Elab.async false
set_option linter.all false
set_option maxRecDepth 100000
set_option maxHeartbeats 2000000
/-! VIu: comprehensions whose items are told by the walked ones. -/
namespace VI
open PySem L2
@[simp] theorem lrng_eq {k : Bool} {a b : Int} {S : Store} : lrngOp k a b S = if small62 a && (small62 b && decide ((b - a).toNat ≤ 16777216)) then (if k then .ok (.ref S.length) (S ++ [.lst (rngD a 1 (b - a).toNat)]) else .ok (.tup (rngD a 1 (b - a).toNat)) S) else .err := (rfl)
section
variable {l : Nat} {S : Store} {y : D} {i : Int}
@[simp] theorem blt_min : bltOp .min [.ref l] S = match getL S l with
  | some xs => (match intsOf xs with
    | some (i :: is) => .ok (.int (minI (i :: is))) S
    | _ => .err)
  | none => .err := (rfl)
@[simp] theorem blt_max : bltOp .max [.ref l] S = match getL S l with
  | some xs => (match intsOf xs with
    | some (i :: is) => .ok (.int (maxI (i :: is))) S
    | _ => .err)
  | none => .err := (rfl)
@[simp] theorem blt_sum : bltOp .sum [.ref l] S = match getL S l with
  | some xs => (match intsOf xs with
    | some is => .ok (.int is.sum) S
    | none => .err)
  | none => .err := (rfl)
@[simp] theorem blt_sorted : bltOp .sorted [.ref l] S = match getL S l with
  | some xs => (match intsOf xs with
    | some is => .ok (.ref S.length) (S ++ [.lst ((sortI is).map .int)])
    | _ => .err)
  | none => .err := (rfl)
@[simp] theorem bm_popAt : bmOp .popAt (.ref l) [.int i] S = match at_ S l with
  | some (.lst xs) => (match ixN xs.length i with
    | some k => (match xs[k]? with
      | some d => if small62 i then .ok d (S.set l (.lst (xs.eraseIdx k))) else .err
      | none => .err)
    | none => .err)
  | _ => .err := (rfl)
@[simp] theorem bm_index : bmOp .index (.ref l) [y] S = match at_ S l with
  | some (.lst xs) => if flatD y && xs.all flatD then (match xs.findIdx? (eqvD · y) with
    | some j => .ok (.int j) S
    | none => .err) else .err
  | _ => .err := (rfl)
@[simp] theorem bm_count : bmOp .count (.ref l) [.int i] S = match at_ S l with
  | some (.lst xs) => (match intsOf xs with
    | some is => .ok (.int (is.count i : Nat)) S
    | none => .err)
  | _ => .err := (rfl)
end
@[simp] theorem rev_tup {ds : List D} {S : Store} : revOp (.tup ds) S = .ok (.tup ds.reverse) S := (rfl)
@[simp] theorem blsOf_nil : blsOf [] = some [] := (rfl)
@[simp] theorem blsOf_cons {b : Bool} {ds : List D} : blsOf (.bl b :: ds) = match blsOf ds with
  | some l => some (b :: l)
  | none => none := (rfl)
@[simp] theorem intsOf_nil : intsOf [] = some [] := (rfl)
@[simp] theorem intsOf_cons {i : Int} {ds : List D} : intsOf (.int i :: ds) = match intsOf ds with
  | some l => some (i :: l)
  | none => none := (rfl)
section
variable {P : Pg} {own own1 : List Nat} {g g1 : G} {t t1 : VI.T} {it1 : I} {e : E} {env : Env} {src : Src} {S : Store} {ds : List D} {W : List Nat} {k : D → Store → Prop} {x : XC → Store → Prop}
/-- [e for g in src if t]: what each turn makes -/
theorem lc_det (W : List Nat) (p : D → Bool) (F : D → D) (ho : (slotsG g).all (own.contains ·) = true) (hl : ds.length < 16777216) (hn : ∀ i S', Keeps W S S' → src.next i S' = some ds[i]?)
    (hs : ∀ d ∈ ds, ∀ acc S', Keeps W S S' → at_ S' S.length = some (.lst acc) → ((asgG P none (wipeE env own) g d S').bindK fun env1 S1 => (evT P none env1 t S1).noX.bindK fun b S2 => if b then (evE P none env1 e S2).noX.bindK fun y S3 => .ok (some y) S3 else .ok none S2).want (fun y S3 => y = (if p d then some (F d) else none) ∧ Keeps W S S3 ∧ at_ S3 S.length = some (.lst acc)) fun _ _ => False) :
    ∃ S', lcS P own g t e env src S = .ok (.ref S.length) S' ∧ at_ S' S.length = some (.lst ((ds.filter p).map F)) ∧ Keeps W S S' := by
  have key : (lcS P own g t e env src S).want (fun a S' => a = .ref S.length ∧ at_ S' S.length = some (.lst ((ds.filter p).map F)) ∧ Keeps W S S') fun _ _ => False := by
    refine want_lc (ds := ds) (fun i acc S' => acc = ((ds.take i).filter p).map F ∧ i ≤ ds.length ∧ Keeps W S S' ∧ at_ S' S.length = some (.lst acc)) ho (by omega) (fun i acc S' h => hn i S' h.2.2.1) (fun i acc S' h => ⟨h.2.2.2, ?_⟩) ⟨by simp, Nat.zero_le _, Keeps.app Keeps.refl, by simp⟩ (fun i d acc S' hd' h => ?_) (fun acc S' h => ⟨rfl, ?_, h.2.2.1⟩)
    · show acc.length < 16777216
      rw [h.1, List.length_map]
      have h1 := List.length_filter_le p (ds.take i)
      rw [List.length_take] at h1
      omega
    · obtain ⟨h1, h2, h3, h4⟩ := h
      have hlt := (List.getElem?_eq_some_iff.mp hd').1
      have hm : acc.length < 16777216 := by
        rw [h1, List.length_map]
        have h1 := List.length_filter_le p (ds.take i)
        rw [List.length_take] at h1
        omega
      refine VI.R.want_mono (hs d (List.mem_of_getElem? hd') acc S' h3 h4) (fun y S3 hy => ?_) (fun _ _ z => z.elim)
      obtain ⟨rfl, k3, a3⟩ := hy
      have ht : ds.take (i + 1) = ds.take i ++ [d] := by rw [List.take_add_one, hd']; rfl
      cases hp : p d with
      | true =>
        rw [if_pos rfl]
        exact ⟨acc, a3, hm, by rw [ht, List.filter_append, List.map_append, ← h1]; simp [hp], hlt, k3.set_ (Nat.le_refl _), by simp [a3]⟩
      | false =>
        rw [if_neg Bool.false_ne_true]
        exact ⟨by rw [ht, List.filter_append, List.map_append, ← h1]; simp [hp], hlt, k3, a3⟩
    · rw [h.2.2.2, h.1, List.take_length]
  obtain ⟨a, S', e, rfl, h⟩ := want_some key
  exact ⟨S', e, h⟩
/-- the same without a test -/
theorem lc_map (W : List Nat) (F : D → D) (ho : (slotsG g).all (own.contains ·) = true) (hl : ds.length < 16777216) (hn : ∀ i S', Keeps W S S' → src.next i S' = some ds[i]?)
    (hs : ∀ d ∈ ds, ∀ acc S', Keeps W S S' → at_ S' S.length = some (.lst acc) → ((asgG P none (wipeE env own) g d S').bindK fun env1 S1 => (evE P none env1 e S1).noX).want (fun y S3 => y = F d ∧ Keeps W S S3 ∧ at_ S3 S.length = some (.lst acc)) fun _ _ => False) :
    ∃ S', lcS P own g .yes e env src S = .ok (.ref S.length) S' ∧ at_ S' S.length = some (.lst (ds.map F)) ∧ Keeps W S S' := by
  have := lc_det (P := P) (own := own) (g := g) (t := .yes) (e := e) (env := env) (src := src) (S := S) (ds := ds) W (fun _ => true) F ho hl hn (fun d hd acc S' h1 h2 => by
    have z := hs d hd acc S' h1 h2
    cases ha : asgG P none (wipeE env own) g d S' with
    | err => rw [ha] at z; exact z
    | exc ee S1 => rw [ha] at z; exact z
    | ok env1 S1 =>
      rw [ha] at z
      simp only [bindK_ok, s_evT_yes, noX_ok, if_true] at z ⊢
      cases he : (evE P none env1 e S1).noX with
      | err => rw [he] at z; exact z
      | exc ee S1 => rw [he] at z; exact z
      | ok y S3 =>
        rw [he] at z
        obtain ⟨rfl, z⟩ := z
        exact ⟨rfl, z⟩)
  rw [List.filter_eq_self.mpr (fun _ _ => rfl)] at this
  exact this
/-- the inner loop of a comprehension of two clauses: its items told -/
theorem lcIn_map {l : Nat} {es acc0 : List D} (F : D → D) (hl : acc0.length + es.length < 16777216) (h0 : at_ S l = some (.lst acc0)) (hn : ∀ i S', Keeps [l] S S' → src.next i S' = some es[i]?)
    (hs : ∀ d ∈ es, ∀ acc S', Keeps [l] S S' → at_ S' l = some (.lst acc) → ((asgG P none (wipeE env own) g d S').bindK fun env1 S1 => (evE P none env1 e S1).noX).want (fun y S3 => y = F d ∧ Keeps [l] S S3 ∧ at_ S3 l = some (.lst acc)) fun _ _ => False) :
    ∃ S', lcIn P own g .yes e l env src S = .ok (.ref l) S' ∧ at_ S' l = some (.lst (acc0 ++ es.map F)) ∧ Keeps [l] S S' := by
  have key : (lcIn P own g .yes e l env src S).want (fun a S' => a = .ref l ∧ at_ S' l = some (.lst (acc0 ++ es.map F)) ∧ Keeps [l] S S') fun _ _ => False := by
    unfold lcIn
    rw [turns_eq]
    refine lcLoop_want (ds := es) (asg := fun d env S => asgG P none env g d S) (test := fun env S => (evT P none env .yes S).noX) (elt := fun env S => (evE P none env e S).noX) (fun i acc S' => acc = acc0 ++ (es.take i).map F ∧ i ≤ es.length ∧ Keeps [l] S S' ∧ at_ S' l = some (.lst acc)) (fun i acc S' h => hn i S' h.2.2.1) (fun i acc S' h => ⟨h.2.2.2, ?_⟩) (fun i d acc S' hd' h => ?_) (fun acc S' h => ⟨rfl, ?_, h.2.2.1⟩) _ 0 acc0 _ (Nat.zero_le _) (by omega) ⟨by simp, Nat.zero_le _, Keeps.refl, h0⟩
    · show acc.length < 16777216
      rw [h.1, List.length_append, List.length_map, List.length_take]
      omega
    · obtain ⟨h1, h2, h3, h4⟩ := h
      have hlt := (List.getElem?_eq_some_iff.mp hd').1
      have hm : acc.length < 16777216 := by
        rw [h1, List.length_append, List.length_map, List.length_take]
        omega
      have z := hs d (List.mem_of_getElem? hd') acc S' h3 h4
      have ht : es.take (i + 1) = es.take i ++ [d] := by rw [List.take_add_one, hd']; rfl
      cases ha : asgG P none (wipeE env own) g d S' with
      | err => rw [ha] at z; exact z
      | exc ee S1 => rw [ha] at z; exact z
      | ok env1 S1 =>
        rw [ha] at z
        simp only [bindK_ok] at z
        simp only [bind_ok, s_evT_yes, noX_ok, if_true]
        cases he : (evE P none env1 e S1).noX with
        | err => rw [he] at z; exact z
        | exc ee S1 => rw [he] at z; exact z
        | ok y S3 =>
          rw [he] at z
          obtain ⟨rfl, k3, a3⟩ := z
          have hlt3 := lt_of_at a3
          exact ⟨acc, a3, hm, by rw [ht, List.map_append, ← List.append_assoc, ← h1]; rfl, hlt, k3.set (.inl (by simp)), by simp [a3]⟩
    · rw [h.2.2.2, h.1, List.take_length]
  obtain ⟨a, S', e, rfl, h⟩ := want_some key
  exact ⟨S', e, h⟩
theorem lc2Loop_want {src : Src} {asg : D → Env → M Env} {wenv : Env} {test : Env → M Bool} {inner : Env → M D} {l : Nat} (I : Nat → Store → Prop)
    (hn : ∀ i S, I i S → src.next i S = some ds[i]?)
    (hs : ∀ i d S, ds[i]? = some d → I i S → ((asg d wenv S).bind fun env1 S1 => (test env1 S1).bind fun b S2 => if b then inner env1 S2 else .ok .non S2).want (fun _ S3 => I (i + 1) S3) x)
    (hd : ∀ S, I ds.length S → k (.ref l) S) : ∀ (m i : Nat) (S : Store), i ≤ ds.length → ds.length < i + m → I i S → (lc2Loop src asg wenv test inner l m i S).want k x
  | 0, i, S, h1, h2, h => by omega
  | m + 1, i, S, h1, h2, h => by
    unfold lc2Loop
    rw [hn i S h]
    cases e : ds[i]? with
    | none =>
      have : i = ds.length := by
        have := List.getElem?_eq_none_iff.mp e
        omega
      subst this
      exact hd S h
    | some d =>
      have hlt := (List.getElem?_eq_some_iff.mp e).1
      have z := hs i d S e h
      dsimp only
      cases ha : asg d wenv S with
      | err => rw [ha] at z; exact z
      | exc x S1 => rw [ha] at z; exact z
      | ok env1 S1 =>
        rw [ha] at z
        simp only [bind_ok] at z ⊢
        cases ht : test env1 S1 with
        | err => rw [ht] at z; exact z
        | exc x S1 => rw [ht] at z; exact z
        | ok b S2 =>
          rw [ht] at z
          simp only [bind_ok] at z ⊢
          cases b with
          | false => exact lc2Loop_want I hn hs hd m (i + 1) S2 hlt (by omega) z
          | true =>
            rw [if_pos rfl] at z ⊢
            cases he : inner env1 S2 with
            | err => rw [he] at z; exact z
            | exc x S1 => rw [he] at z; exact z
            | ok y S3 =>
              rw [he] at z
              simp only [bind_ok]
              exact lc2Loop_want I hn hs hd m (i + 1) S3 hlt (by omega) z
/-- [e for g in src for g1 in it1], its items told: F of each of the first -/
theorem lc2_map (F : D → List D) (ho : ((slotsG g).all (own.contains ·) && ((slotsG g1).all (own1.contains ·) && own1.all (own.contains ·))) = true) (hl : ds.length < 16777216) (hn : ∀ i S', Keeps [] S S' → src.next i S' = some ds[i]?)
    (hs : ∀ d ∈ ds, ∀ acc S', Keeps [] S S' → at_ S' S.length = some (.lst acc) → (∃ i, ds[i]? = some d ∧ acc = ((ds.take i).map F).flatten) → ((asgG P none (wipeE env own) g d S').bindK fun env1 S1 => (evI P none env1 it1 S1).noX.bindK fun src1 S2 => lcIn P own1 g1 t1 e S.length env1 src1 S2).want (fun _ S3 => Keeps [] S S3 ∧ at_ S3 S.length = some (.lst (acc ++ F d))) fun _ _ => False) :
    ∃ S', lc2S P own g .yes it1 own1 g1 t1 e env src S = .ok (.ref S.length) S' ∧ at_ S' S.length = some (.lst (ds.map F).flatten) ∧ Keeps [] S S' := by
  have key : (lc2S P own g .yes it1 own1 g1 t1 e env src S).want (fun a S' => a = .ref S.length ∧ at_ S' S.length = some (.lst (ds.map F).flatten) ∧ Keeps [] S S') fun _ _ => False := by
    unfold lc2S
    rw [if_pos ho, turns_eq]
    refine lc2Loop_want (ds := ds) (fun i S' => i ≤ ds.length ∧ Keeps [] S S' ∧ at_ S' S.length = some (.lst ((ds.take i).map F).flatten)) (fun i S' h => hn i S' h.2.1) (fun i d S' hd' h => ?_) (fun S' h => ⟨rfl, ?_, h.2.1⟩) _ 0 _ (Nat.zero_le _) (by omega) ⟨Nat.zero_le _, Keeps.app Keeps.refl, by simp⟩
    · obtain ⟨h2, h3, h4⟩ := h
      have hlt := (List.getElem?_eq_some_iff.mp hd').1
      have z := hs d (List.mem_of_getElem? hd') _ S' h3 h4 ⟨i, hd', rfl⟩
      have ht : ds.take (i + 1) = ds.take i ++ [d] := by rw [List.take_add_one, hd']; rfl
      cases ha : asgG P none (wipeE env own) g d S' with
      | err => rw [ha] at z; exact z
      | exc ee S1 => rw [ha] at z; exact z
      | ok env1 S1 =>
        rw [ha] at z
        simp only [bindK_ok] at z
        simp only [bind_ok, s_evT_yes, noX_ok, if_true]
        refine VI.R.want_mono (show ((evI P none env1 it1 S1).noX.bind fun src1 S2 => lcIn P own1 g1 t1 e S.length env1 src1 S2).want _ _ from z) (fun _ S3 hy => ?_) (fun _ _ z => z.elim)
        exact ⟨hlt, hy.1, by rw [hy.2, ht, List.map_append, List.flatten_append]; simp⟩
    · rw [h.2.2, List.take_length]
  obtain ⟨a, S', e, rfl, h⟩ := want_some key
  exact ⟨S', e, h⟩
end
end VI
namespace VI
open PySem L2
theorem lc_use {α : Type} {r : R α} {a : α} {Q : Store → Prop} {k : α → Store → Prop} {x : XC → Store → Prop} (h : ∃ S', r = .ok a S' ∧ Q S') (hk : ∀ S', Q S' → k a S') : r.want k x := by
  obtain ⟨S', rfl, q⟩ := h
  exact hk S' q
theorem sum_at {l : Nat} {S : Store} {is : List Int} (h : at_ S l = some (.lst (is.map .int))) : bltOp .sum [.ref l] S = .ok (.int is.sum) S := by
  rw [blt_sum, getL_eq, h]
  simp only [intsOf_map]
theorem min_at {l : Nat} {S : Store} {is : List Int} (h : at_ S l = some (.lst (is.map .int))) (h0 : is ≠ []) : bltOp .min [.ref l] S = .ok (.int (minI is)) S := by
  rw [blt_min, getL_eq, h]
  simp only [intsOf_map]
  cases is with
  | nil => exact absurd rfl h0
  | cons a r => rfl
theorem max_at {l : Nat} {S : Store} {is : List Int} (h : at_ S l = some (.lst (is.map .int))) (h0 : is ≠ []) : bltOp .max [.ref l] S = .ok (.int (maxI is)) S := by
  rw [blt_max, getL_eq, h]
  simp only [intsOf_map]
  cases is with
  | nil => exact absurd rfl h0
  | cons a r => rfl
theorem minI_spec : ∀ {is : List Int}, is ≠ [] → minI is ∈ is ∧ ∀ x ∈ is, minI is ≤ x
  | [], h => absurd rfl h
  | [i], _ => ⟨by simp [minI], by simp [minI]⟩
  | i :: j :: r, _ => by
    obtain ⟨h1, h2⟩ := minI_spec (is := j :: r) (by simp)
    show (if i ≤ minI (j :: r) then i else minI (j :: r)) ∈ _ ∧ ∀ x ∈ _, (if i ≤ minI (j :: r) then i else minI (j :: r)) ≤ x
    by_cases c : i ≤ minI (j :: r)
    · rw [if_pos c]
      refine ⟨List.mem_cons_self, fun x hx => ?_⟩
      rcases List.mem_cons.mp hx with rfl | hx
      · exact Int.le_refl _
      · exact Int.le_trans c (h2 x hx)
    · rw [if_neg c]
      refine ⟨List.mem_cons_of_mem _ h1, fun x hx => ?_⟩
      rcases List.mem_cons.mp hx with rfl | hx
      · omega
      · exact h2 x hx
/-- a list joined bit by bit -/
theorem flat_acc {α β : Type} (l : List α) (F : α → List β) : ∃ acc : Nat → List β, acc 0 = [] ∧ (∀ j q, l[j]? = some q → acc (j + 1) = acc j ++ F q) ∧ acc l.length = (l.map F).flatten ∧ ∀ j K, (∀ q ∈ l, (F q).length ≤ K) → (acc j).length ≤ l.length * K := by
  have len : ∀ (K : Nat) (l : List α), (∀ q ∈ l, (F q).length ≤ K) → ((l.map F).flatten).length ≤ l.length * K := by
    intro K l
    induction l with
    | nil => intro _; simp
    | cons a l ih =>
      intro h
      have h1 := h a List.mem_cons_self
      have h2 := ih fun d hd => h d (List.mem_cons_of_mem _ hd)
      rw [List.map_cons, List.flatten_cons, List.length_append, List.length_cons, Nat.add_mul]
      omega
  refine ⟨fun j => ((l.take j).map F).flatten, rfl, fun j q h => ?_, by simp, fun j K h => ?_⟩
  · dsimp only
    rw [List.take_add_one, h, List.map_append, List.flatten_append]
    simp
  · refine Nat.le_trans (len K (l.take j) fun q hq => h q (List.mem_of_mem_take hq)) (Nat.mul_le_mul_right _ ?_)
    rw [List.length_take]
    exact Nat.min_le_right _ _
theorem list_of {α : Type} {Φ : α → Prop} {f : α → D} : ∀ {ys : List D}, (∀ (i : Nat) (y : D), ys[i]? = some y → ∃ r, Φ r ∧ y = f r) → ∃ rs : List α, ys = rs.map f ∧ ∀ r ∈ rs, Φ r
  | [], _ => ⟨[], rfl, by simp⟩
  | y :: ys, h => by
    obtain ⟨r, h1, rfl⟩ := h 0 y rfl
    obtain ⟨rs, rfl, h2⟩ := list_of (ys := ys) fun i z hz => h (i + 1) z (by simpa using hz)
    exact ⟨r :: rs, rfl, by simp; exact ⟨h1, h2⟩⟩
theorem ext_of {ys L : List D} (hl : ys.length = L.length) (h : ∀ (i : Nat) (y : D), ys[i]? = some y → L[i]? = some y) : ys = L := by
  apply List.ext_getElem?
  intro i
  cases hy : ys[i]? with
  | some y => exact (h i y hy).symm
  | none =>
    have := List.getElem?_eq_none_iff.mp hy
    exact (List.getElem?_eq_none_iff.mpr (by omega)).symm
theorem live_next {l i : Nat} {S : Store} {ds : List D} (h : at_ S l = some (.lst ds)) : (Src.live l).next i S = some ds[i]? := by
  show (match getL S l with
    | some ds => some ds[i]?
    | none => none) = _
  rw [getL_eq, h]
theorem fold_take {α β : Type} {f : β → α → β} {q : β} {xs : List α} {i : Nat} {x : α} (h : xs[i]? = some x) : (xs.take (i + 1)).foldl f q = f ((xs.take i).foldl f q) x := by
  rw [List.take_add_one, h, List.foldl_append]
  rfl
section
variable {P : Pg} {own : List Nat} {g : G} {e : E} {env : Env} {src : Src} {S : Store}
/-- the same over what a list of another kind is told as -/
theorem lc_mapA {α : Type} (W : List Nat) {xs : List α} {f : α → D} (F : α → D) (ho : (slotsG g).all (own.contains ·) = true) (hl : xs.length < 16777216) (hn : ∀ i S', Keeps W S S' → src.next i S' = some (xs.map f)[i]?)
    (hs : ∀ (i : Nat) a, xs[i]? = some a → ∀ acc S', Keeps W S S' → at_ S' S.length = some (.lst acc) → ((asgG P none (wipeE env own) g (f a) S').bindK fun env1 S1 => (evE P none env1 e S1).noX.bindK fun y S3 => .ok y S3).want (fun y S3 => y = F a ∧ Keeps W S S3 ∧ at_ S3 S.length = some (.lst acc)) fun _ _ => False) :
    ∃ S', lcS P own g .yes e env src S = .ok (.ref S.length) S' ∧ at_ S' S.length = some (.lst (xs.map F)) ∧ Keeps W S S' := by
  have key : (lcS P own g .yes e env src S).want (fun a S' => a = .ref S.length ∧ at_ S' S.length = some (.lst (xs.map F)) ∧ Keeps W S S') fun _ _ => False := by
    refine want_map (ds := xs.map f) (R := fun i y => (xs.map F)[i]? = some y) (fun i S' => Keeps W S S') ho (by rw [List.length_map]; exact hl) (fun i S' h => hn i S' h) (fun i S' c h => h.set_ (Nat.le_refl _)) (Keeps.app Keeps.refl) (fun i d acc S' hd hk ha => ?_) (fun ys S' h1 h2 h3 h4 => ⟨rfl, ?_, h3⟩)
    · rw [List.getElem?_map] at hd
      obtain ⟨a, h1, rfl⟩ := Option.map_eq_some_iff.mp hd
      refine VI.R.want_mono (hs i a h1 acc S' hk ha) (fun y S3 hy => ?_) (fun _ _ z => z)
      exact ⟨by rw [List.getElem?_map, h1, hy.1]; rfl, hy.2⟩
    · have := ext_of (ys := ys) (L := xs.map F) (by rw [h1, List.length_map, List.length_map]) h2
      rw [← this]
      exact h4
  obtain ⟨a, S', e, rfl, h⟩ := want_some key
  exact ⟨S', e, h⟩
end
end VI

set_option Elab.async false
set_option linter.all false
set_option maxRecDepth 100000
/-! printed by gen.py: trees that many laws share. -/
namespace VI.Sh
open PySem L2 VI
/-- is_whole -/
def t3 : Df := ⟨1, 1, (.cons (.ret (.andE (.isi (.var 0) "int") (.notE (.isi (.var 0) "bool"))))
 .nil)⟩
/-- _law_draws -/
def t13 : Df := ⟨1, 1, (.cons (.ret (.lst (.cons (.blt .list (.cons (.var 0) .nil)) (.cons (.int 0) (.cons (.int 0) (.cons (.int 1) .nil))))))
 .nil)⟩
/-- _law_draw -/
def t14 : Df := ⟨4, 2, (.cons (.ife (.and (.val (.cmp .eq (.idx (.var 0) (.int 2)) (.int 0))) (.val (.cmp .lt (.idx (.var 0) (.int 1)) (.blt .len (.cons (.idx (.var 0) (.int 0)) .nil))))) (.cons (.asg (.name 2) (.idx (.idx (.var 0) (.int 0)) (.idx (.var 0) (.int 1))))
 (.cons (.asgI (.var 0) (.int 1) (.bin .add (.idx (.var 0) (.int 1)) (.int 1)))
 (.cons (.ife (.val (.cmp .ge (.var 2) (.bin .pow (.int 10) (.int 18)))) (.cons (.asgI (.var 0) (.int 2) (.var 2))
 .nil) .nil)
 (.cons (.asgI (.var 0) (.int 3) (.bin .mod (.blt .int (.cons (.bin .add (.bin .add (.bin .mul (.idx (.var 0) (.int 3)) (.int 48271)) (.var 2)) (.int 13)) .nil)) (.int 2147483647)))
 .nil)))) .nil)
 (.cons (.ife (.val (.cmp .gt (.idx (.var 0) (.int 2)) (.int 0))) (.cons (.asg (.name 3) (.bin .mod (.blt .int (.cons (.idx (.var 0) (.int 2)) .nil)) (.var 1)))
 (.cons (.asgI (.var 0) (.int 2) (.bin .fdiv (.idx (.var 0) (.int 2)) (.var 1)))
 (.cons (.ret (.var 3))
 .nil))) .nil)
 (.cons (.asgI (.var 0) (.int 3) (.bin .mod (.blt .int (.cons (.bin .add (.bin .mul (.idx (.var 0) (.int 3)) (.int 69621)) (.int 7)) .nil)) (.int 2147483629)))
 (.cons (.ret (.bin .mod (.blt .int (.cons (.bin .fdiv (.idx (.var 0) (.int 3)) (.int 11)) .nil)) (.var 1)))
 .nil))))⟩
/-- _law_same -/
def t15 : Df := ⟨3, 2, (.cons (.ife (.or (.val (.isi (.var 1) "tuple")) (.val (.isi (.var 1) "list"))) (.cons (.ife (.or (.val (.cmp .ne (.isi (.var 1) "tuple") (.isi (.var 0) "tuple"))) (.val (.cmp .ne (.isi (.var 1) "list") (.isi (.var 0) "list")))) (.cons (.ret (.bl false))
 .nil) .nil)
 (.cons (.ife (.val (.cmp .ne (.blt .len (.cons (.var 0) .nil)) (.blt .len (.cons (.var 1) .nil)))) (.cons (.ret (.bl false))
 .nil) .nil)
 (.cons (.ret (.cmp .eq (.blt .len (.cons (.lc (.rng1 (.blt .len (.cons (.var 1) .nil))) [2] (.name 2) (.not (.tru (.call 15 (.cons (.idx (.var 0) (.var 2)) (.cons (.idx (.var 1) (.var 2)) .nil))))) (.var 2)) .nil)) (.int 0)))
 .nil))) .nil)
 (.cons (.ife (.val (.isi (.var 1) "str")) (.cons (.ret (.andE (.isi (.var 0) "str") (.cmp .eq (.var 0) (.var 1))))
 .nil) .nil)
 (.cons (.ife (.val (.cmp .is (.var 1) .non)) (.cons (.ret (.cmp .is (.var 0) .non))
 .nil) .nil)
 (.cons (.ife (.or (.val (.isi (.var 1) "bool")) (.val (.isi (.var 0) "bool"))) (.cons (.ret (.andE (.isi (.var 1) "bool") (.andE (.isi (.var 0) "bool") (.cmp .eq (.var 0) (.var 1)))))
 .nil) .nil)
 (.cons (.ret (.andE (.isi (.var 0) "int") (.andE (.isi (.var 1) "int") (.cmp .eq (.var 0) (.var 1)))))
 .nil)))))⟩
/-- _law_pick -/
def t16 : Df := ⟨2, 2, (.cons (.ret (.idx (.var 1) (.call 14 (.cons (.var 0) (.cons (.blt .len (.cons (.var 1) .nil)) .nil)))))
 .nil)⟩
end VI.Sh

set_option Elab.async false
set_option linter.all false
set_option maxRecDepth 100000
/-! Shm: what the shared defs do. -/
namespace VI.Sh
open PySem L2 VI
/-- a plain whole number -/
def isInt : D → Bool
  | .int _ => true
  | _ => false
@[simp] theorem isInt_int {i : Int} : isInt (.int i) = true := rfl
@[simp] theorem isInt_non : isInt .non = false := rfl
@[simp] theorem isInt_bl {b : Bool} : isInt (.bl b) = false := rfl
@[simp] theorem isInt_str {s : Str} : isInt (.str s) = false := rfl
@[simp] theorem isInt_tup {s : List D} : isInt (.tup s) = false := rfl
/-- plain values that isinstance knows without the store -/
def isPlain : D → Bool
  | .non => true
  | .bl _ => true
  | .int _ => true
  | .str _ => true
  | .tup _ => true
  | _ => false
@[simp] theorem isPlain_int {i : Int} : isPlain (.int i) = true := (rfl)
@[simp] theorem isPlain_non : isPlain .non = true := (rfl)
@[simp] theorem isPlain_bl {b : Bool} : isPlain (.bl b) = true := (rfl)
@[simp] theorem isPlain_str {s : Str} : isPlain (.str s) = true := (rfl)
@[simp] theorem isPlain_tup {s : List D} : isPlain (.tup s) = true := (rfl)
section
variable {T : Tab} {n l m : Nat} {S : Store} {ns : List Int}
theorem whole (h : T.df 3 = some t3) {d : D} (hn : isPlain d = true) : run T (n + 1) 3 [d] S = .ok (.bl (isInt d)) S := by
  obtain ⟨a, S', e, rfl, rfl⟩ := want_some (r := run T (n + 1) 3 [d] S) (k := fun a S' => a = .bl (isInt d) ∧ S' = S) (by
    refine run_i h rfl ?_
    cases d <;> simp [t3, isInt, isPlain] at hn ⊢)
  exact e
/-! ### draws -/
def Draws (l m : Nat) (ns : List Int) (S : Store) : Prop := ∃ a b c : Int, at_ S l = some (.lst [.ref m, .int a, .int b, .int c]) ∧ at_ S m = some (.lst (ns.map .int)) ∧ l ≠ m ∧ 0 ≤ a ∧ 0 ≤ b ∧ 0 ≤ c
theorem Draws.w {a b c : Int} {x : Cell} (h : at_ S m = some (.lst (ns.map .int))) (hl : at_ S l = some x) (ne : l ≠ m) (ha : 0 ≤ a) (hb : 0 ≤ b) (hc : 0 ≤ c) : Draws l m ns (S.set l (.lst [.ref m, .int a, .int b, .int c])) :=
  ⟨a, b, c, by simp [hl], by simp [h, ne], ne, ha, hb, hc⟩
theorem Draws.keep {S' : Store} {W : List Nat} (d : Draws l m ns S) (k : Keeps W S S') (h1 : l ∉ W) (h2 : m ∉ W) : Draws l m ns S' := by
  obtain ⟨a, b, c, e1, e2, r⟩ := d
  exact ⟨a, b, c, k.get e1 h1, k.get e2 h2, r⟩
theorem Draws.is (d : Draws l m ns S) : (at_ S l).isSome = true ∧ (at_ S m).isSome = true := by
  obtain ⟨a, b, c, e1, e2, r⟩ := d
  exact ⟨at_is e1, at_is e2⟩
theorem draws (h : T.df 13 = some t13) : run T (n + 1) 13 [.rol (ns.map .int)] S = .ok (.ref (S.length + 1)) (S ++ [.lst (ns.map .int), .lst [.ref S.length, .int 0, .int 0, .int 1]]) := by
  obtain ⟨a, S', e, rfl, rfl⟩ := want_some (r := run T (n + 1) 13 [.rol (ns.map .int)] S) (k := fun a S' => a = .ref (S.length + 1) ∧ S' = S ++ [.lst (ns.map .int), .lst [.ref S.length, .int 0, .int 0, .int 1]]) (by
    refine run_i h rfl ?_
    simp [t13])
  exact e
theorem draw (h : T.df 14 = some t14) {lim : Int} (h1 : 0 < lim) (h2 : lim < 1073741824) (hd : Draws l m ns S) :
    ∃ (v : Int) (S' : Store), run T (n + 1) 14 [.ref l, .int lim] S = .ok (.int v) S' ∧ 0 ≤ v ∧ v < lim ∧ Draws l m ns S' ∧ Keeps [l] S S' ∧ S'.length = S.length := by
  obtain ⟨a, b, c, e1, e2, ne, ha, hb, hc⟩ := hd
  have key : (run T (n + 1) 14 [.ref l, .int lim] S).want (fun d S' => ∃ v : Int, d = .int v ∧ 0 ≤ v ∧ v < lim ∧ Draws l m ns S' ∧ Keeps [l] S S' ∧ S'.length = S.length) fun _ _ => False := by
    refine run_i h rfl ?_
    simp [t14, e1, e2]
    by_cases c1 : b = 0 ∧ a < ns.length
    · obtain ⟨rfl, c2⟩ := c1
      have hx : ∃ x, ns[a.toNat]? = some x := ⟨_, List.getElem?_eq_getElem (by omega)⟩
      obtain ⟨x, hx⟩ := hx
      have hx2 : atI (ns.map D.int) a = some (.int x) := atI_at ha (by rw [List.getElem?_map, hx]; rfl)
      by_cases c3 : 1000000000000000000 ≤ x
      · simp [c2, e1, e2, hx2, ne, c3, h1, h2, show 0 < x by omega]
        exact ⟨Int.emod_nonneg _ (by omega), Int.emod_lt_of_pos _ h1, Draws.w e2 e1 ne (by omega) (Int.ediv_nonneg (by omega) (by omega)) (Int.emod_nonneg _ (by omega)), Keeps.set Keeps.refl (.inl (by simp))⟩
      · simp [c2, e1, e2, hx2, ne, c3, h1, h2]
        exact ⟨Int.emod_nonneg _ (by omega), Int.emod_lt_of_pos _ h1, Draws.w e2 e1 ne (by omega) (by omega) (Int.emod_nonneg _ (by omega)), Keeps.set Keeps.refl (.inl (by simp))⟩
    · have c0 : (if b = 0 then (R.ok (decide (a < (ns.length : Int))) S : R Bool) else R.ok false S) = .ok false S := by
        by_cases hb0 : b = 0
        · rw [if_pos hb0]
          congr 1
          exact decide_eq_false (fun z => c1 ⟨hb0, z⟩)
        · rw [if_neg hb0]
      rw [c0]
      by_cases c4 : 0 < b
      · simp [e1, e2, ne, c4, h1, h2]
        exact ⟨Int.emod_nonneg _ (by omega), Int.emod_lt_of_pos _ h1, Draws.w e2 e1 ne (by omega) (Int.ediv_nonneg (by omega) (by omega)) (by omega), Keeps.set Keeps.refl (.inl (by simp))⟩
      · simp [e1, e2, ne, c4, h1, h2]
        exact ⟨Int.emod_nonneg _ (by omega), Int.emod_lt_of_pos _ h1, Draws.w e2 e1 ne (by omega) (by omega) (Int.emod_nonneg _ (by omega)), Keeps.set Keeps.refl (.inl (by simp))⟩
  obtain ⟨d, S', e, v, rfl, r⟩ := want_some key
  exact ⟨v, S', e, r⟩
/-- row[draw]: one of them -/
theorem pick (h : T.df 14 = some t14) (h16 : T.df 16 = some t16) {k : Nat} {ds : List D} (hk : at_ S k = some (.lst ds)) (hne : k ≠ l) (h1 : 0 < ds.length) (h2 : ds.length < 1073741824) (hd : Draws l m ns S) :
    ∃ (j : Nat) (d : D) (S' : Store), run T (n + 1 + 1) 16 [.ref l, .ref k] S = .ok d S' ∧ ds[j]? = some d ∧ Draws l m ns S' ∧ Keeps [l] S S' ∧ S'.length = S.length := by
  obtain ⟨v, S', e, v0, v1, d', kp, hl⟩ := draw (n := n) (T := T) h (S := S) (lim := ds.length) (by omega) (by omega) hd
  have hx : ∃ x, ds[v.toNat]? = some x := ⟨_, List.getElem?_eq_getElem (by omega)⟩
  obtain ⟨x, hx⟩ := hx
  have hk' := kp.get hk (by simpa using hne)
  have key : (run T (n + 1 + 1) 16 [.ref l, .ref k] S).want (fun d S'' => d = x ∧ S'' = S') fun _ _ => False := by
    refine run_i h16 rfl ?_
    simp [t16, hk, e, hk', atI_at v0 hx]
  obtain ⟨d, S'', e', rfl, rfl⟩ := want_some key
  exact ⟨_, _, _, e', hx, d', kp, hl⟩
/-! ### the same -/
def Sm (S : Store) : Nat → D → D → Prop
  | 0, _, _ => False
  | n + 1, x, y => match y with
    | .tup ys => ∃ xs, x = .tup xs ∧ xs.length = ys.length ∧ ys.length ≤ 16777216 ∧ ∀ (i : Nat) a b, xs[i]? = some a → ys[i]? = some b → Sm S n a b
    | .ref l => ∃ ys k xs, at_ S l = some (.lst ys) ∧ x = .ref k ∧ at_ S k = some (.lst xs) ∧ xs.length = ys.length ∧ ys.length ≤ 16777216 ∧ ∀ (i : Nat) a b, xs[i]? = some a → ys[i]? = some b → Sm S n a b
    | .int i => x = .int i
    | .bl b => x = .bl b
    | .str s => x = .str s
    | .non => x = .non
    | _ => False
theorem Sm.keep {S' : Store} (k : Keeps [] S S') : ∀ {n : Nat} {x y : D}, Sm S n x y → Sm S' n x y
  | 0, x, y, h => h
  | n + 1, x, y, h => by
    cases y with
    | tup ys =>
      obtain ⟨xs, h1, h2, h3, h4⟩ := h
      exact ⟨xs, h1, h2, h3, fun i a b ha hb => Sm.keep k (h4 i a b ha hb)⟩
    | ref l =>
      obtain ⟨ys, kk, xs, h0, h1, h2, h3, h4, h5⟩ := h
      exact ⟨ys, kk, xs, k.get h0 (by simp), h1, k.get h2 (by simp), h3, h4, fun i a b ha hb => Sm.keep k (h5 i a b ha hb)⟩
    | int i => exact h
    | bl i => exact h
    | str i => exact h
    | non => exact h
    | rol _ => exact h
    | ty _ => exact h
    | cls _ => exact h
    | fn _ => exact h
theorem same (h : T.df 15 = some t15) : ∀ {n : Nat} {x y : D} {S : Store}, Sm S n x y → ∃ S', run T n 15 [x, y] S = .ok (.bl true) S' ∧ Keeps [] S S'
  | 0, x, y, S, q => q.elim
  | n + 1, x, y, S, q => by
    have key : (run T (n + 1) 15 [x, y] S).want (fun d S' => d = .bl true ∧ Keeps [] S S') fun _ _ => False := by
      refine run_i h rfl ?_
      -- the comprehension, both kinds
      have lc : ∀ (ys xs : List D) (x' y' : D) (w : Sl), xs.length = ys.length → ys.length ≤ 16777216 → (∀ S', Keeps [] S S' → ∀ i : Nat, i < ys.length → idxOp x' (.int (i : Int)) S' = xs[i]? ∧ idxOp y' (.int (i : Int)) S' = ys[i]?) → (∀ (i : Nat) a b, xs[i]? = some a → ys[i]? = some b → Sm S n a b) →
          (lcS (pgAt T n) [2] (.name 2) (.not (.tru (.call 15 (.cons (.idx (.var 0) (.var 2)) (.cons (.idx (.var 1) (.var 2)) .nil))))) (.var 2) [.val x', .val y', w] (.fix (rngD 0 1 ys.length)) S).want (fun d S' => d = .ref S.length ∧ at_ S' S.length = some (.lst []) ∧ Keeps [] S S') fun _ _ => False := by
        intro ys xs x' y' w h1 h2 h3 h4
        refine want_lc (ds := rngD 0 1 ys.length) (fun i acc S' => acc = [] ∧ at_ S' S.length = some (.lst []) ∧ Keeps [] S S') rfl (by rw [rngD_len]; omega) (fun _ _ _ _ => rfl) (fun i acc S' hI => ⟨by rw [hI.1]; exact hI.2.1, by rw [hI.1]; simp⟩) ⟨rfl, by simp, Keeps.app Keeps.refl⟩ (fun i d acc S' hd hI => ?_) (fun acc S' hI => ⟨rfl, hI.2.1, hI.2.2⟩)
        obtain ⟨rfl, hi⟩ := rngD_at hd
        obtain ⟨rfl, h5, h6⟩ := hI
        obtain ⟨e1, e2⟩ := h3 S' h6 i hi
        obtain ⟨a, ha⟩ : ∃ a, xs[i]? = some a := ⟨_, List.getElem?_eq_getElem (by omega)⟩
        obtain ⟨b, hb⟩ : ∃ b, ys[i]? = some b := ⟨_, List.getElem?_eq_getElem hi⟩
        obtain ⟨S2, e3, k3⟩ := same h ((h4 i a b ha hb).keep h6)
        rw [ha] at e1
        rw [hb] at e2
        simp [e1, e2, e3]
        exact ⟨k3.get h5 (by simp), h6.trans k3⟩
      cases y with
      | tup ys =>
        obtain ⟨xs, rfl, h2, h3, h4⟩ := q
        simp [t15, h2, show -(2 ^ 62) ≤ (ys.length : Int) by omega, show (ys.length : Int) < 4611686018427387904 by omega]
        obtain ⟨d, S', e, rfl, hS, hk⟩ := want_some (lc ys xs (.tup xs) (.tup ys) .no h2 h3 (fun S' _ i hi => ⟨by
          show atI xs (i : Int) = _
          exact (atI_nat (List.getElem?_eq_getElem (by omega))).trans (List.getElem?_eq_getElem (by omega)).symm, by
          show atI ys (i : Int) = _
          exact (atI_nat (List.getElem?_eq_getElem (by omega))).trans (List.getElem?_eq_getElem (by omega)).symm⟩) h4)
        simp [e, hS, hk]
      | ref l =>
        obtain ⟨ys, kk, xs, h0, rfl, h2, h3, h4, h5⟩ := q
        simp [t15, h3, isi_lst_tuple h0, isi_lst_list h0, isi_lst_tuple h2, isi_lst_list h2, h0, h2, show -(2 ^ 62) ≤ (ys.length : Int) by omega, show (ys.length : Int) < 4611686018427387904 by omega]
        obtain ⟨d, S', e, rfl, hS, hk⟩ := want_some (lc ys xs (.ref kk) (.ref l) .no h3 h4 (fun S' k i hi => ⟨by
          rw [idx_ref, getL_eq, k.get h2 (by simp)]
          exact (atI_nat (List.getElem?_eq_getElem (by omega))).trans (List.getElem?_eq_getElem (by omega)).symm, by
          rw [idx_ref, getL_eq, k.get h0 (by simp)]
          exact (atI_nat (List.getElem?_eq_getElem (by omega))).trans (List.getElem?_eq_getElem (by omega)).symm⟩) h5)
        simp [e, hS, hk]
      | int i => cases q; simp [t15, Keeps.refl]
      | bl i => cases q; simp [t15, Keeps.refl]
      | str i => cases q; simp [t15, Keeps.refl]
      | non => cases q; simp [t15, Keeps.refl]
      | rol _ => exact q.elim
      | ty _ => exact q.elim
      | cls _ => exact q.elim
      | fn _ => exact q.elim
    obtain ⟨d, S', e, rfl, r⟩ := want_some key
    exact ⟨S', e, r⟩
end
end VI.Sh

set_option Elab.async false
set_option linter.all false
set_option maxRecDepth 100000
set_option maxHeartbeats 2000000
/-! VIv: == of data at any depth. -/
namespace VI
open PySem L2
theorem noExc_cons {e : Sl} {r : Env} : noExc (e :: r) = (e.ok && noExc r) := by cases e <;> rfl
/-- d is read as p -/
structure Py (S : Store) (n : Nat) (d : D) (p : PyData) : Prop where
  e : toPy (n + 1) S d = some p
  c : p.canLay0 = true
  h : p.depth ≤ n
section
variable {S : Store} {n : Nat}
theorem Py.int {i : Int} : Py S n (.int i) (.int i) := ⟨rfl, rfl, Nat.zero_le _⟩
theorem Py.bl {b : Bool} : Py S n (.bl b) (.bool b) := ⟨rfl, rfl, Nat.zero_le _⟩
theorem Py.non : Py S n .non .none := ⟨rfl, rfl, Nat.zero_le _⟩
theorem Py.str {s : Str} (h : PyData.canLay0 (.str s) = true) : Py S n (.str s) (.str s) := ⟨rfl, h, Nat.zero_le _⟩
inductive Pys (S : Store) (n : Nat) : List D → List PyData → Prop
  | nil : Pys S n [] []
  | cons {d : D} {p : PyData} {ds : List D} {ps : List PyData} : Py S n d p → Pys S n ds ps → Pys S n (d :: ds) (p :: ps)
theorem Pys.map {α : Type} {f : α → D} {g : α → PyData} (h : ∀ a, Py S n (f a) (g a)) : ∀ xs : List α, Pys S n (xs.map f) (xs.map g)
  | [] => .nil
  | a :: r => .cons (h a) (Pys.map h r)
theorem Pys.mapIn {α : Type} {f : α → D} {g : α → PyData} : ∀ {xs : List α}, (∀ a ∈ xs, Py S n (f a) (g a)) → Pys S n (xs.map f) (xs.map g)
  | [], _ => .nil
  | a :: r, h => .cons (h a List.mem_cons_self) (Pys.mapIn fun b hb => h b (List.mem_cons_of_mem _ hb))
theorem Pys.facts : ∀ {ds : List D} {ps : List PyData}, Pys S n ds ps → optAll (ds.map (toPy (n + 1) S)) = some ps ∧ PyData.canLayAll0 ps = true ∧ PyData.depthAll ps ≤ n
  | _, _, .nil => ⟨rfl, rfl, Nat.zero_le _⟩
  | _, _, .cons (d := d) (p := p) (ds := ds) (ps := ps) h t => by
    obtain ⟨h1, h2, h3⟩ := Pys.facts t
    refine ⟨?_, ?_, ?_⟩
    · rw [List.map_cons, h.e]
      unfold optAll
      rw [h1]
    · show (p.canLay0 && PyData.canLayAll0 ps) = true
      rw [h.c, h2]; rfl
    · show max p.depth (PyData.depthAll ps) ≤ n
      have := h.h
      omega
theorem Py.tup {ds : List D} {ps : List PyData} (h : Pys S n ds ps) : Py S (n + 1) (.tup ds) (.tuple ps) := by
  obtain ⟨h1, h2, h3⟩ := h.facts
  refine ⟨?_, h2, Nat.succ_le_succ h3⟩
  unfold toPy
  dsimp only
  rw [h1]
theorem Py.lst {l : Nat} {ds : List D} {ps : List PyData} (a : at_ S l = some (.lst ds)) (h : Pys S n ds ps) : Py S (n + 1) (.ref l) (.list ps) := by
  obtain ⟨h1, h2, h3⟩ := h.facts
  refine ⟨?_, h2, Nat.succ_le_succ h3⟩
  unfold toPy
  dsimp only
  rw [getL_eq, a]
  dsimp only
  rw [h1]
theorem Py.scal {x y : D} {p : PyData} (hx : Py S n x p) (hy : Py S n y p) (h : scalD x y = true) : sameD x y = true := by
  have e1 := hx.e
  have e2 := hy.e
  unfold toPy at e1 e2
  cases x <;> cases y <;> first
    | (cases h; done)
    | (dsimp only at e1 e2
       cases e1 <;> cases e2 <;> simp [sameD])
theorem eq_same {x y : D} {p : PyData} (hx : Py S 29 x p) (hy : Py S 29 y p) : eqOp x y S = some true := by
  unfold eqOp
  by_cases h : scalD x y = true
  · rw [if_pos h, hx.scal hy h]
  · rw [if_neg h, hx.e, hy.e]
    have hs : SeqAt.shaped p = true := by
      unfold SeqAt.shaped
      rw [hx.c]
      have := hx.h
      simp
      omega
    show (if (SeqAt.shaped p && SeqAt.shaped p) = true then some (PyData.eqv p p) else none) = some true
    rw [hs, PySem.SeqAt.eqv_refl _ (SeqAt.canLay_of_shaped hs)]
    rfl
end
end VI

set_option Elab.async false
set_option linter.all false
set_option maxRecDepth 100000
set_option maxHeartbeats 2000000
/-! VIn: comprehensions and loops over what is written out: one turn after the other. -/
namespace VI
open PySem L2
section
variable (P : Pg) (own : List Nat) (g : G) (t : T) (e : E) (env : Env) (l : Nat)
def lcFix : List D → Store → R D
  | [], S => .ok (.ref l) S
  | d :: ds, S => (asgG P none (wipeE env own) g d S).bind fun env1 S1 => (evT P none env1 t S1).noX.bind fun b S2 => if b then (evE P none env1 e S2).noX.bind fun x S3 => (match S3[l]? with
          | some (.lst acc) => if acc.length < LIM then lcFix ds (S3.set l (.lst (acc ++ [x]))) else .err
          | _ => .err) else lcFix ds S2
def lcPush (ds : List D) (x : D) (S : Store) (_ : Dum ds := dum) : R D := match S[l]? with
          | some (.lst acc) => if acc.length < LIM then lcFix P own g t e env l ds (S.set l (.lst (acc ++ [x]))) else .err
          | _ => .err
def lcTest (ds : List D) (env1 : Env) (b : Bool) (S : Store) (_ : Dum ds := dum) : R D := if b then (evE P none env1 e S).noX.bindK fun x S3 => lcPush P own g t e env l ds x S3 else lcFix P own g t e env l ds S
end
section
variable {P : Pg} {own : List Nat} {g : G} {t : T} {e : E} {env env1 : Env} {l : Nat} {d x : D} {ds acc : List D} {S : Store}
theorem lcFix_nil : lcFix P own g t e env l [] S = .ok (.ref l) S := (rfl)
theorem lcFix_cons : lcFix P own g t e env l (d :: ds) S = ((asgG P none (wipeE env own) g d S).bindK fun env1 S1 => (evT P none env1 t S1).noX.bindK fun b S2 => lcTest P own g t e env l ds env1 b S2) := (rfl)
theorem lcTest_true {u} : lcTest P own g t e env l ds env1 true S u = ((evE P none env1 e S).noX.bindK fun x S3 => lcPush P own g t e env l ds x S3) := (rfl)
theorem lcTest_false {u} : lcTest P own g t e env l ds env1 false S u = lcFix P own g t e env l ds S := (rfl)
theorem lcPush_eq {u} (h : at_ S l = some (.lst acc)) (hl : acc.length < 16777216) : lcPush P own g t e env l ds x S u = lcFix P own g t e env l ds (S.set l (.lst (acc ++ [x]))) := by
  unfold lcPush
  have h' : S[l]? = some (.lst acc) := h
  rw [h']
  exact if_pos hl
theorem lcLoop_fix (all : List D) : ∀ (ds : List D) (m i : Nat) (S : Store), all.drop i = ds → ds.length < m → lcLoop (.fix all) (fun d env S => asgG P none env g d S) (wipeE env own) (fun env S => (evT P none env t S).noX) (fun env S => (evE P none env e S).noX) l m i S = lcFix P own g t e env l ds S
  | ds, 0, i, S, h, hl => absurd hl (Nat.not_lt_zero _)
  | [], m + 1, i, S, h, hl => by
    unfold lcLoop
    have e : all[i]? = none := List.getElem?_eq_none (List.drop_eq_nil_iff.mp h)
    rw [show (Src.fix all).next i S = some none from congrArg some e]
    rfl
  | d :: ds, m + 1, i, S, h, hl => by
    have hi : i < all.length := by
      rcases Nat.lt_or_ge i all.length with c | c
      · exact c
      · rw [List.drop_eq_nil_of_le c] at h
        cases h
    have e : all[i]? = some d := by
      have := List.drop_eq_getElem_cons hi
      rw [h] at this
      rw [List.getElem?_eq_getElem hi, (List.cons.inj this).1]
    have h' : all.drop (i + 1) = ds := by
      have := List.drop_eq_getElem_cons hi
      rw [h] at this
      exact (List.cons.inj this).2.symm
    have ih := fun S => lcLoop_fix all ds m (i + 1) S h' (Nat.lt_of_succ_lt_succ hl)
    unfold lcLoop lcFix
    rw [show (Src.fix all).next i S = some (some d) from congrArg some e]
    dsimp only
    simp only [ih]
    try rfl
theorem lcS_fix {u} (h : ds.length < 1000000000000) : lcS P own g t e env (.fix ds) S u = if (slotsG g).all (own.contains ·) then lcFix P own g t e env S.length ds (S ++ [.lst []]) else .err := by
  unfold lcS
  split
  · exact lcLoop_fix ds ds turns 0 _ rfl (by rw [turns_eq]; exact h)
  · rfl
end
/-! loops -/
section
variable (P : Pg) (xc : Option XC) (g : G) (b : Ss)
def forFix : List D → Env → Store → RS
  | [], env, S => .ok .nx env S
  | d :: ds, env, S => (asgG P xc env g d S).toS env fun env1 S1 => match exSs P xc b env1 S1 with
      | .ok .nx env2 S2 => forFix ds env2 S2
      | .ok .ct env2 S2 => forFix ds env2 S2
      | .ok .bk env2 S2 => .ok .nx env2 S2
      | r => r
def forEnd (ds : List D) (r : RS) (_ : Dum ds := dum) : RS := match r with
      | .ok .nx env2 S2 => forFix P xc g b ds env2 S2
      | .ok .ct env2 S2 => forFix P xc g b ds env2 S2
      | .ok .bk env2 S2 => .ok .nx env2 S2
      | r => r
end
section
variable {P : Pg} {xc : Option XC} {g : G} {b : Ss} {d : D} {ds : List D} {env : Env} {S : Store}
theorem forFix_nil : forFix P xc g b [] env S = .ok .nx env S := (rfl)
theorem forFix_cons : forFix P xc g b (d :: ds) env S = ((asgG P xc env g d S).toK env fun env1 S1 => forEnd P xc g b ds (exSs P xc b env1 S1)) := (rfl)
theorem forEnd_nx {u} : forEnd P xc g b ds (.ok .nx env S) u = forFix P xc g b ds env S := (rfl)
theorem forEnd_ct {u} : forEnd P xc g b ds (.ok .ct env S) u = forFix P xc g b ds env S := (rfl)
theorem forEnd_bk {u} : forEnd P xc g b ds (.ok .bk env S) u = .ok .nx env S := (rfl)
theorem forEnd_rt {u} : forEnd P xc g b ds (.ok (.rt d) env S) u = .ok (.rt d) env S := (rfl)
theorem forEnd_exc {u x} : forEnd P xc g b ds (.exc x env S) u = .exc x env S := (rfl)
theorem forLoop_fix (all : List D) : ∀ (ds : List D) (m i : Nat) (env : Env) (S : Store), all.drop i = ds → ds.length < m → forLoop (.fix all) (fun d env S => asgG P xc env g d S) (fun env S => exSs P xc b env S) m i env S = forFix P xc g b ds env S
  | ds, 0, i, env, S, h, hl => absurd hl (Nat.not_lt_zero _)
  | [], m + 1, i, env, S, h, hl => by
    unfold forLoop
    have e : all[i]? = none := List.getElem?_eq_none (List.drop_eq_nil_iff.mp h)
    rw [show (Src.fix all).next i S = some none from congrArg some e]
    rfl
  | d :: ds, m + 1, i, env, S, h, hl => by
    have hi : i < all.length := by
      rcases Nat.lt_or_ge i all.length with c | c
      · exact c
      · rw [List.drop_eq_nil_of_le c] at h
        cases h
    have e : all[i]? = some d := by
      have := List.drop_eq_getElem_cons hi
      rw [h] at this
      rw [List.getElem?_eq_getElem hi, (List.cons.inj this).1]
    have h' : all.drop (i + 1) = ds := by
      have := List.drop_eq_getElem_cons hi
      rw [h] at this
      exact (List.cons.inj this).2.symm
    have ih := fun env S => forLoop_fix all ds m (i + 1) env S h' (Nat.lt_of_succ_lt_succ hl)
    unfold forLoop forFix
    rw [show (Src.fix all).next i S = some (some d) from congrArg some e]
    dsimp only
    simp only [ih]
    try rfl
theorem forS_fix {u} (h : ds.length < 1000000000000) : forS P xc g b (.fix ds) env S u = forFix P xc g b ds env S := by
  unfold forS
  exact forLoop_fix ds ds turns 0 _ _ rfl (by rw [turns_eq]; exact h)
end
end VI

set_option Elab.async false
set_option linter.all false
set_option maxRecDepth 100000
/-! printed by gen.py: the predictor's trees. -/
namespace VI.Pr
open PySem L2 VI
/-- is_kind -/
def t4 : Df := ⟨1, 1, (.cons (.ife (.or (.not (.val (.isi (.var 0) "tuple"))) (.or (.val (.cmp .eq (.blt .len (.cons (.var 0) .nil)) (.int 0))) (.not (.val (.isi (.idx (.var 0) (.int 0)) "str"))))) (.cons (.ret (.bl false))
 .nil) .nil)
 (.cons (.ife (.val (.cmp .inn (.idx (.var 0) (.int 0)) (.gcon 1))) (.cons (.ret (.cmp .eq (.blt .len (.cons (.var 0) .nil)) (.int 1)))
 .nil) .nil)
 (.cons (.ife (.or (.val (.cmp .nin (.idx (.var 0) (.int 0)) (.tup (.cons (.str "one") (.cons (.str "two") (.cons (.str "past") .nil)))))) (.val (.cmp .ne (.blt .len (.cons (.var 0) .nil)) (.ife (.val (.cmp .eq (.idx (.var 0) (.int 0)) (.str "past"))) (.int 3) (.int 2))))) (.cons (.ret (.bl false))
 .nil) .nil)
 (.cons (.ife (.or (.not (.tru (.call 3 (.cons (.idx (.var 0) (.int 1)) .nil)))) (.not (.val (.chain .le .le (.int 1) (.idx (.var 0) (.int 1)) (.int 64))))) (.cons (.ret (.bl false))
 .nil) .nil)
 (.cons (.ret (.orE (.cmp .ne (.idx (.var 0) (.int 0)) (.str "past")) (.andE (.call 3 (.cons (.idx (.var 0) (.int 2)) .nil)) (.chain .le .le (.int 0) (.idx (.var 0) (.int 2)) (.int 6)))))
 .nil)))))⟩
/-- look_at_kind -/
def t5 : Df := ⟨1, 1, (.cons (.ife (.not (.tru (.call 4 (.cons (.var 0) .nil)))) (.cons (.raise 2 (.init ["word"]) (.cons (.str "kind") .nil))
 .nil) .nil)
 .nil)⟩
/-- look_at_index -/
def t6 : Df := ⟨1, 1, (.cons (.ife (.or (.not (.tru (.call 3 (.cons (.var 0) .nil)))) (.not (.val (.chain .le .le (.int 0) (.var 0) (.int 65535))))) (.cons (.raise 3 (.init ["word"]) (.cons (.str "index") .nil))
 .nil) .nil)
 .nil)⟩
/-- Predictor.__init__ -/
def t7 : Df := ⟨2, 2, (.cons (.drop (.call 5 (.cons (.var 1) .nil)))
 (.cons (.asgF (.var 0) "kind" (.var 1))
 (.cons (.asgF (.var 0) "past" (.int 0))
 (.cons (.asgF (.var 0) "counters" (.bin .mul (.lst (.cons (.int 1) .nil)) (.ife (.val (.cmp .gt (.blt .len (.cons (.var 1) .nil)) (.int 1))) (.idx (.var 1) (.int 1)) (.int 0))))
 .nil))))⟩
/-- Predictor.spot_of -/
def t8 : Df := ⟨2, 2, (.cons (.ret (.bin .mod (.ife (.val (.cmp .eq (.idx (.fld (.var 0) "kind") (.int 0)) (.str "past"))) (.bin .xor (.var 1) (.fld (.var 0) "past")) (.var 1)) (.idx (.fld (.var 0) "kind") (.int 1))))
 .nil)⟩
/-- Predictor.guess -/
def t9 : Df := ⟨4, 3, (.cons (.drop (.call 6 (.cons (.var 1) .nil)))
 (.cons (.drop (.call 6 (.cons (.var 2) .nil)))
 (.cons (.asg (.name 3) (.idx (.fld (.var 0) "kind") (.int 0)))
 (.cons (.ife (.val (.cmp .inn (.var 3) (.gcon 1))) (.cons (.ret (.orE (.cmp .eq (.var 3) (.str "always")) (.andE (.cmp .eq (.var 3) (.str "behind")) (.cmp .le (.var 2) (.var 1)))))
 .nil) .nil)
 (.cons (.ret (.cmp .ge (.idx (.fld (.var 0) "counters") (.meth "spot_of" [(4, 8)] (.var 0) (.cons (.var 1) .nil))) (.int 2)))
 .nil)))))⟩
/-- Predictor.learn -/
def t10 : Df := ⟨4, 3, (.cons (.drop (.call 6 (.cons (.var 1) .nil)))
 (.cons (.ife (.and (.val (.cmp .isn (.var 2) (.bl true))) (.val (.cmp .isn (.var 2) (.bl false)))) (.cons (.raise 3 (.init ["word"]) (.cons (.str "taken") .nil))
 .nil) .nil)
 (.cons (.ife (.val (.cmp .inn (.idx (.fld (.var 0) "kind") (.int 0)) (.gcon 1))) (.cons .retN
 .nil) .nil)
 (.cons (.asg (.name 3) (.meth "spot_of" [(4, 8)] (.var 0) (.cons (.var 1) .nil)))
 (.cons (.ife (.val (.cmp .eq (.idx (.fld (.var 0) "kind") (.int 0)) (.str "one"))) (.cons (.asgI (.fld (.var 0) "counters") (.var 3) (.ife (.tru (.var 2)) (.int 2) (.int 1)))
 .nil) (.cons (.asgI (.fld (.var 0) "counters") (.var 3) (.ife (.tru (.var 2)) (.blt .min2 (.cons (.int 3) (.cons (.bin .add (.idx (.fld (.var 0) "counters") (.var 3)) (.int 1)) .nil))) (.blt .max2 (.cons (.int 0) (.cons (.bin .sub (.idx (.fld (.var 0) "counters") (.var 3)) (.int 1)) .nil)))))
 .nil))
 (.cons (.ife (.val (.cmp .eq (.idx (.fld (.var 0) "kind") (.int 0)) (.str "past"))) (.cons (.asgF (.var 0) "past" (.bin .mod (.bin .add (.bin .mul (.int 2) (.fld (.var 0) "past")) (.blt .int (.cons (.var 2) .nil))) (.bin .shl (.int 1) (.idx (.fld (.var 0) "kind") (.int 2)))))
 .nil) .nil)
 .nil))))))⟩
/-- Predictor.told -/
def t11 : Df := ⟨1, 1, (.cons (.ret (.tup (.cons (.blt .tuple (.cons (.fld (.var 0) "counters") .nil)) (.cons (.fld (.var 0) "past") .nil))))
 .nil)⟩
/-- Predictor.copied -/
def t12 : Df := ⟨2, 1, (.cons (.asg (.name 1) (.mk 4 7 (.cons (.fld (.var 0) "kind") .nil)))
 (.cons (.asgF (.var 1) "past" (.fld (.var 0) "past"))
 (.cons (.asgF (.var 1) "counters" (.blt .list (.cons (.fld (.var 0) "counters") .nil)))
 (.cons (.ret (.var 1))
 .nil))))⟩
/-- _law_fresh -/
def t17 : Df := ⟨1, 1, (.cons (.ret (.lst (.cons (.bin .mul (.lst (.cons (.int 1) .nil)) (.ife (.val (.cmp .gt (.blt .len (.cons (.var 0) .nil)) (.int 1))) (.idx (.var 0) (.int 1)) (.int 0))) (.cons (.int 0) .nil))))
 .nil)⟩
/-- _law_counter -/
def t18 : Df := ⟨4, 3, (.cons (.asg (.name 3) (.ife (.val (.cmp .eq (.idx (.var 0) (.int 0)) (.str "past"))) (.bin .xor (.var 2) (.idx (.var 1) (.int 1))) (.var 2)))
 (.cons (.ret (.bin .mod (.blt .int (.cons (.var 3) .nil)) (.idx (.var 0) (.int 1))))
 .nil))⟩
/-- _law_guess -/
def t19 : Df := ⟨4, 4, (.cons (.ife (.val (.cmp .inn (.idx (.var 0) (.int 0)) (.tup (.cons (.str "never") (.cons (.str "always") (.cons (.str "behind") .nil)))))) (.cons (.ret (.orE (.cmp .eq (.idx (.var 0) (.int 0)) (.str "always")) (.andE (.cmp .eq (.idx (.var 0) (.int 0)) (.str "behind")) (.cmp .le (.var 3) (.var 2)))))
 .nil) .nil)
 (.cons (.ret (.cmp .gt (.idx (.idx (.var 1) (.int 0)) (.call 18 (.cons (.var 0) (.cons (.var 1) (.cons (.var 2) .nil))))) (.int 1)))
 .nil))⟩
/-- _law_learn -/
def t20 : Df := ⟨6, 4, (.cons (.ife (.val (.cmp .inn (.idx (.var 0) (.int 0)) (.tup (.cons (.str "one") (.cons (.str "two") (.cons (.str "past") .nil)))))) (.cons (.asg (.name 4) (.call 18 (.cons (.var 0) (.cons (.var 1) (.cons (.var 2) .nil)))))
 (.cons (.asg (.name 5) (.idx (.idx (.var 1) (.int 0)) (.var 4)))
 (.cons (.asgI (.idx (.var 1) (.int 0)) (.var 4) (.ife (.val (.cmp .eq (.idx (.var 0) (.int 0)) (.str "one"))) (.ife (.tru (.var 3)) (.int 2) (.int 1)) (.ife (.tru (.var 3)) (.blt .min2 (.cons (.int 3) (.cons (.bin .add (.var 5) (.int 1)) .nil))) (.blt .max2 (.cons (.int 0) (.cons (.bin .sub (.var 5) (.int 1)) .nil))))))
 (.cons (.ife (.val (.cmp .eq (.idx (.var 0) (.int 0)) (.str "past"))) (.cons (.asgI (.var 1) (.int 1) (.bin .mod (.blt .int (.cons (.bin .add (.bin .mul (.int 2) (.idx (.var 1) (.int 1))) (.ife (.tru (.var 3)) (.int 1) (.int 0))) .nil)) (.bin .shl (.int 1) (.idx (.var 0) (.int 2)))))
 .nil) .nil)
 .nil)))) .nil)
 .nil)⟩
/-- _law_kind -/
def t21 : Df := ⟨2, 1, (.cons (.asg (.name 1) (.call 16 (.cons (.var 0) (.cons (.lst (.cons (.int 1) (.cons (.int 2) (.cons (.int 3) (.cons (.int 4) (.cons (.int 7) (.cons (.int 16) (.cons (.int 64) .nil)))))))) .nil))))
 (.cons (.ret (.call 16 (.cons (.var 0) (.cons (.lst (.cons (.tup (.cons (.str "never") .nil)) (.cons (.tup (.cons (.str "always") .nil)) (.cons (.tup (.cons (.str "behind") .nil)) (.cons (.tup (.cons (.str "one") (.cons (.var 1) .nil))) (.cons (.tup (.cons (.str "two") (.cons (.var 1) .nil))) (.cons (.tup (.cons (.str "past") (.cons (.var 1) (.cons (.call 14 (.cons (.var 0) (.cons (.int 7) .nil))) .nil)))) .nil))))))) .nil))))
 .nil))⟩
end VI.Pr

set_option Elab.async false
set_option linter.all false
set_option maxRecDepth 100000
set_option maxHeartbeats 2000000
/-! PrM: the predictor, the law's own counters. -/
namespace VI.Pr
open PySem L2 VI VI.Sh
/-! ### kinds -/
inductive Kc where
  | pl (w : String) | sz (w : String) (s : Int) | ps (s b : Int)
def Kc.d : Kc → D
  | .pl w => .tup [.str w]
  | .sz w s => .tup [.str w, .int s]
  | .ps s b => .tup [.str "past", .int s, .int b]
def Kc.ok : Kc → Prop
  | .pl w => w = "never" ∨ w = "always" ∨ w = "behind"
  | .sz w s => (w = "one" ∨ w = "two") ∧ 1 ≤ s ∧ s ≤ 64
  | .ps s b => 1 ≤ s ∧ s ≤ 64 ∧ 0 ≤ b ∧ b ≤ 6
def Kc.size : Kc → Nat
  | .pl _ => 0
  | .sz _ s => s.toNat
  | .ps s _ => s.toNat
def Kc.spot : Kc → Int → Int → Int
  | .pl _, i, _ => i
  | .sz _ s, i, _ => i % s
  | .ps s _, i, p => Builtin.bitXor i p % s
def up (c : Int) : Int := if c + 1 < 3 then c + 1 else 3
def down (c : Int) : Int := if 1 < c then c - 1 else 0
def Kc.guess : Kc → List Int → Int → Int → Int → Bool
  | .pl w, _, _, i, t => decide (w = "always") || (decide (w = "behind") && decide (t ≤ i))
  | k, cs, p, i, _ => decide (2 ≤ cs.getD (k.spot i p).toNat 0)
def Kc.next (k : Kc) (c : Int) (t : Bool) : Int := match k with
  | .sz "one" _ => if t then 2 else 1
  | _ => if t then up c else down c
def Kc.learn (k : Kc) (cs : List Int) (p i : Int) (t : Bool) : List Int := match k with
  | .pl _ => cs
  | k => cs.set (k.spot i p).toNat (k.next (cs.getD (k.spot i p).toNat 0) t)
def Kc.past (k : Kc) (p : Int) (t : Bool) : Int := match k with
  | .ps _ b => if t then (2 * p + 1) % (2 ^ b.toNat) else 2 * p % (2 ^ b.toNat)
  | _ => p
structure HasQ (T : Tab) : Prop where
  d3 : T.df 3 = some Sh.t3
  d4 : T.df 4 = some t4
  d5 : T.df 5 = some t5
  d6 : T.df 6 = some t6
  d7 : T.df 7 = some t7
  d8 : T.df 8 = some t8
  d9 : T.df 9 = some t9
  d10 : T.df 10 = some t10
  d11 : T.df 11 = some t11
  con1 : T.con 1 = .tup [.str "never", .str "always", .str "behind"]
  na1 : T.na 4 "counters" = true
  na2 : T.na 4 "kind" = true
  na3 : T.na 4 "past" = true
structure HasP (T : Tab) extends HasQ T where
  d14 : T.df 14 = some Sh.t14
  d16 : T.df 16 = some Sh.t16
  d17 : T.df 17 = some t17
  d18 : T.df 18 = some t18
  d19 : T.df 19 = some t19
  d20 : T.df 20 = some t20
  d21 : T.df 21 = some t21
section
variable {T : Tab} {n : Nat} {S : Store}
theorem whole_T (hT : HasQ T) {d : D} (hn : isPlain d = true) : run T (n + 1) 3 [d] S = .ok (.bl (isInt d)) S := whole hT.d3 hn
theorem kind_ok (hT : HasQ T) {k : Kc} (h : k.ok) : run T (n + 2) 4 [k.d] S = .ok (.bl true) S := by
  obtain ⟨a, S', e, rfl, rfl⟩ := want_some (r := run T (n + 2) 4 [k.d] S) (k := fun a S' => a = .bl true ∧ S' = S) (by
    refine run_i hT.d4 rfl ?_
    cases k with
    | pl w => rcases h with rfl | rfl | rfl <;> simp [t4, whole_T hT, hT.con1, Kc.d]
    | sz w s =>
      obtain ⟨h1, h2, h3⟩ := h
      rcases h1 with rfl | rfl <;> simp [t4, whole_T hT, hT.con1, Kc.d, h2, h3]
    | ps s b =>
      obtain ⟨h1, h2, h3, h4⟩ := h
      simp [t4, whole_T hT, hT.con1, Kc.d, h1, h2, h3, h4])
  exact e
/-- what is no kind -/
def bads (a : Nat) : List D := [.non, .tup [], .str "two", .tup [.str "two"], .tup [.str "two", .int 0], .tup [.str "two", .int 65], .tup [.str "two", .bl true], .tup [.str "two", .int 4, .int 1],
  .tup [.str "past", .int 4], .tup [.str "past", .int 4, .int 7], .tup [.str "past", .int 4, .int (-1)], .tup [.str "past", .int 0, .int 2], .tup [.str "never", .int 1], .tup [.str "other"], .ref a, .tup [.non], .tup [.str "wait"]]
theorem bad_kind (hT : HasQ T) {a : Nat} {d : D} (hd : d ∈ bads a) (ha : at_ S a = some (.lst [.str "two", .int 4])) : run T (n + 2) 4 [d] S = .ok (.bl false) S := by
  obtain ⟨x, S', e, rfl, rfl⟩ := want_some (r := run T (n + 2) 4 [d] S) (k := fun a S' => a = .bl false ∧ S' = S) (by
    refine run_i hT.d4 rfl ?_
    simp only [bads, List.mem_cons, List.not_mem_nil, or_false] at hd
    rcases hd with rfl | rfl | rfl | rfl | rfl | rfl | rfl | rfl | rfl | rfl | rfl | rfl | rfl | rfl | rfl | rfl | rfl <;> simp [t4, whole_T hT, hT.con1, isi_lst_tuple ha])
  exact e
/-! ### the predictor, the law's own -/
theorem look_kind (hT : HasQ T) {k : Kc} (h : k.ok) : run T (n + 3) 5 [k.d] S = .ok .non S := by
  obtain ⟨a, S', e, rfl, rfl⟩ := want_some (r := run T (n + 3) 5 [k.d] S) (k := fun a S' => a = .non ∧ S' = S) (by
    refine run_i hT.d5 rfl ?_
    simp [t5, kind_ok hT h])
  exact e
theorem look_bad (hT : HasQ T) {a : Nat} {d : D} (hd : d ∈ bads a) (ha : at_ S a = some (.lst [.str "two", .int 4])) : run T (n + 3) 5 [d] S = .exc ⟨2, [("word", .str "kind")]⟩ S := by
  obtain ⟨x, S', e, rfl, rfl⟩ := want_exc_some (r := run T (n + 3) 5 [d] S) (x := fun x S' => x = ⟨2, [("word", .str "kind")]⟩ ∧ S' = S) (by
    refine run_i hT.d5 rfl ?_
    simp [t5, bad_kind hT hd ha])
  exact e
theorem look_index (hT : HasQ T) {i : Int} (h0 : 0 ≤ i) (h1 : i ≤ 65535) : run T (n + 2) 6 [.int i] S = .ok .non S := by
  obtain ⟨a, S', e, rfl, rfl⟩ := want_some (r := run T (n + 2) 6 [.int i] S) (k := fun a S' => a = .non ∧ S' = S) (by
    refine run_i hT.d6 rfl ?_
    simp [t6, whole_T hT, h0, h1])
  exact e
/-- an index that is none -/
def badI : D → Prop
  | .int i => ¬ (0 ≤ i ∧ i ≤ 65535)
  | .non => True
  | .bl _ => True
  | _ => False
theorem look_index_bad (hT : HasQ T) {d : D} (h : badI d) : run T (n + 2) 6 [d] S = .exc ⟨3, [("word", .str "index")]⟩ S := by
  obtain ⟨a, S', e, rfl, rfl⟩ := want_exc_some (r := run T (n + 2) 6 [d] S) (x := fun x S' => x = ⟨3, [("word", .str "index")]⟩ ∧ S' = S) (by
    refine run_i hT.d6 rfl ?_
    cases d with
    | int i =>
      have h : ¬ (0 ≤ i ∧ i ≤ 65535) := h
      by_cases h0 : 0 ≤ i
      · have h1 : ¬ i ≤ 65535 := fun z => h ⟨h0, z⟩
        simp [t6, whole_T hT, h0, h1]
      · simp [t6, whole_T hT, h0]
    | non => simp [t6, whole_T hT]
    | bl b => simp [t6, whole_T hT]
    | _ => exact h.elim)
  exact e
/-- Predictor(kind) -/
theorem init (hT : HasQ T) {k : Kc} (h : k.ok) {l : Nat} (hl : at_ S l = some (.ins 4 [])) : run T (n + 4) 7 [.ref l, k.d] S = .ok .non ((S.set l (.ins 4 [("kind", k.d), ("past", .int 0), ("counters", .ref (S.length + 1))])) ++ [.lst [.int 1], .lst (List.replicate k.size (.int 1))]) := by
  obtain ⟨a, S', e, rfl, rfl⟩ := want_some (r := run T (n + 4) 7 [.ref l, k.d] S) (k := fun a S' => a = .non ∧ S' = ((S.set l (.ins 4 [("kind", k.d), ("past", .int 0), ("counters", .ref (S.length + 1))])) ++ [.lst [.int 1], .lst (List.replicate k.size (.int 1))])) (by
    refine run_i hT.d7 rfl ?_
    simp [t7, hT.na1, hT.na2, hT.na3, look_kind hT h, hl]
    cases k with
    | pl w => simp [Kc.d, hl, Kc.size, hT.na1, hT.na2, hT.na3]
    | sz w s =>
      obtain ⟨_, h1, h2⟩ := h
      simp [Kc.d, hl, Kc.size, hT.na1, hT.na2, hT.na3, show -9223372036854775808 ≤ s by omega, show s < 9223372036854775808 by omega, show s.toNat ≤ 16777216 by omega]
    | ps s b =>
      obtain ⟨h1, h2, _⟩ := h
      simp [Kc.d, hl, Kc.size, hT.na1, hT.na2, hT.na3, show -9223372036854775808 ≤ s by omega, show s < 9223372036854775808 by omega, show s.toNat ≤ 16777216 by omega])
  exact e
structure PO (S : Store) (p q : Nat) (k : Kc) (cs : List Int) (past : Int) : Prop where
  ins : at_ S p = some (.ins 4 [("kind", k.d), ("past", .int past), ("counters", .ref q)])
  lst : at_ S q = some (.lst (cs.map .int))
  len : cs.length = k.size
structure OW (S : Store) (o oc : Nat) (k : Kc) (cs : List Int) (past : Int) : Prop where
  c1 : at_ S o = some (.lst [.ref oc, .int past])
  c2 : at_ S oc = some (.lst (cs.map .int))
  ne : o ≠ oc
  len : cs.length = k.size
theorem at_cs {cs : List Int} {j : Int} (h0 : 0 ≤ j) (h1 : j < cs.length) : atI (cs.map D.int) j = some (.int (cs.getD j.toNat 0)) := atI_at h0 (by
  rw [List.getElem?_map, List.getElem?_eq_getElem (by omega)]
  simp [List.getD, List.getElem?_eq_getElem (show j.toNat < cs.length by omega)])
theorem spot_range {k : Kc} (h : k.ok) (hp : 0 < k.size) {i p : Int} : 0 ≤ k.spot i p ∧ k.spot i p < k.size := by
  cases k with
  | pl w => cases hp
  | sz w s =>
    obtain ⟨_, h1, h2⟩ := h
    exact ⟨Int.emod_nonneg _ (by omega), by
      have := Int.emod_lt_of_pos i (show 0 < s by omega)
      show i % s < ((s.toNat : Nat) : Int)
      omega⟩
  | ps s b =>
    obtain ⟨h1, h2, _⟩ := h
    exact ⟨Int.emod_nonneg _ (by omega), by
      have := Int.emod_lt_of_pos (Builtin.bitXor i p) (show 0 < s by omega)
      show Builtin.bitXor i p % s < ((s.toNat : Nat) : Int)
      omega⟩
variable {p q o oc : Nat} {k : Kc} {cs : List Int} {past : Int}
theorem spot_of (hT : HasQ T) (h : k.ok) (hp : 0 < k.size) (P : PO S p q k cs past) {i : Int} : run T (n + 1) 8 [.ref p, .int i] S = .ok (.int (k.spot i past)) S := by
  obtain ⟨a, S', e, rfl, rfl⟩ := want_some (r := run T (n + 1) 8 [.ref p, .int i] S) (k := fun a S' => a = .int (k.spot i past) ∧ S' = S) (by
    refine run_i hT.d8 rfl ?_
    have hi := P.ins
    cases k with
    | pl w => cases hp
    | sz w s =>
      obtain ⟨h1, h2, h3⟩ := h
      rcases h1 with rfl | rfl <;> simp [t8, hi, Kc.d, Kc.spot, show 0 < s by omega]
    | ps s b =>
      obtain ⟨h1, h2, _⟩ := h
      simp [t8, hi, Kc.d, Kc.spot, show 0 < s by omega])
  exact e
theorem guess (hT : HasQ T) (h : k.ok) (P : PO S p q k cs past) {i t : Int} (hi : 0 ≤ i) (hi2 : i ≤ 65535) (ht : 0 ≤ t) (ht2 : t ≤ 65535) : run T (n + 3) 9 [.ref p, .int i, .int t] S = .ok (.bl (k.guess cs past i t)) S := by
  obtain ⟨a, S', e, rfl, rfl⟩ := want_some (r := run T (n + 3) 9 [.ref p, .int i, .int t] S) (k := fun a S' => a = .bl (k.guess cs past i t) ∧ S' = S) (by
    refine run_i hT.d9 rfl ?_
    have hP := P.ins
    have hL := P.lst
    cases k with
    | pl w => rcases h with rfl | rfl | rfl <;> simp [t9, whole_T hT, hT.con1, look_index hT, hP, hL, hi, hi2, ht, ht2, Kc.d, Kc.guess]
    | sz w s =>
      have hz : 0 < (Kc.sz w s).size := by have := h.2.1; show 0 < s.toNat; omega
      obtain ⟨r1, r2⟩ := spot_range h hz (i := i) (p := past)
      have ea := at_cs (cs := cs) r1 (by rw [P.len]; exact r2)
      have es := spot_of hT (n := n + 1) h hz P (i := i)
      rcases h.1 with rfl | rfl <;> (simp [t9, whole_T hT, hT.con1, look_index hT, hP, hL, hi, hi2, ht, ht2, Kc.d]; simp [hP, hL, es, ea, Kc.guess])
    | ps s b =>
      have hz : 0 < (Kc.ps s b).size := by have := h.1; show 0 < s.toNat; omega
      obtain ⟨r1, r2⟩ := spot_range h hz (i := i) (p := past)
      have ea := at_cs (cs := cs) r1 (by rw [P.len]; exact r2)
      have es := spot_of hT (n := n + 1) h hz P (i := i)
      simp [t9, whole_T hT, hT.con1, look_index hT, hP, hL, hi, hi2, ht, ht2, Kc.d]
      simp [hP, hL, es, ea, Kc.guess])
  exact e
theorem pow_pos {b : Nat} : (0 : Int) < 2 ^ b := Int.pow_pos (by decide)
theorem ixN_cs {cs : List Int} {j : Int} (h0 : 0 ≤ j) (h1 : j < cs.length) : ixN (cs.map D.int).length j = some j.toNat := ixN_at h0 (by simpa using h1)
theorem learn (hT : HasQ T) (h : k.ok) (P : PO S p q k cs past) {i : Int} {t : Bool} (hi : 0 ≤ i) (hi2 : i ≤ 65535) : ∃ S', run T (n + 3) 10 [.ref p, .int i, .bl t] S = .ok .non S' ∧ PO S' p q k (k.learn cs past i t) (k.past past t) ∧ Keeps [p, q] S S' ∧ S'.length = S.length := by
  have key : (run T (n + 3) 10 [.ref p, .int i, .bl t] S).want (fun a S' => a = .non ∧ PO S' p q k (k.learn cs past i t) (k.past past t) ∧ Keeps [p, q] S S' ∧ S'.length = S.length) fun _ _ => False := by
    refine run_i hT.d10 rfl ?_
    have hP := P.ins
    have hL := P.lst
    have ne : p ≠ q := by intro e; rw [e, hL] at hP; cases hP
    have tt : isBlD true (.bl t) = t := by cases t <;> rfl
    cases k with
    | pl w => rcases h with rfl | rfl | rfl <;> cases t <;> simp [t10, hT.na1, hT.na2, hT.na3, whole_T hT, hT.con1, look_index hT, hP, hi, hi2, Kc.d] <;> exact ⟨P, Keeps.refl⟩
    | sz w s =>
      have hz : 0 < (Kc.sz w s).size := by have := h.2.1; show 0 < s.toNat; omega
      obtain ⟨r1, r2⟩ := spot_range h hz (i := i) (p := past)
      have ea := at_cs (cs := cs) r1 (by rw [P.len]; exact r2)
      have ei := ixN_cs (cs := cs) r1 (by rw [P.len]; exact r2)
      rw [List.length_map] at ei
      have es := spot_of hT (n := n + 1) h hz P (i := i)
      have fin : ∀ v : Int, PO (S.set q (.lst ((cs.set ((Kc.sz w s).spot i past).toNat v).map .int))) p q (.sz w s) (cs.set ((Kc.sz w s).spot i past).toNat v) past := fun v => ⟨by simp [Ne.symm ne, hP], by simp [hL], by simpa using P.len⟩
      have kp : ∀ c, Keeps [p, q] S (S.set q c) := fun c => Keeps.set Keeps.refl (.inl (by simp))
      rcases h.1 with rfl | rfl <;> cases t <;> simp [t10, hT.na1, hT.na2, hT.na3, whole_T hT, hT.con1, look_index hT, hP, hi, hi2, Kc.d, hL, es, ea, ei, ← List.map_set, Ne.symm ne] <;> exact ⟨fin _, kp _⟩
    | ps s b =>
      have hz : 0 < (Kc.ps s b).size := by have := h.1; show 0 < s.toNat; omega
      obtain ⟨r1, r2⟩ := spot_range h hz (i := i) (p := past)
      have ea := at_cs (cs := cs) r1 (by rw [P.len]; exact r2)
      have ei := ixN_cs (cs := cs) r1 (by rw [P.len]; exact r2)
      rw [List.length_map] at ei
      have es := spot_of hT (n := n + 1) h hz P (i := i)
      have fin : ∀ v : Int, ∀ u : Int, PO ((S.set q (.lst ((cs.set ((Kc.ps s b).spot i past).toNat v).map .int))).set p (.ins 4 [("kind", (Kc.ps s b).d), ("past", .int u), ("counters", .ref q)])) p q (.ps s b) (cs.set ((Kc.ps s b).spot i past).toNat v) u := fun v u => ⟨by simp [Ne.symm ne, hP], by simp [hL, ne], by simpa using P.len⟩
      have kp : ∀ c c', Keeps [p, q] S ((S.set q c).set p c') := fun c c' => Keeps.set (Keeps.set Keeps.refl (.inl (by simp))) (.inl (by simp))
      have b0 := h.2.2.1
      have b1 : b ≤ 1000000 := by have := h.2.2.2; omega
      cases t <;> simp [t10, hT.na1, hT.na2, hT.na3, whole_T hT, hT.con1, look_index hT, hP, hi, hi2, Kc.d, hL, es, ea, ei, ← List.map_set, Ne.symm ne, b0, b1, pow_pos] <;> exact ⟨fin _ _, kp _ _⟩
  obtain ⟨a, S', e, rfl, r⟩ := want_some key
  exact ⟨S', e, r⟩
theorem told (hT : HasQ T) (P : PO S p q k cs past) : run T (n + 1) 11 [.ref p] S = .ok (.tup [.tup (cs.map .int), .int past]) S := by
  obtain ⟨a, S', e, rfl, rfl⟩ := want_some (r := run T (n + 1) 11 [.ref p] S) (k := fun a S' => a = .tup [.tup (cs.map .int), .int past] ∧ S' = S) (by
    refine run_i hT.d11 rfl ?_
    simp [t11, P.ins, P.lst])
  exact e
theorem copied (hT : HasQ T) (d12 : T.df 12 = some t12) (h : k.ok) (P : PO S p q k cs past) : ∃ S' pc qc, run T (n + 5) 12 [.ref p] S = .ok (.ref pc) S' ∧ PO S' pc qc k cs past ∧ Keeps [] S S' ∧ S.length ≤ pc ∧ S.length ≤ qc := by
  have key : (run T (n + 5) 12 [.ref p] S).want (fun a S' => ∃ pc qc, a = .ref pc ∧ PO S' pc qc k cs past ∧ Keeps [] S S' ∧ S.length ≤ pc ∧ S.length ≤ qc) fun _ _ => False := by
    refine run_i d12 rfl ?_
    have e := init hT (n := n) (S := S ++ [.ins 4 []]) (l := S.length) h (by simp)
    simp [t12, hT.na1, hT.na2, hT.na3, P.ins, e, P.lst]
    exact ⟨S.length + 3, ⟨by simp, by simp, P.len⟩, Keeps.app Keeps.refl, by omega⟩
  obtain ⟨a, S', e, pc, qc, rfl, r⟩ := want_some key
  exact ⟨S', pc, qc, e, r⟩
/-! ### the law's own -/
theorem fresh (hT : HasP T) (h : k.ok) : ∃ S' o oc, run T (n + 1) 17 [k.d] S = .ok (.ref o) S' ∧ OW S' o oc k (List.replicate k.size 1) 0 ∧ Keeps [] S S' ∧ S.length ≤ o ∧ S.length ≤ oc := by
  have key : (run T (n + 1) 17 [k.d] S).want (fun a S' => ∃ o oc, a = .ref o ∧ OW S' o oc k (List.replicate k.size 1) 0 ∧ Keeps [] S S' ∧ S.length ≤ o ∧ S.length ≤ oc) fun _ _ => False := by
    refine run_i hT.d17 rfl ?_
    have fin : ∀ a : D, OW (S ++ [.lst [a], .lst (List.replicate k.size (.int 1)), .lst [.ref (S.length + 1), .int 0]]) (S.length + 2) (S.length + 1) k (List.replicate k.size 1) 0 := fun a => ⟨by simp, by simp, by omega, by simp⟩
    have kp : ∀ G, Keeps [] S (S ++ G) := fun G => Keeps.app Keeps.refl
    cases k with
    | pl w =>
      simp [t17, Kc.d]
      exact ⟨_, fin _, kp _, by omega⟩
    | sz w s =>
      obtain ⟨_, h1, h2⟩ := h
      simp [t17, Kc.d, show -9223372036854775808 ≤ s by omega, show s < 9223372036854775808 by omega, show s.toNat ≤ 16777216 by omega]
      exact ⟨_, fin _, kp _, by omega⟩
    | ps s b =>
      obtain ⟨h1, h2, _⟩ := h
      simp [t17, Kc.d, show -9223372036854775808 ≤ s by omega, show s < 9223372036854775808 by omega, show s.toNat ≤ 16777216 by omega]
      exact ⟨_, fin _, kp _, by omega⟩
  obtain ⟨a, S', e, o, oc, rfl, r⟩ := want_some key
  exact ⟨S', o, oc, e, r⟩
theorem own_spot (hT : HasP T) (h : k.ok) (hp : 0 < k.size) (P : OW S o oc k cs past) {i : Int} : run T (n + 1) 18 [k.d, .ref o, .int i] S = .ok (.int (k.spot i past)) S := by
  obtain ⟨a, S', e, rfl, rfl⟩ := want_some (r := run T (n + 1) 18 [k.d, .ref o, .int i] S) (k := fun a S' => a = .int (k.spot i past) ∧ S' = S) (by
    refine run_i hT.d18 rfl ?_
    have h1 := P.c1
    cases k with
    | pl w => cases hp
    | sz w s =>
      obtain ⟨h1, h2, h3⟩ := h
      rcases h1 with rfl | rfl <;> simp [t18, h1, Kc.d, Kc.spot, show 0 < s by omega]
    | ps s b =>
      obtain ⟨h1, h2, _⟩ := h
      simp [t18, P.c1, Kc.d, Kc.spot, show 0 < s by omega])
  exact e
theorem own_guess (hT : HasP T) (h : k.ok) (P : OW S o oc k cs past) {i t : Int} : run T (n + 2) 19 [k.d, .ref o, .int i, .int t] S = .ok (.bl (k.guess cs past i t)) S := by
  obtain ⟨a, S', e, rfl, rfl⟩ := want_some (r := run T (n + 2) 19 [k.d, .ref o, .int i, .int t] S) (k := fun a S' => a = .bl (k.guess cs past i t) ∧ S' = S) (by
    refine run_i hT.d19 rfl ?_
    have hP := P.c1
    have hL := P.c2
    cases k with
    | pl w => rcases h with rfl | rfl | rfl <;> simp [t19, Kc.d, Kc.guess]
    | sz w s =>
      have hz : 0 < (Kc.sz w s).size := by have := h.2.1; show 0 < s.toNat; omega
      obtain ⟨r1, r2⟩ := spot_range h hz (i := i) (p := past)
      have ea := at_cs (cs := cs) r1 (by rw [P.len]; exact r2)
      have es := own_spot hT (n := n) h hz P (i := i)
      rcases h.1 with rfl | rfl <;> (simp [t19, Kc.d] at es ⊢; simp [hP, hL, es, ea, Kc.guess]; rfl)
    | ps s b =>
      have hz : 0 < (Kc.ps s b).size := by have := h.1; show 0 < s.toNat; omega
      obtain ⟨r1, r2⟩ := spot_range h hz (i := i) (p := past)
      have ea := at_cs (cs := cs) r1 (by rw [P.len]; exact r2)
      have es := own_spot hT (n := n) h hz P (i := i)
      simp [t19, Kc.d] at es ⊢
      simp [hP, hL, es, ea, Kc.guess]
      rfl)
  exact e
theorem own_learn (hT : HasP T) (h : k.ok) (P : OW S o oc k cs past) {i : Int} {t : Bool} : ∃ a S', run T (n + 2) 20 [k.d, .ref o, .int i, .bl t] S = .ok a S' ∧ OW S' o oc k (k.learn cs past i t) (k.past past t) ∧ Keeps [o, oc] S S' ∧ S'.length = S.length := by
  have key : (run T (n + 2) 20 [k.d, .ref o, .int i, .bl t] S).want (fun a S' => OW S' o oc k (k.learn cs past i t) (k.past past t) ∧ Keeps [o, oc] S S' ∧ S'.length = S.length) fun _ _ => False := by
    refine run_i hT.d20 rfl ?_
    have hP := P.c1
    have hL := P.c2
    have ne := P.ne
    cases k with
    | pl w => rcases h with rfl | rfl | rfl <;> cases t <;> simp [t20, Kc.d] <;> exact ⟨P, Keeps.refl⟩
    | sz w s =>
      have hz : 0 < (Kc.sz w s).size := by have := h.2.1; show 0 < s.toNat; omega
      obtain ⟨r1, r2⟩ := spot_range h hz (i := i) (p := past)
      have ea := at_cs (cs := cs) r1 (by rw [P.len]; exact r2)
      have ei := ixN_cs (cs := cs) r1 (by rw [P.len]; exact r2)
      rw [List.length_map] at ei
      have es := own_spot hT (n := n) h hz P (i := i)
      have fin : ∀ v : Int, OW (S.set oc (.lst ((cs.set ((Kc.sz w s).spot i past).toNat v).map .int))) o oc (.sz w s) (cs.set ((Kc.sz w s).spot i past).toNat v) past := fun v => ⟨by simp [Ne.symm ne, hP], by simp [hL], ne, by simpa using P.len⟩
      have kp : ∀ c, Keeps [o, oc] S (S.set oc c) := fun c => Keeps.set Keeps.refl (.inl (by simp))
      rcases h.1 with rfl | rfl <;> cases t <;> simp [t20, Kc.d] at es ⊢ <;> simp [hP, hL, es, ea, ei, ← List.map_set, Ne.symm ne] <;> exact ⟨fin _, kp _⟩
    | ps s b =>
      have hz : 0 < (Kc.ps s b).size := by have := h.1; show 0 < s.toNat; omega
      obtain ⟨r1, r2⟩ := spot_range h hz (i := i) (p := past)
      have ea := at_cs (cs := cs) r1 (by rw [P.len]; exact r2)
      have ei := ixN_cs (cs := cs) r1 (by rw [P.len]; exact r2)
      rw [List.length_map] at ei
      have es := own_spot hT (n := n) h hz P (i := i)
      have fin : ∀ v : Int, ∀ u : Int, OW ((S.set oc (.lst ((cs.set ((Kc.ps s b).spot i past).toNat v).map .int))).set o (.lst [.ref oc, .int u])) o oc (.ps s b) (cs.set ((Kc.ps s b).spot i past).toNat v) u := fun v u => ⟨by simp [Ne.symm ne, hP], by simp [hL, ne], ne, by simpa using P.len⟩
      have kp : ∀ c c', Keeps [o, oc] S ((S.set oc c).set o c') := fun c c' => Keeps.set (Keeps.set Keeps.refl (.inl (by simp))) (.inl (by simp))
      have b0 := h.2.2.1
      have b1 : b ≤ 1000000 := by have := h.2.2.2; omega
      cases t <;> simp [t20, Kc.d] at es ⊢ <;> simp [hP, hL, es, ea, ei, ← List.map_set, Ne.symm ne, b0, b1, pow_pos] <;> exact ⟨fin _ _, kp _ _⟩
  obtain ⟨a, S', e, r⟩ := want_some key
  exact ⟨a, S', e, r⟩
/-! ### a kind -/
theorem law_kind (hT : HasP T) {l m : Nat} {ns : List Int} (hd : Draws l m ns S) : ∃ k S', Kc.ok k ∧ run T (n + 3) 21 [.ref l] S = .ok k.d S' ∧ Draws l m ns S' ∧ Keeps [l] S S' := by
  have key : (run T (n + 3) 21 [.ref l] S).want (fun a S' => ∃ k, Kc.ok k ∧ a = k.d ∧ Draws l m ns S' ∧ Keeps [l] S S') fun _ _ => False := by
    refine run_i hT.d21 rfl ?_
    have hl := lt_of_is hd.is.1
    have d1 : Draws l m ns (S ++ [.lst [.int 1, .int 2, .int 3, .int 4, .int 7, .int 16, .int 64]]) := hd.keep (W := []) (Keeps.app Keeps.refl) (by simp) (by simp)
    obtain ⟨j, d, S1, e1, hj, d2, k1, l1⟩ := pick (n := n) hT.d14 hT.d16 (k := S.length) (ds := [.int 1, .int 2, .int 3, .int 4, .int 7, .int 16, .int 64]) (by simp) (by omega) (by simp) (by simp) d1
    obtain ⟨s, rfl, s1, s2⟩ : ∃ s : Int, d = .int s ∧ 1 ≤ s ∧ s ≤ 64 := by
      have := List.mem_of_getElem? hj
      simp at this
      rcases this with rfl | rfl | rfl | rfl | rfl | rfl | rfl <;> exact ⟨_, rfl, by decide, by decide⟩
    obtain ⟨b, S2, e2, b0, b1, d3, k2, l2⟩ := draw (n := n + 1) hT.d14 (lim := 7) (by decide) (by decide) d2
    have d4 : Draws l m ns (S2 ++ [.lst [.tup [.str "never"], .tup [.str "always"], .tup [.str "behind"], .tup [.str "one", .int s], .tup [.str "two", .int s], .tup [.str "past", .int s, .int b]]]) := d3.keep (W := []) (Keeps.app Keeps.refl) (by simp) (by simp)
    have hl2 := lt_of_is d3.is.1
    obtain ⟨j2, d, S3, e3, hj3, d5, k3, l3⟩ := pick (n := n) hT.d14 hT.d16 (k := S2.length) (ds := [.tup [.str "never"], .tup [.str "always"], .tup [.str "behind"], .tup [.str "one", .int s], .tup [.str "two", .int s], .tup [.str "past", .int s, .int b]]) (by simp) (by omega) (by simp) (by simp) d4
    simp [t21, e1, e2, e3]
    have kk : Keeps [l] S S3 := (((Keeps.app Keeps.refl).trans k1).trans k2).trans ((Keeps.app Keeps.refl).trans k3)
    have := List.mem_of_getElem? hj3
    simp at this
    rcases this with rfl | rfl | rfl | rfl | rfl | rfl
    · exact ⟨.pl "never", .inl rfl, rfl, d5, kk⟩
    · exact ⟨.pl "always", .inr (.inl rfl), rfl, d5, kk⟩
    · exact ⟨.pl "behind", .inr (.inr rfl), rfl, d5, kk⟩
    · exact ⟨.sz "one" s, ⟨.inl rfl, s1, s2⟩, rfl, d5, kk⟩
    · exact ⟨.sz "two" s, ⟨.inr rfl, s1, s2⟩, rfl, d5, kk⟩
    · exact ⟨.ps s b, ⟨s1, s2, b0, by omega⟩, rfl, d5, kk⟩
  obtain ⟨a, S', e, k, hk, rfl, r⟩ := want_some key
  exact ⟨k, S', hk, e, r⟩
/-! ### refusals -/
theorem init_bad (hT : HasQ T) {a l : Nat} {d : D} (hd : d ∈ bads a) (ha : at_ S a = some (.lst [.str "two", .int 4])) : run T (n + 4) 7 [.ref l, d] S = .exc ⟨2, [("word", .str "kind")]⟩ S := by
  obtain ⟨x, S', e, rfl, rfl⟩ := want_exc_some (r := run T (n + 4) 7 [.ref l, d] S) (x := fun x S' => x = ⟨2, [("word", .str "kind")]⟩ ∧ S' = S) (by
    refine run_i hT.d7 rfl ?_
    simp [t7, hT.na1, hT.na2, hT.na3, look_bad hT hd ha])
  exact e
theorem guess_bad (hT : HasQ T) {l : Nat} {a b : D} (h : badI a ∨ (∃ i : Int, a = .int i ∧ 0 ≤ i ∧ i ≤ 65535) ∧ badI b) : run T (n + 3) 9 [.ref l, a, b] S = .exc ⟨3, [("word", .str "index")]⟩ S := by
  obtain ⟨x, S', e, rfl, rfl⟩ := want_exc_some (r := run T (n + 3) 9 [.ref l, a, b] S) (x := fun x S' => x = ⟨3, [("word", .str "index")]⟩ ∧ S' = S) (by
    refine run_i hT.d9 rfl ?_
    rcases h with h | ⟨⟨i, rfl, h0, h1⟩, h⟩
    · simp [t9, whole_T hT, hT.con1, look_index hT, look_index_bad hT h]
    · simp [t9, whole_T hT, hT.con1, look_index hT, look_index_bad hT h, h0, h1])
  exact e
theorem learn_bad (hT : HasQ T) {l : Nat} {a b : D} (h : badI a ∨ (∃ i : Int, a = .int i ∧ 0 ≤ i ∧ i ≤ 65535) ∧ (isBlD true b = false ∧ isBlD false b = false)) : ∃ w : String, run T (n + 3) 10 [.ref l, a, b] S = .exc ⟨3, [("word", .str w)]⟩ S := by
  obtain ⟨x, S', e, w, rfl, rfl⟩ := want_exc_some (r := run T (n + 3) 10 [.ref l, a, b] S) (x := fun x S' => ∃ w : String, x = ⟨3, [("word", .str w)]⟩ ∧ S' = S) (by
    refine run_i hT.d10 rfl ?_
    rcases h with h | ⟨⟨i, rfl, h0, h1⟩, h, h'⟩
    · simp [t10, hT.na1, hT.na2, hT.na3, whole_T hT, hT.con1, look_index hT, look_index_bad hT h]
    · simp [t10, hT.na1, hT.na2, hT.na3, whole_T hT, hT.con1, look_index hT, h0, h1, h, h'])
  exact ⟨w, e⟩
theorem optAll_ints {cs : List Int} {n : Nat} : optAll ((cs.map D.int).map (toPy (n + 1) S)) = some (cs.map PyData.int) := by
  induction cs with
  | nil => rfl
  | cons c cs ih =>
    simp only [List.map_cons]
    have e : toPy (n + 1) S (D.int c) = some (PyData.int c) := rfl
    rw [e]
    unfold optAll
    rw [ih]
theorem eq_told : eqOp (.tup [.tup (cs.map .int), .int past]) (.tup [.tup (cs.map .int), .int past]) S = some true := by
  have h1 : toPy 29 S (.tup (cs.map .int)) = some (.tuple (cs.map PyData.int)) := by
    unfold toPy
    dsimp only
    rw [optAll_ints]
  have h2 : toPy 30 S (.tup [.tup (cs.map .int), .int past]) = some (.tuple [.tuple (cs.map PyData.int), .int past]) := by
    unfold toPy
    dsimp only [List.map]
    rw [h1]
    rfl
  have h3 : SeqAt.shaped (.tuple [.tuple (cs.map PyData.int), .int past]) = true := by
    simp [SeqAt.shaped, PyData.canLay0, PyData.canLayAll0, PyData.depth, PyData.depthAll, PySem.W.ke_canLayAll0, PySem.W.ke_depthAll]
  unfold eqOp
  rw [h2]
  have h4 := PySem.SeqAt.eqv_refl _ (SeqAt.canLay_of_shaped h3)
  show (if (SeqAt.shaped _ && SeqAt.shaped _) = true then some (PyData.eqv _ _) else none) = some true
  rw [h3, h4]
  rfl
theorem toPy_ints {cs : List Int} {n : Nat} : toPy (n + 2) S (.tup (cs.map .int)) = some (.tuple (cs.map PyData.int)) := by
  unfold toPy
  dsimp only
  rw [optAll_ints]
theorem shaped_ints {cs : List Int} : SeqAt.shaped (.tuple (cs.map PyData.int)) = true := by
  simp [SeqAt.shaped, PyData.canLay0, PyData.canLayAll0, PyData.depth, PyData.depthAll, PySem.W.ke_canLayAll0, PySem.W.ke_depthAll]
theorem eq_ints {cs : List Int} : eqOp (.tup (cs.map .int)) (.tup (cs.map .int)) S = some true := by
  unfold eqOp
  rw [toPy_ints]
  show (if (SeqAt.shaped _ && SeqAt.shaped _) = true then some (PyData.eqv _ _) else none) = some true
  rw [shaped_ints, PySem.SeqAt.eqv_refl _ (SeqAt.canLay_of_shaped shaped_ints)]
  rfl
theorem Sm_int {i : Int} : Sm S (n + 1) (.int i) (.int i) := rfl
theorem Sm_ints {cs : List Int} (h : cs.length ≤ 16777216) : Sm S (n + 2) (.tup (cs.map .int)) (.tup (cs.map .int)) :=
  ⟨_, rfl, rfl, by simpa using h, fun i a b ha hb => by
    rw [ha] at hb
    cases hb
    rw [List.getElem?_map] at ha
    cases e : cs[i]? with
    | none => rw [e] at ha; cases ha
    | some c => rw [e] at ha; cases ha; rfl⟩
theorem Sm_told {cs : List Int} (h : cs.length ≤ 16777216) {p : Int} : Sm S (n + 3) (.tup [.tup (cs.map .int), .int p]) (.tup [.tup (cs.map .int), .int p]) :=
  ⟨_, rfl, rfl, by simp, fun i a b ha hb => by
    match i with
    | 0 => cases ha; cases hb; exact Sm_ints h
    | 1 => cases ha; cases hb; rfl
    | i + 2 => simp at ha⟩
theorem size_le (h : k.ok) : k.size ≤ 64 := by
  cases k with
  | pl w => exact Nat.zero_le _
  | sz w s => have := h.2.2; show s.toNat ≤ 64; omega
  | ps s b => have := h.2.1; show s.toNat ≤ 64; omega
theorem learn_len {cs : List Int} {i p : Int} {t : Bool} : (k.learn cs p i t).length = cs.length := by
  cases k <;> simp [Kc.learn]
theorem PO.keep {S' : Store} {W : List Nat} (P : PO S p q k cs past) (kp : Keeps W S S') (h1 : p ∉ W) (h2 : q ∉ W) : PO S' p q k cs past := ⟨kp.get P.ins h1, kp.get P.lst h2, P.len⟩
theorem OW.keep {S' : Store} {W : List Nat} (P : OW S o oc k cs past) (kp : Keeps W S S') (h1 : o ∉ W) (h2 : oc ∉ W) : OW S' o oc k cs past := ⟨kp.get P.c1 h1, kp.get P.c2 h2, P.ne, P.len⟩
end
end VI.Pr

set_option Elab.async false
set_option linter.all false
set_option maxRecDepth 100000
set_option maxHeartbeats 2000000
/-! M8a: guesses of a row; a past long enough. -/
namespace VI.Pr
open PySem L2 VI VI.Sh
abbrev Row := Int × Int × Bool
def nextS (k : Kc) (s : List Int × Int) (r : Row) : List Int × Int := (k.learn s.1 s.2 r.1 r.2.2, k.past s.2 r.2.2)
def stS (k : Kc) (s : List Int × Int) (rs : List Row) : List Int × Int := rs.foldl (nextS k) s
def glS (k : Kc) : List Int × Int → List Row → List Bool
  | _, [] => []
  | s, r :: rs => k.guess s.1 s.2 r.1 r.2.1 :: glS k (nextS k s r) rs
theorem glS_len {k : Kc} : ∀ {s : List Int × Int} {rs : List Row}, (glS k s rs).length = rs.length
  | s, [] => rfl
  | s, r :: rs => by show (glS k (nextS k s r) rs).length + 1 = _; rw [glS_len]; rfl
theorem glS_app {k : Kc} {x : Row} : ∀ {s : List Int × Int} {rs : List Row}, glS k s (rs ++ [x]) = glS k s rs ++ [k.guess (stS k s rs).1 (stS k s rs).2 x.1 x.2.1]
  | s, [] => rfl
  | s, r :: rs => by
    show k.guess s.1 s.2 r.1 r.2.1 :: glS k (nextS k s r) (rs ++ [x]) = _
    rw [glS_app]
    rfl
theorem stS_app {k : Kc} {x : Row} {s : List Int × Int} {rs : List Row} : stS k s (rs ++ [x]) = nextS k (stS k s rs) x := by
  unfold stS
  rw [List.foldl_append]
  rfl
theorem glS_at {k : Kc} : ∀ {s : List Int × Int} {rs : List Row} {i : Nat} {x : Row}, rs[i]? = some x → (glS k s rs)[i]? = some (k.guess (stS k s (rs.take i)).1 (stS k s (rs.take i)).2 x.1 x.2.1)
  | s, [], i, x, h => by simp at h
  | s, r :: rs, 0, x, h => by
    simp at h
    subst h
    rfl
  | s, r :: rs, i + 1, x, h => by
    have := glS_at (k := k) (s := nextS k s r) (rs := rs) (i := i) (x := x) (by simpa using h)
    show (glS k (nextS k s r) rs)[i]? = _
    rw [this]
    rfl
theorem take_at {α : Type} {rs : List α} {i : Nat} {x : α} (h : rs[i]? = some x) : rs.take (i + 1) = rs.take i ++ [x] := by
  rw [List.take_succ, h]
  rfl
/-! ### a past long enough -/
section
variable (b : Nat → Bool) (n : Nat)
/-- the past behind t outcomes -/
def ps : Nat → Nat
  | 0 => 0
  | t + 1 => (2 * ps t + (b t).toNat) % 2 ^ n
theorem ps_lt (t : Nat) : ps b n t < 2 ^ n := by
  cases t with
  | zero => exact Nat.pow_pos (by decide)
  | succ t => exact Nat.mod_lt _ (Nat.pow_pos (by decide))
/-- bit j of the past is the outcome j + 1 ago -/
theorem ps_bit : ∀ (j t : Nat), j < n → j < t → (ps b n t).testBit j = b (t - 1 - j)
  | 0, t + 1, h1, h2 => by
    show ((2 * ps b n t + (b t).toNat) % 2 ^ n).testBit 0 = _
    rw [Nat.testBit_mod_two_pow]
    simp [h1]
    cases b t <;> simp [Bool.toNat] <;> omega
  | j + 1, t + 1, h1, h2 => by
    show ((2 * ps b n t + (b t).toNat) % 2 ^ n).testBit (j + 1) = _
    rw [Nat.testBit_mod_two_pow]
    have e : (2 * ps b n t + (b t).toNat).testBit (j + 1) = (ps b n t).testBit j := by
      rw [Nat.testBit_succ]
      congr 1
      cases b t <;> simp [Bool.toNat] <;> omega
    rw [e, ps_bit j t (by omega) (by omega)]
    simp [h1]
    congr 1
    omega
variable {b n} {p : Nat} (hp : 0 < p) (hpn : p ≤ n) (hb : ∀ t, b (t + p) = b t)
include hp hpn hb
/-- the same past, the same outcome -/
theorem ps_out {s t : Nat} (hs : n ≤ s) (ht : n ≤ t) (e : ps b n s = ps b n t) : b s = b t := by
  have h1 := ps_bit b n (p - 1) s (by omega) (by omega)
  have h2 := ps_bit b n (p - 1) t (by omega) (by omega)
  rw [e, h2] at h1
  have e1 : b (s - p) = b s := by
    have := hb (s - p)
    rw [Nat.sub_add_cancel (by omega)] at this
    exact this.symm
  have e2 : b (t - p) = b t := by
    have := hb (t - p)
    rw [Nat.sub_add_cancel (by omega)] at this
    exact this.symm
  rw [← e1, ← e2]
  rw [show s - 1 - (p - 1) = s - p by omega, show t - 1 - (p - 1) = t - p by omega] at h1
  exact h1.symm
/-- the past comes again -/
theorem ps_per {t : Nat} (ht : n ≤ t) : ps b n (t + p) = ps b n t := by
  apply Nat.eq_of_testBit_eq
  intro j
  by_cases hj : j < n
  · rw [ps_bit b n j _ hj (by omega), ps_bit b n j _ hj (by omega)]
    have := hb (t - 1 - j)
    rw [← this]
    congr 1
    omega
  · rw [Nat.testBit_lt_two_pow (Nat.lt_of_lt_of_le (ps_lt b n _) (Nat.pow_le_pow_right (by decide) (by omega))), Nat.testBit_lt_two_pow (Nat.lt_of_lt_of_le (ps_lt b n _) (Nat.pow_le_pow_right (by decide) (by omega)))]
/-- a counter that is told the same whenever it is asked -/
theorem two_up {f : Nat → Int} {v : Nat} {t : Nat} (ht : n + 2 * p ≤ t) (hv : ps b n t = v) (h0 : ∀ s, 0 ≤ f s ∧ f s ≤ 3) (hf : ∀ s, f (s + 1) = if ps b n s = v then (if b s then up (f s) else down (f s)) else f s) : decide (2 ≤ f t) = b t := by
  have out : ∀ s, n ≤ s → ps b n s = v → b s = b t := fun s hs e => ps_out (b := b) hp hpn hb hs (by omega) (e.trans hv.symm)
  have v1 : ps b n (t - p) = v := by
    rw [← hv]
    have := ps_per (b := b) hp hpn hb (t := t - p) (by omega)
    rw [Nat.sub_add_cancel (by omega)] at this
    exact this.symm
  have v2 : ps b n (t - p - p) = v := by
    rw [← v1]
    have := ps_per (b := b) hp hpn hb (t := t - p - p) (by omega)
    rw [Nat.sub_add_cancel (by omega)] at this
    exact this.symm
  cases hbt : b t with
  | true =>
    have mono : ∀ d s, n ≤ s → f s ≤ f (s + d) := fun d => by
      induction d with
      | zero => intro s _; exact Int.le_refl _
      | succ d ih =>
        intro s hs
        have h1 := ih s hs
        have h2 := hf (s + d)
        by_cases c : ps b n (s + d) = v
        · rw [if_pos c, out _ (by omega) c, hbt, if_pos rfl] at h2
          have := h0 (s + d)
          unfold up at h2
          rw [show s + (d + 1) = s + d + 1 by omega, h2]
          split <;> omega
        · rw [if_neg c] at h2
          rw [show s + (d + 1) = s + d + 1 by omega, h2]
          exact h1
    have s1 : 1 ≤ f (t - p - p + 1) := by
      have h2 := hf (t - p - p)
      rw [if_pos v2, out _ (by omega) v2, hbt, if_pos rfl] at h2
      have := h0 (t - p - p)
      unfold up at h2
      rw [h2]
      split <;> omega
    have s2 : 1 ≤ f (t - p) := by
      have := mono (p - 1) (t - p - p + 1) (by omega)
      rw [show t - p - p + 1 + (p - 1) = t - p by omega] at this
      omega
    have s3 : 2 ≤ f (t - p + 1) := by
      have h2 := hf (t - p)
      rw [if_pos v1, out _ (by omega) v1, hbt, if_pos rfl] at h2
      have := h0 (t - p)
      unfold up at h2
      rw [h2]
      split <;> omega
    have s4 : 2 ≤ f t := by
      have := mono (p - 1) (t - p + 1) (by omega)
      rw [show t - p + 1 + (p - 1) = t by omega] at this
      omega
    exact decide_eq_true s4
  | false =>
    have mono : ∀ d s, n ≤ s → f (s + d) ≤ f s := fun d => by
      induction d with
      | zero => intro s _; exact Int.le_refl _
      | succ d ih =>
        intro s hs
        have h1 := ih s hs
        have h2 := hf (s + d)
        by_cases c : ps b n (s + d) = v
        · rw [if_pos c, out _ (by omega) c, hbt, if_neg Bool.false_ne_true] at h2
          have := h0 (s + d)
          unfold down at h2
          rw [show s + (d + 1) = s + d + 1 by omega, h2]
          split <;> omega
        · rw [if_neg c] at h2
          rw [show s + (d + 1) = s + d + 1 by omega, h2]
          exact h1
    have s1 : f (t - p - p + 1) ≤ 2 := by
      have h2 := hf (t - p - p)
      rw [if_pos v2, out _ (by omega) v2, hbt, if_neg Bool.false_ne_true] at h2
      have := h0 (t - p - p)
      unfold down at h2
      rw [h2]
      split <;> omega
    have s2 : f (t - p) ≤ 2 := by
      have := mono (p - 1) (t - p - p + 1) (by omega)
      rw [show t - p - p + 1 + (p - 1) = t - p by omega] at this
      omega
    have s3 : f (t - p + 1) ≤ 1 := by
      have h2 := hf (t - p)
      rw [if_pos v1, out _ (by omega) v1, hbt, if_neg Bool.false_ne_true] at h2
      have := h0 (t - p)
      unfold down at h2
      rw [h2]
      split <;> omega
    have s4 : f t ≤ 1 := by
      have := mono (p - 1) (t - p + 1) (by omega)
      rw [show t - p + 1 + (p - 1) = t by omega] at this
      omega
    exact decide_eq_false (by omega)
omit hp hpn hb
end
/-- the counters behind t outcomes -/
def Fc (b : Nat → Bool) (n : Nat) : Nat → List Int
  | 0 => List.replicate 64 1
  | t + 1 => (Fc b n t).set (ps b n t) (if b t then up ((Fc b n t).getD (ps b n t) 0) else down ((Fc b n t).getD (ps b n t) 0))
theorem Fc_len {b : Nat → Bool} {n : Nat} : ∀ {t : Nat}, (Fc b n t).length = 64
  | 0 => by simp [Fc]
  | t + 1 => by
    unfold Fc
    rw [List.length_set, Fc_len]
theorem Fc_next {b : Nat → Bool} {n t v : Nat} (hv : v < 64) : (Fc b n (t + 1)).getD v 0 = if ps b n t = v then (if b t then up ((Fc b n t).getD v 0) else down ((Fc b n t).getD v 0)) else (Fc b n t).getD v 0 := by
  show ((Fc b n t).set (ps b n t) _).getD v 0 = _
  by_cases c : ps b n t = v
  · subst c
    rw [if_pos rfl]
    simp [List.getD, List.getElem?_set_self (show ps b n t < (Fc b n t).length by rw [Fc_len]; exact hv)]
  · rw [if_neg c]
    simp [List.getD, List.getElem?_set_ne c]
theorem Fc_range {b : Nat → Bool} {n v : Nat} (hv : v < 64) : ∀ t, 0 ≤ (Fc b n t).getD v 0 ∧ (Fc b n t).getD v 0 ≤ 3
  | 0 => by
    have : (Fc b n 0).getD v 0 = 1 := by
      show (List.replicate 64 (1 : Int)).getD v 0 = 1
      rw [List.getD, List.getElem?_replicate, if_pos hv]
      rfl
    rw [this]
    decide
  | t + 1 => by
    have := Fc_range (b := b) (n := n) hv t
    rw [Fc_next hv]
    unfold up down
    split
    · split
      · split <;> omega
      · split <;> omega
    · exact this
theorem xor0 {p : Nat} (h : p < 64) : Builtin.bitXor 0 (p : Int) % 64 = p := by
  rw [Bits.bitXor_pp (by decide) (by omega)]
  simp
  omega
theorem st_round {b : Nat → Bool} {n : Nat} (hn : n ≤ 6) {rs : List Row} (hr : ∀ t x, rs[t]? = some x → x = (0, 0, b t)) : ∀ t, t ≤ rs.length → stS (.ps 64 n) (List.replicate 64 1, 0) (rs.take t) = (Fc b n t, (ps b n t : Int))
  | 0, _ => by simp [stS, Fc, ps]
  | t + 1, h => by
    have ih := st_round hn hr t (by omega)
    obtain ⟨x, hx⟩ : ∃ x, rs[t]? = some x := ⟨_, List.getElem?_eq_getElem (by omega)⟩
    have e := hr t x hx
    have hp : ps b n t < 64 := Nat.lt_of_lt_of_le (ps_lt b n t) (Nat.le_trans (Nat.pow_le_pow_right (by decide) hn) (by decide))
    rw [take_at hx, stS_app, ih, e]
    unfold nextS
    have hs : (Kc.ps 64 (n : Int)).spot 0 (ps b n t : Int) = (ps b n t : Int) := xor0 hp
    congr 1
    · show (Fc b n t).set ((Kc.ps 64 (n : Int)).spot 0 (ps b n t : Int)).toNat (Kc.next _ ((Fc b n t).getD ((Kc.ps 64 (n : Int)).spot 0 (ps b n t : Int)).toNat 0) (b t)) = _
      rw [hs]
      rfl
    · show (if b t then (2 * (ps b n t : Int) + 1) % 2 ^ ((n : Int)).toNat else 2 * (ps b n t : Int) % 2 ^ ((n : Int)).toNat) = ((ps b n (t + 1) : Nat) : Int)
      show _ = (((2 * ps b n t + (b t).toNat) % 2 ^ n : Nat) : Int)
      cases b t <;> simp [Bool.toNat]
theorem flat_at {α : Type} {rr : List α} (hp : 0 < rr.length) : ∀ (k t : Nat), t < k * rr.length → (List.replicate k rr).flatten[t]? = rr[t % rr.length]?
  | 0, t, h => by simp at h
  | k + 1, t, h => by
    rw [List.replicate_succ, List.flatten_cons]
    by_cases c : t < rr.length
    · rw [List.getElem?_append_left c, Nat.mod_eq_of_lt c]
    · rw [List.getElem?_append_right (by omega), flat_at hp k (t - rr.length) (by rw [Nat.succ_mul] at h; omega)]
      rw [← Nat.mod_eq_sub_mod (by omega)]
theorem round_ok {rr : List Bool} {n N : Nat} (hp : 0 < rr.length) (hpn : rr.length ≤ n) (hn : n ≤ 6) {i : Nat} {g : Bool} (h1 : 20 * rr.length ≤ i) (h2 : i < N * rr.length)
    (hg : (glS (.ps 64 n) (List.replicate 64 1, 0) ((List.replicate N rr).flatten.map fun b => ((0 : Int), (0 : Int), b)))[i]? = some g) : (List.replicate N rr).flatten[i]? = some g := by
  let b : Nat → Bool := fun t => rr.getD (t % rr.length) false
  have hb : ∀ t, b (t + rr.length) = b t := fun t => by simp [b]
  have hat : ∀ t, t < N * rr.length → (List.replicate N rr).flatten[t]? = some (b t) := fun t ht => by
    rw [flat_at hp N t ht]
    have := Nat.mod_lt t hp
    simp [b, List.getD, List.getElem?_eq_getElem this]
  have hlen : (List.replicate N rr).flatten.length = N * rr.length := by simp
  have hrow : ∀ t x, ((List.replicate N rr).flatten.map fun b => ((0 : Int), (0 : Int), b))[t]? = some x → x = (0, 0, b t) := fun t x hx => by
    have ht : t < N * rr.length := by
      have := (List.getElem?_eq_some_iff.mp hx).1
      rw [List.length_map, hlen] at this
      exact this
    rw [List.getElem?_map, hat t ht] at hx
    simpa using hx.symm
  have hx : ((List.replicate N rr).flatten.map fun b => ((0 : Int), (0 : Int), b))[i]? = some (0, 0, b i) := by
    rw [List.getElem?_map, hat i h2]
    rfl
  rw [glS_at hx, st_round hn hrow i (by rw [List.length_map, hlen]; omega)] at hg
  have hpi : ps b n i < 64 := Nat.lt_of_lt_of_le (ps_lt b n i) (Nat.le_trans (Nat.pow_le_pow_right (by decide) hn) (by decide))
  have hs : (Kc.ps 64 (n : Int)).spot 0 (ps b n i : Int) = (ps b n i : Int) := xor0 hpi
  have hg2 : decide (2 ≤ (Fc b n i).getD ((Kc.ps 64 (n : Int)).spot 0 (ps b n i : Int)).toNat 0) = g := Option.some.inj hg
  rw [hs] at hg2
  have := two_up (b := b) (n := n) (p := rr.length) hp hpn hb (f := fun t => (Fc b n t).getD (ps b n i) 0) (v := ps b n i) (t := i) (by omega) rfl (Fc_range hpi) (fun s => Fc_next hpi)
  rw [hat i h2, ← hg2]
  exact congrArg some this.symm
end VI.Pr

set_option Elab.async false
set_option linter.all false
set_option maxRecDepth 100000
set_option maxHeartbeats 2000000
/-! PrR: rows of branches, guessed by a predictor. -/
namespace VI.Pr
open PySem L2 VI VI.Sh
def t24 : Df := ⟨5, 1, (.cons (.ife (.or (.not (.val (.isi (.var 0) "tuple"))) (.not (.tru (.blt .all (.cons (.lc (.seq (.var 0)) [4] (.name 4) .yes (.andE (.isi (.var 4) "tuple") (.cmp .eq (.blt .len (.cons (.var 4) .nil)) (.int 3)))) .nil))))) (.cons (.raise 3 (.init ["word"]) (.cons (.str "rows") .nil))
 .nil) .nil)
 (.cons (.for_ (.seq (.var 0)) (.tup 3 (.cons (.name 1) (.cons (.name 2) (.cons (.name 3) .nil)))) (.cons (.drop (.call 6 (.cons (.var 1) .nil)))
 (.cons (.drop (.call 6 (.cons (.var 2) .nil)))
 (.cons (.ife (.and (.val (.cmp .isn (.var 3) (.bl true))) (.val (.cmp .isn (.var 3) (.bl false)))) (.cons (.raise 3 (.init ["word"]) (.cons (.str "rows") .nil))
 .nil) .nil)
 .nil))))
 .nil))⟩
def t25 : Df := ⟨7, 2, (.cons (.asg (.name 2) (.mk 4 7 (.cons (.var 0) .nil)))
 (.cons (.drop (.call 24 (.cons (.var 1) .nil)))
 (.cons (.asg (.name 3) (.lst .nil))
 (.cons (.for_ (.seq (.var 1)) (.tup 3 (.cons (.name 4) (.cons (.name 5) (.cons (.name 6) .nil)))) (.cons (.drop (.bm .append (.var 3) (.cons (.meth "guess" [(4, 9)] (.var 2) (.cons (.var 4) (.cons (.var 5) .nil))) .nil)))
 (.cons (.drop (.meth "learn" [(4, 10)] (.var 2) (.cons (.var 4) (.cons (.var 6) .nil))))
 .nil)))
 (.cons (.ret (.blt .tuple (.cons (.var 3) .nil)))
 .nil)))))⟩
def t26 : Df := ⟨4, 2, (.cons (.ret (.blt .len (.cons (.lc (.zip (.call 25 (.cons (.var 0) (.cons (.var 1) .nil))) (.var 1)) [2, 3] (.tup 2 (.cons (.name 2) (.cons (.name 3) .nil))) (.val (.cmp .ne (.var 2) (.idx (.var 3) (.int 2)))) (.var 2)) .nil)))
 .nil)⟩
structure HasR (T : Tab) extends HasQ T where
  d24 : T.df 24 = some t24
  d25 : T.df 25 = some t25
  d26 : T.df 26 = some t26
def rowD (r : Row) : D := .tup [.int r.1, .int r.2.1, .bl r.2.2]
def Row.ok (r : Row) : Prop := 0 ≤ r.1 ∧ r.1 ≤ 65535 ∧ 0 ≤ r.2.1 ∧ r.2.1 ≤ 65535
section
variable {T : Tab} {n : Nat} {S : Store}
theorem all_true {ys : List D} (h : ∀ (i : Nat) (y : D), ys[i]? = some y → y = .bl true) : blsOf ys = some (List.replicate ys.length true) := by
  have e : ys = (List.replicate ys.length true).map D.bl := by
    apply List.ext_getElem?
    intro i
    rw [List.getElem?_map, List.getElem?_replicate]
    cases hy : ys[i]? with
    | none =>
      have := List.getElem?_eq_none_iff.mp hy
      rw [if_neg (by omega)]
      rfl
    | some y =>
      have := (List.getElem?_eq_some_iff.mp hy).1
      rw [if_pos this, h i y hy]
      rfl
  conv => lhs; rw [e]
  exact blsOf_map
theorem look_rows (hT : HasR T) {rs : List Row} (hr : ∀ r ∈ rs, Row.ok r) (hl : rs.length < 16777216) : ∃ S', run T (n + 3) 24 [.tup (rs.map rowD)] S = .ok .non S' ∧ Keeps [] S S' := by
  have key : (run T (n + 3) 24 [.tup (rs.map rowD)] S).want (fun a S' => a = .non ∧ Keeps [] S S') fun _ _ => False := by
    refine run_i hT.d24 rfl ?_
    obtain ⟨a, S1, e1, rfl, ys, h1, h2, h3⟩ := want_some (r := lcS (pgAt T (n + 2)) [4] (.name 4) .yes (.andE (.isi (.var 4) "tuple") (.cmp .eq (.blt .len (.cons (.var 4) .nil)) (.int 3))) [.val (.tup (rs.map rowD)), .no, .no, .no, .no] (.fix (rs.map rowD)) S)
      (k := fun a S' => a = .ref S.length ∧ ∃ ys : List D, (∀ (i : Nat) (y : D), ys[i]? = some y → y = .bl true) ∧ at_ S' S.length = some (.lst ys) ∧ Keeps [] S S') (by
        refine want_map (ds := rs.map rowD) (R := fun i y => y = .bl true) (fun i S' => Keeps [] S S') rfl (by simpa using hl) (fun _ _ _ => rfl) (fun i S' c h => h.set (.inr (Nat.le_refl _))) (Keeps.app Keeps.refl) (fun i d acc S' hd hk ha => ?_) (fun ys S' h1 h2 h3 h4 => ⟨rfl, ys, h2, h4, h3⟩)
        rw [List.getElem?_map] at hd
        obtain ⟨r, hr1, rfl⟩ := Option.map_eq_some_iff.mp hd
        simp [rowD, hk, ha])
    have e2 := all_true h1
    simp [t24, e1, h2, e2]
    refine wp_seq (wp_for_fix (ds := rs.map rowD) (fun i env S' => Keeps [] S S' ∧ ∃ e1 e2 e3 e4, env = [.val (.tup (rs.map rowD)), e1, e2, e3, e4]) (by simp; omega) ⟨h3, _, _, _, _, rfl⟩ (fun i d env S' hd hI => ?_) (fun env S' hI => ?_))
    · obtain ⟨hk, e1, e2, e3, e4, rfl⟩ := hI
      rw [List.getElem?_map] at hd
      obtain ⟨r, hr1, rfl⟩ := Option.map_eq_some_iff.mp hd
      obtain ⟨o1, o2, o3, o4⟩ := hr r (List.mem_of_getElem? hr1)
      have f1 := look_index hT.toHasQ (n := n) (S := S') o1 o2
      have f2 := look_index hT.toHasQ (n := n) (S := S') o3 o4
      obtain ⟨ri, rt, rb⟩ := r
      cases rb <;> simp [rowD, f1, f2, hk]
    · obtain ⟨hk, e1, e2, e3, e4, rfl⟩ := hI
      simp [hk]
  obtain ⟨a, S', e, rfl, r⟩ := want_some key
  exact ⟨S', e, r⟩
theorem guesses (hT : HasR T) {k : Kc} (hk : k.ok) {rs : List Row} (hr : ∀ r ∈ rs, Row.ok r) (hl : rs.length < 16777216) : ∃ S', run T (n + 5) 25 [k.d, .tup (rs.map rowD)] S = .ok (.tup ((glS k (List.replicate k.size 1, 0) rs).map .bl)) S' ∧ Keeps [] S S' := by
  have key : (run T (n + 5) 25 [k.d, .tup (rs.map rowD)] S).want (fun a S' => a = .tup ((glS k (List.replicate k.size 1, 0) rs).map .bl) ∧ Keeps [] S S') fun _ _ => False := by
    refine run_i hT.d25 rfl ?_
    have h2 := init hT.toHasQ (n := n) (S := S ++ [.ins 4 []]) (l := S.length) hk (by simp)
    obtain ⟨S1, e1, k1⟩ := look_rows hT (n := n + 1) (S := S ++ [.ins 4 [("kind", k.d), ("past", .int 0), ("counters", .ref (S.length + 2))], .lst [.int 1], .lst (List.replicate k.size (.int 1))]) hr hl
    have P1 : PO S1 S.length (S.length + 2) k (List.replicate k.size 1) 0 := ⟨k1.get (by simp) (by simp), k1.get (by simp) (by simp), by simp⟩
    have l1 := k1.le
    simp at l1
    simp [t25, h2, e1]
    refine wp_seq (wp_for_fix (ds := rs.map rowD) (fun i env S' => Keeps [] S S' ∧ (∃ e4 e5 e6, env = [.val k.d, .val (.tup (rs.map rowD)), .val (.ref S.length), .val (.ref S1.length), e4, e5, e6]) ∧ PO S' S.length (S.length + 2) k (stS k (List.replicate k.size 1, 0) (rs.take i)).1 (stS k (List.replicate k.size 1, 0) (rs.take i)).2 ∧
      at_ S' S1.length = some (.lst ((glS k (List.replicate k.size 1, 0) (rs.take i)).map .bl))) (by simp; omega) ⟨((Keeps.app Keeps.refl).trans k1).trans (Keeps.app Keeps.refl), ⟨_, _, _, rfl⟩, P1.keep (W := []) (Keeps.app Keeps.refl) (by simp) (by simp), by simp [glS]⟩ (fun i d env S' hd hI => ?_) (fun env S' hI => ?_))
    · obtain ⟨hk', ⟨e4, e5, e6, rfl⟩, hPO, hA⟩ := hI
      rw [List.getElem?_map] at hd
      obtain ⟨r, hr1, rfl⟩ := Option.map_eq_some_iff.mp hd
      obtain ⟨o1, o2, o3, o4⟩ := hr r (List.mem_of_getElem? hr1)
      have hlt := (List.getElem?_eq_some_iff.mp hr1).1
      have g1 := guess hT.toHasQ (n := n + 1) hk hPO o1 o2 o3 o4
      have len : (glS k (List.replicate k.size 1, 0) (rs.take i)).length < 16777216 := by rw [glS_len, List.length_take]; omega
      have P2 : ∀ c, PO (S'.set S1.length c) S.length (S.length + 2) k (stS k (List.replicate k.size 1, 0) (rs.take i)).1 (stS k (List.replicate k.size 1, 0) (rs.take i)).2 := fun c => hPO.keep (W := [S1.length]) (Keeps.set Keeps.refl (.inl (by simp))) (by simp; omega) (by simp; omega)
      obtain ⟨S2, g2, P3, k3, L3⟩ := learn hT.toHasQ (n := n + 1) hk (P2 (.lst ((glS k (List.replicate k.size 1, 0) (rs.take i)).map .bl ++ [.bl (k.guess (stS k (List.replicate k.size 1, 0) (rs.take i)).1 (stS k (List.replicate k.size 1, 0) (rs.take i)).2 r.1 r.2.1)]))) (t := r.2.2) o1 o2
      simp [rowD, hPO.ins, g1, hA, len, (P2 _).ins, g2]
      have kf := (hk'.set_ (l := S1.length) (c := .lst ((glS k (List.replicate k.size 1, 0) (rs.take i)).map .bl ++ [.bl (k.guess (stS k (List.replicate k.size 1, 0) (rs.take i)).1 (stS k (List.replicate k.size 1, 0) (rs.take i)).2 r.1 r.2.1)])) (by omega)).new k3 (by simp)
      rw [take_at hr1, stS_app, glS_app]
      refine ⟨kf, P3, ?_⟩
      rw [k3.at_ _ (by simpa using lt_of_at hA) (by simp; omega)]
      simp [hA]
    · obtain ⟨hk', ⟨e4, e5, e6, rfl⟩, hPO, hA⟩ := hI
      simp at hA
      simp [hA, hk']
  obtain ⟨a, S', e, rfl, r⟩ := want_some key
  exact ⟨S', e, r⟩
/-- which guesses are wrong -/
def wr (gs : List Bool) (rs : List Row) (i : Nat) : Bool := match gs[i]?, rs[i]? with
  | some g, some r => g != r.2.2
  | _, _ => false
theorem zip_at {gs : List Bool} {rs : List Row} {i : Nat} {d : D} (h : (List.zipWith (fun d e => D.tup [d, e]) (gs.map .bl) (rs.map rowD))[i]? = some d) : ∃ g r, gs[i]? = some g ∧ rs[i]? = some r ∧ d = .tup [.bl g, rowD r] := by
  rw [List.getElem?_zipWith] at h
  rw [List.getElem?_map, List.getElem?_map] at h
  cases hg : gs[i]? with
  | none => rw [hg] at h; cases h
  | some g =>
    rw [hg] at h
    cases hr : rs[i]? with
    | none => rw [hr] at h; cases h
    | some r =>
      rw [hr] at h
      cases h
      exact ⟨g, r, rfl, rfl, rfl⟩
theorem wrong_ones (hT : HasR T) {k : Kc} (hk : k.ok) {rs : List Row} (hr : ∀ r ∈ rs, Row.ok r) (hl : rs.length < 16777216) : ∃ S', run T (n + 6) 26 [k.d, .tup (rs.map rowD)] S = .ok (.int (cnt (wr (glS k (List.replicate k.size 1, 0) rs) rs) rs.length : Nat)) S' ∧ Keeps [] S S' := by
  have key : (run T (n + 6) 26 [k.d, .tup (rs.map rowD)] S).want (fun a S' => a = .int (cnt (wr (glS k (List.replicate k.size 1, 0) rs) rs) rs.length : Nat) ∧ Keeps [] S S') fun _ _ => False := by
    refine run_i hT.d26 rfl ?_
    obtain ⟨S1, e1, k1⟩ := guesses hT (n := n) (S := S) hk hr hl
    have lz : (List.zipWith (fun d e => D.tup [d, e]) ((glS k (List.replicate k.size 1, 0) rs).map .bl) (rs.map rowD)).length = rs.length := by simp [glS_len]
    obtain ⟨a, S2, e2, rfl, ys, h1, h2, h3⟩ := want_some (r := lcS (pgAt T (n + 5)) [2, 3] (.tup 2 (.cons (.name 2) (.cons (.name 3) .nil))) (.val (.cmp .ne (.var 2) (.idx (.var 3) (.int 2)))) (.var 2) [.val k.d, .val (.tup (rs.map rowD)), .no, .no] (.fix (List.zipWith (fun d e => D.tup [d, e]) ((glS k (List.replicate k.size 1, 0) rs).map .bl) (rs.map rowD))) S1)
      (k := fun a S' => a = .ref S1.length ∧ ∃ ys : List D, ys.length = cnt (wr (glS k (List.replicate k.size 1, 0) rs) rs) rs.length ∧ at_ S' S1.length = some (.lst ys) ∧ Keeps [] S1 S') (by
        refine want_count (ds := List.zipWith (fun d e => D.tup [d, e]) ((glS k (List.replicate k.size 1, 0) rs).map .bl) (rs.map rowD)) (c := wr (glS k (List.replicate k.size 1, 0) rs) rs) (fun i S' => Keeps [] S1 S') rfl (by rw [lz]; omega) (fun _ _ _ => rfl) (fun i S' c h => h.set_ (Nat.le_refl _)) (Keeps.app Keeps.refl) (fun i d acc S' hd hk ha => ?_) (fun i d acc S' hd hk ha hc => ?_) (fun ys S' h1 h2 h3 => ⟨rfl, ys, by rw [h1, lz], h3, h2⟩)
        · obtain ⟨g, r, hg, hr, rfl⟩ := zip_at hd
          simp [rowD, hk, ha, wr, hg, hr]
          cases g <;> cases r.2.2 <;> rfl
        · obtain ⟨g, r, hg, hr, rfl⟩ := zip_at hd
          simp [rowD, hk, ha])
    rw [List.zipWith_map] at e2
    simp [t26, e1, e2, h2, h1]
    exact k1.trans h3
  obtain ⟨a, S', e, rfl, r⟩ := want_some key
  exact ⟨S', e, r⟩
end
end VI.Pr

set_option Elab.async false
set_option linter.all false
set_option maxRecDepth 100000
set_option maxHeartbeats 2000000
/-! M10a: machines of few states, in plain Lean. -/
namespace VI.Mc
abbrev Way := List (Nat × Nat)
def nxt (w : Way) (s : Nat) (o : Bool) : Nat := if o then (w.getD s (0, 0)).2 else (w.getD s (0, 0)).1
def stp (g : List Bool) (w : Way) (q : Nat × Nat) (o : Bool) : Nat × Nat := (nxt w q.1 o, q.2 + if g.getD q.1 false = o then 0 else 1)
def wro (g : List Bool) (w : Way) (os : List Bool) : Nat := (os.foldl (stp g w) (0, 0)).2
def okW (n : Nat) (w : Way) : Prop := w.length = n ∧ ∀ p ∈ w, p.1 < n ∧ p.2 < n
def mach (n : Nat) (g : List Bool) (w : Way) : Prop := g.length = n ∧ okW n w
theorem nxt_lt {n : Nat} {w : Way} (h : okW n w) (hn : 0 < n) (s : Nat) (o : Bool) : nxt w s o < n := by
  unfold nxt
  rw [List.getD_eq_getElem?_getD]
  cases e : w[s]? with
  | none => cases o <;> exact hn
  | some p =>
    have := h.2 p (List.mem_of_getElem? e)
    cases o
    · exact this.1
    · exact this.2
/-! ### all rows -/
def rows {α : Type} (xs : List α) : Nat → List (List α)
  | 0 => [[]]
  | n + 1 => ((rows xs n).map fun r => xs.map fun x => r ++ [x]).flatten
theorem rows_map {α β : Type} (f : α → β) (xs : List α) : ∀ n, rows (xs.map f) n = (rows xs n).map (List.map f)
  | 0 => rfl
  | n + 1 => by
    unfold rows
    rw [rows_map f xs n, List.map_flatten, List.map_map, List.map_map]
    congr 1
    apply List.map_congr_left
    intro r _
    simp [Function.comp_def]
theorem rows_len {α : Type} (xs : List α) : ∀ n, (rows xs n).length = xs.length ^ n
  | 0 => rfl
  | n + 1 => by
    unfold rows
    rw [List.length_flatten, List.map_map, show (List.length ∘ fun r : List α => xs.map fun x => r ++ [x]) = fun _ => xs.length by funext r; simp, List.map_const', List.sum_replicate_nat, rows_len xs n, Nat.pow_succ]
theorem mem_rows {α : Type} {xs : List α} : ∀ {n : Nat} {r : List α}, r ∈ rows xs n ↔ r.length = n ∧ ∀ x ∈ r, x ∈ xs
  | 0, r => by
    unfold rows
    rw [List.mem_singleton]
    exact ⟨fun h => by subst h; exact ⟨rfl, by simp⟩, fun h => List.length_eq_zero_iff.mp h.1⟩
  | n + 1, r => by
    unfold rows
    rw [List.mem_flatten]
    constructor
    · rintro ⟨l, hl, hr⟩
      obtain ⟨a, ha, rfl⟩ := List.mem_map.mp hl
      obtain ⟨x, hx, rfl⟩ := List.mem_map.mp hr
      obtain ⟨h1, h2⟩ := mem_rows.mp ha
      refine ⟨by simp [h1], fun y hy => ?_⟩
      rcases List.mem_append.mp hy with hy | hy
      · exact h2 y hy
      · rw [List.mem_singleton] at hy
        rw [hy]; exact hx
    · rintro ⟨h1, h2⟩
      have hne : r ≠ [] := fun e => by rw [e] at h1; cases h1
      refine ⟨xs.map fun x => r.dropLast ++ [x], List.mem_map.mpr ⟨r.dropLast, mem_rows.mpr ⟨by rw [List.length_dropLast]; omega, fun x hx => h2 x (List.dropLast_subset r hx)⟩, rfl⟩, List.mem_map.mpr ⟨r.getLast hne, h2 _ (List.getLast_mem hne), List.dropLast_concat_getLast hne⟩⟩
def pairs (n : Nat) : List (Nat × Nat) := ((List.range n).map fun a => (List.range n).map fun b => (a, b)).flatten
theorem mem_pairs {n : Nat} {p : Nat × Nat} : p ∈ pairs n ↔ p.1 < n ∧ p.2 < n := by
  unfold pairs
  rw [List.mem_flatten]
  constructor
  · rintro ⟨l, hl, hp⟩
    obtain ⟨a, ha, rfl⟩ := List.mem_map.mp hl
    obtain ⟨b, hb, rfl⟩ := List.mem_map.mp hp
    exact ⟨List.mem_range.mp ha, List.mem_range.mp hb⟩
  · rintro ⟨h1, h2⟩
    exact ⟨_, List.mem_map.mpr ⟨p.1, List.mem_range.mpr h1, rfl⟩, List.mem_map.mpr ⟨p.2, List.mem_range.mpr h2, rfl⟩⟩
theorem pairs_len {n : Nat} : (pairs n).length = n * n := by
  unfold pairs
  rw [List.length_flatten, List.map_map, show (List.length ∘ fun a : Nat => (List.range n).map fun b => (a, b)) = fun _ => n by funext r; simp, List.map_const', List.sum_replicate_nat, List.length_range]
def wayRows (n : Nat) : List Way := rows (pairs n) n
theorem mem_ways {n : Nat} {w : Way} : w ∈ wayRows n ↔ okW n w := by
  unfold wayRows okW
  rw [mem_rows]
  constructor
  · rintro ⟨h1, h2⟩
    exact ⟨h1, fun p hp => mem_pairs.mp (h2 p hp)⟩
  · rintro ⟨h1, h2⟩
    exact ⟨h1, fun p hp => mem_pairs.mpr (h2 p hp)⟩
def machs (n : Nat) : List (List Bool × Way) := ((rows [false, true] n).map fun g => (wayRows n).map fun w => (g, w)).flatten
theorem mem_machs {n : Nat} {m : List Bool × Way} : m ∈ machs n ↔ mach n m.1 m.2 := by
  unfold machs
  rw [List.mem_flatten]
  constructor
  · rintro ⟨l, hl, hp⟩
    obtain ⟨a, ha, rfl⟩ := List.mem_map.mp hl
    obtain ⟨b, hb, rfl⟩ := List.mem_map.mp hp
    exact ⟨(mem_rows.mp ha).1, mem_ways.mp hb⟩
  · rintro ⟨h1, h2⟩
    exact ⟨_, List.mem_map.mpr ⟨m.1, mem_rows.mpr ⟨h1, fun x _ => by cases x <;> simp⟩, rfl⟩, List.mem_map.mpr ⟨m.2, mem_ways.mpr h2, rfl⟩⟩
theorem ways_len {n : Nat} (h : n ≤ 3) : (wayRows n).length ≤ 729 := by
  unfold wayRows
  rw [rows_len, pairs_len]
  match n, h with
  | 0, _ => decide
  | 1, _ => decide
  | 2, _ => decide
  | 3, _ => decide
  | n + 4, h => omega
theorem machs_len {n : Nat} (h : n ≤ 3) : (machs n).length ≤ 5832 := by
  unfold machs
  rw [List.length_flatten, List.map_map, show (List.length ∘ fun g : List Bool => (wayRows n).map fun w => (g, w)) = fun _ => (wayRows n).length by funext r; simp, List.map_const', List.sum_replicate_nat, rows_len]
  have h1 := ways_len h
  have h2 : [false, true].length ^ n ≤ 8 := by
    match n, h with
    | 0, _ => decide
    | 1, _ => decide
    | 2, _ => decide
    | 3, _ => decide
    | n + 4, h => omega
  calc _ ≤ 8 * 729 := Nat.mul_le_mul h2 h1
    _ ≤ _ := by decide
/-! ### what each state sees -/
def bmp (o : Bool) (p : Nat × Nat) : Nat × Nat := if o then (p.1, p.2 + 1) else (p.1 + 1, p.2)
def stpC (w : Way) (q : Nat × List (Nat × Nat)) (o : Bool) : Nat × List (Nat × Nat) := (nxt w q.1 o, q.2.set q.1 (bmp o (q.2.getD q.1 (0, 0))))
def seen (n : Nat) (w : Way) (os : List Bool) : Nat × List (Nat × Nat) := os.foldl (stpC w) (0, List.replicate n (0, 0))
def best (n : Nat) (w : Way) (os : List Bool) : Nat := ((seen n w os).2.map fun p => min p.1 p.2).sum
theorem foldC_len (w : Way) : ∀ (os : List Bool) (q : Nat × List (Nat × Nat)), (os.foldl (stpC w) q).2.length = q.2.length
  | [], q => rfl
  | o :: os, q => by
    rw [List.foldl_cons, foldC_len w os]
    simp [stpC]
theorem seen_len {n : Nat} {w : Way} {os : List Bool} : (seen n w os).2.length = n := by
  unfold seen
  rw [foldC_len]
  simp
def pickS (g : List Bool) (c : List (Nat × Nat)) : Nat := (List.zipWith (fun b (p : Nat × Nat) => if b then p.1 else p.2) g c).sum
theorem pick_set : ∀ {g : List Bool} {c : List (Nat × Nat)} {s : Nat} {o : Bool}, s < g.length → g.length = c.length → pickS g (c.set s (bmp o (c.getD s (0, 0)))) = pickS g c + if g.getD s false = o then 0 else 1
  | [], c, s, o, h, _ => by simp at h
  | b :: g, [], s, o, h, e => by simp at e
  | b :: g, p :: c, 0, o, h, e => by
    unfold pickS
    cases b <;> cases o <;> simp [bmp] <;> omega
  | b :: g, p :: c, s + 1, o, h, e => by
    have ih := pick_set (g := g) (c := c) (s := s) (o := o) (by simpa using h) (by simpa using e)
    unfold pickS at ih ⊢
    simp at ih ⊢
    omega
theorem fold_pick {n : Nat} {g : List Bool} {w : Way} (hw : okW n w) (hn : 0 < n) (hg : g.length = n) : ∀ (os : List Bool) (s k : Nat) (c : List (Nat × Nat)), s < n → c.length = n → k = pickS g c →
    (os.foldl (stp g w) (s, k)).2 = pickS g (os.foldl (stpC w) (s, c)).2
  | [], s, k, c, h1, h2, h3 => h3
  | o :: os, s, k, c, h1, h2, h3 => by
    rw [List.foldl_cons, List.foldl_cons]
    refine fold_pick hw hn hg os _ _ _ (nxt_lt hw hn s o) (by simp [h2]) ?_
    show _ = pickS g (c.set s (bmp o (c.getD s (0, 0))))
    rw [pick_set (by omega) (by omega), h3]
theorem pick_zero : ∀ {g : List Bool} {n : Nat}, pickS g (List.replicate n (0, 0)) = 0
  | [], n => rfl
  | b :: g, 0 => rfl
  | b :: g, n + 1 => by
    have := pick_zero (g := g) (n := n)
    unfold pickS at this ⊢
    rw [List.replicate_succ, List.zipWith_cons_cons, List.sum_cons, this]
    cases b <;> rfl
theorem wro_pick {n : Nat} {g : List Bool} {w : Way} (hn : 0 < n) (h : mach n g w) (os : List Bool) : wro g w os = pickS g (seen n w os).2 :=
  fold_pick h.2 hn h.1 os 0 0 _ hn (by simp) pick_zero.symm
theorem pick_ge : ∀ {g : List Bool} {c : List (Nat × Nat)}, g.length = c.length → (c.map fun p => min p.1 p.2).sum ≤ pickS g c
  | [], [], _ => Nat.le_refl _
  | [], _ :: _, h => by simp at h
  | _ :: _, [], h => by simp at h
  | b :: g, p :: c, h => by
    have ih := pick_ge (g := g) (c := c) (by simpa using h)
    unfold pickS at ih ⊢
    rw [List.zipWith_cons_cons, List.sum_cons, List.map_cons, List.sum_cons]
    cases b <;> simp <;> omega
theorem pick_eq : ∀ {c : List (Nat × Nat)}, pickS (c.map fun p => decide (p.1 ≤ p.2)) c = (c.map fun p => min p.1 p.2).sum
  | [] => rfl
  | p :: c => by
    have ih := pick_eq (c := c)
    unfold pickS at ih ⊢
    rw [List.map_cons, List.zipWith_cons_cons, List.sum_cons, List.map_cons, List.sum_cons, ih]
    by_cases h : p.1 ≤ p.2
    · simp [h]
    · simp [h]; omega
/-- the least number of wrong guesses -/
def Least (n : Nat) (os : List Bool) (m : Nat) : Prop := (∃ g w, mach n g w ∧ m = wro g w os) ∧ ∀ g w, mach n g w → m ≤ wro g w os
theorem Least.uniq {n : Nat} {os : List Bool} {a b : Nat} (h : Least n os a) (k : Least n os b) : a = b := by
  obtain ⟨⟨g, w, h1, rfl⟩, h2⟩ := h
  obtain ⟨⟨g', w', k1, rfl⟩, k2⟩ := k
  have := h2 _ _ k1
  have := k2 _ _ h1
  omega
theorem least_best {n : Nat} {os : List Bool} {m : Nat} (hn : 0 < n) (h1 : ∃ w, okW n w ∧ m = best n w os) (h2 : ∀ w, okW n w → m ≤ best n w os) : Least n os m := by
  obtain ⟨w, hw, rfl⟩ := h1
  refine ⟨⟨(seen n w os).2.map fun p => decide (p.1 ≤ p.2), w, ⟨by simp [seen_len], hw⟩, ?_⟩, fun g w' hm => ?_⟩
  · rw [wro_pick hn ⟨by simp [seen_len], hw⟩, pick_eq]
    rfl
  · rw [wro_pick hn hm]
    exact Nat.le_trans (h2 w' hm.2) (pick_ge (by rw [seen_len]; exact hm.1))
/-- a best number is no more than all -/
theorem best_le {n : Nat} {w : Way} {os : List Bool} (hw : okW n w) (hn : 0 < n) : best n w os ≤ os.length := by
  have h : mach n (List.replicate n false) w := ⟨by simp, hw⟩
  have h1 : best n w os ≤ wro (List.replicate n false) w os := by
    rw [wro_pick hn h]
    exact pick_ge (by rw [seen_len]; simp)
  have h2 : ∀ (os : List Bool) (q : Nat × Nat), (os.foldl (stp (List.replicate n false) w) q).2 ≤ q.2 + os.length := by
    intro os
    induction os with
    | nil => intro q; simp
    | cons o os ih =>
      intro q
      rw [List.foldl_cons]
      refine Nat.le_trans (ih _) ?_
      unfold stp
      simp only [List.length_cons]
      split <;> omega
  have := h2 os (0, 0)
  unfold wro at h1
  omega
/-! ### turned about -/
def neg (os : List Bool) : List Bool := os.map (!·)
def swp (w : Way) : Way := w.map fun p => (p.2, p.1)
theorem getD_neg {g : List Bool} {s : Nat} (h : s < g.length) : (neg g).getD s false = !(g.getD s false) := by
  unfold neg
  simp [List.getD_eq_getElem?_getD, h]
theorem nxt_swp {w : Way} {s : Nat} {o : Bool} : nxt (swp w) s (!o) = nxt w s o := by
  unfold nxt swp
  simp only [List.getD_eq_getElem?_getD, List.getElem?_map]
  cases w[s]? <;> cases o <;> rfl
theorem okW_swp {n : Nat} {w : Way} (h : okW n w) : okW n (swp w) := by
  refine ⟨by unfold swp; simp [h.1], fun p hp => ?_⟩
  obtain ⟨q, hq, rfl⟩ := List.mem_map.mp hp
  exact ⟨(h.2 q hq).2, (h.2 q hq).1⟩
theorem fold_neg {n : Nat} {g : List Bool} {w : Way} (hn : 0 < n) (h : mach n g w) : ∀ (os : List Bool) (q : Nat × Nat), q.1 < n → (neg os).foldl (stp (neg g) (swp w)) q = os.foldl (stp g w) q
  | [], q, _ => rfl
  | o :: os, q, hq => by
    show (neg os).foldl (stp (neg g) (swp w)) (stp (neg g) (swp w) q (!o)) = os.foldl (stp g w) (stp g w q o)
    have e : stp (neg g) (swp w) q (!o) = stp g w q o := by
      unfold stp
      rw [nxt_swp, getD_neg (by rw [h.1]; exact hq)]
      cases g.getD q.1 false <;> cases o <;> rfl
    rw [e]
    exact fold_neg hn h os _ (nxt_lt h.2 hn _ _)
theorem wro_neg {n : Nat} {g : List Bool} {w : Way} (hn : 0 < n) (h : mach n g w) {os : List Bool} : wro (neg g) (swp w) (neg os) = wro g w os := by
  unfold wro
  rw [fold_neg hn h os (0, 0) hn]
theorem mach_neg {n : Nat} {g : List Bool} {w : Way} (h : mach n g w) : mach n (neg g) (swp w) := ⟨by unfold neg; simp [h.1], okW_swp h.2⟩
theorem neg_neg (os : List Bool) : neg (neg os) = os := by
  unfold neg
  simp [Function.comp_def]
theorem swp_swp (w : Way) : swp (swp w) = w := by
  unfold swp
  simp [Function.comp_def]
theorem Least.neg {n : Nat} {os : List Bool} {m : Nat} (hn : 0 < n) (h : Least n os m) : Least n (neg os) m := by
  obtain ⟨⟨g, w, h1, rfl⟩, h2⟩ := h
  refine ⟨⟨Mc.neg g, swp w, mach_neg h1, (wro_neg hn h1).symm⟩, fun g' w' h' => ?_⟩
  have e := wro_neg hn (mach_neg h') (os := os)
  rw [neg_neg, swp_swp] at e
  have := h2 _ _ (mach_neg h')
  rw [← e] at this
  have e2 := wro_neg hn (mach_neg h') (os := os)
  rw [neg_neg, swp_swp] at e2
  omega
/-! ### more states -/
theorem Least.more {n : Nat} {os : List Bool} {a b : Nat} (hn : 0 < n) (h : Least n os a) (k : Least (n + 1) os b) : b ≤ a := by
  obtain ⟨⟨g, w, h1, rfl⟩, h2⟩ := h
  have hm : mach (n + 1) (g ++ [false]) (w ++ [(0, 0)]) := by
    refine ⟨by simp [h1.1], by simp [h1.2.1], fun p hp => ?_⟩
    rcases List.mem_append.mp hp with hp | hp
    · have := h1.2.2 p hp
      omega
    · rw [List.mem_singleton] at hp
      subst hp
      exact ⟨Nat.succ_pos _, Nat.succ_pos _⟩
  have e : ∀ (os : List Bool) (q : Nat × Nat), q.1 < n → os.foldl (stp (g ++ [false]) (w ++ [(0, 0)])) q = os.foldl (stp g w) q := by
    intro os
    induction os with
    | nil => intro q _; rfl
    | cons o os ih =>
      intro q hq
      rw [List.foldl_cons, List.foldl_cons]
      have e : stp (g ++ [false]) (w ++ [(0, 0)]) q o = stp g w q o := by
        unfold stp nxt
        simp only [List.getD_eq_getElem?_getD]
        rw [List.getElem?_append_left (by rw [h1.2.1]; exact hq), List.getElem?_append_left (by rw [h1.1]; exact hq)]
      rw [e]
      exact ih _ (nxt_lt h1.2 hn _ _)
  have := k.2 _ _ hm
  unfold wro at this ⊢
  rw [e os (0, 0) hn] at this
  exact this
/-! ### one state -/
def cnt1 (b : Bool) (os : List Bool) : Nat := os.foldl (fun k o => k + if b = o then 0 else 1) 0
theorem wro_one {b : Bool} {os : List Bool} : wro [b] [(0, 0)] os = cnt1 b os := by
  unfold wro cnt1
  have e : ∀ (os : List Bool) (k : Nat), (os.foldl (stp [b] [(0, 0)]) (0, k)).2 = os.foldl (fun k o => k + if b = o then 0 else 1) k := by
    intro os
    induction os with
    | nil => intro k; rfl
    | cons o os ih =>
      intro k
      rw [List.foldl_cons, List.foldl_cons]
      have : stp [b] [(0, 0)] (0, k) o = (0, k + if b = o then 0 else 1) := by cases o <;> rfl
      rw [this]
      exact ih _
  exact e os 0
theorem Least.one {os : List Bool} {m : Nat} (h : Least 1 os m) : m = min (cnt1 false os) (cnt1 true os) := by
  have f : ∀ b, mach 1 [b] [(0, 0)] := fun b => ⟨rfl, rfl, fun p hp => by rw [List.mem_singleton] at hp; subst hp; exact ⟨Nat.zero_lt_one, Nat.zero_lt_one⟩⟩
  have h1 := h.2 _ _ (f false)
  have h2 := h.2 _ _ (f true)
  rw [wro_one] at h1 h2
  obtain ⟨⟨g, w, hm, rfl⟩, _⟩ := h
  obtain ⟨b, rfl⟩ := List.length_eq_one_iff.mp hm.1
  obtain ⟨p, rfl⟩ := List.length_eq_one_iff.mp hm.2.1
  have hp := hm.2.2 p (by simp)
  have e : p = (0, 0) := by
    obtain ⟨a, c⟩ := p
    have h1 : a < 1 := hp.1
    have h2 : c < 1 := hp.2
    have e1 : a = 0 := by omega
    have e2 : c = 0 := by omega
    rw [e1, e2]
  subst e
  rw [wro_one] at h1 h2 ⊢
  cases b <;> omega
end VI.Mc

set_option Elab.async false
set_option linter.all false
set_option maxRecDepth 100000
set_option maxHeartbeats 2000000
/-! Bst: the defs of the least wrong machines, in any table that has them. -/
namespace VI.Bst
open PySem L2 VI VI.Sh VI.Mc
/-- look_at_outcomes -/
def t36 : Df := ⟨2, 1, (.cons (.ife (.or (.not (.val (.isi (.var 0) "tuple"))) (.not (.tru (.blt .all (.cons (.lc (.seq (.var 0)) [1] (.name 1) .yes (.orE (.cmp .is (.var 1) (.bl true)) (.cmp .is (.var 1) (.bl false)))) .nil))))) (.cons (.raise 3 (.init ["word"]) (.cons (.str "outcomes") .nil))
 .nil) .nil)
 (.cons (.ife (.val (.cmp .gt (.blt .len (.cons (.var 0) .nil)) (.int 200))) (.cons (.raise 6 (.init ["word"]) (.cons (.str "many") .nil))
 .nil) .nil)
 .nil))⟩
/-- look_at_states -/
def t37 : Df := ⟨1, 1, (.cons (.ife (.or (.not (.tru (.call 3 (.cons (.var 0) .nil)))) (.not (.val (.chain .le .le (.int 1) (.var 0) (.int 3))))) (.cons (.raise 3 (.init ["word"]) (.cons (.str "states") .nil))
 .nil) .nil)
 .nil)⟩
/-- is_machine -/
def t38 : Df := ⟨6, 1, (.cons (.ife (.or (.not (.val (.isi (.var 0) "tuple"))) (.or (.val (.cmp .ne (.blt .len (.cons (.var 0) .nil)) (.int 2))) (.not (.tru (.blt .all (.cons (.lc (.seq (.var 0)) [4] (.name 4) .yes (.isi (.var 4) "tuple")) .nil)))))) (.cons (.ret (.bl false))
 .nil) .nil)
 (.cons (.asg (.tup 2 (.cons (.name 1) (.cons (.name 2) .nil))) (.var 0))
 (.cons (.ife (.or (.not (.val (.chain .le .le (.int 1) (.blt .len (.cons (.var 1) .nil)) (.int 3)))) (.val (.cmp .ne (.blt .len (.cons (.var 2) .nil)) (.blt .len (.cons (.var 1) .nil))))) (.cons (.ret (.bl false))
 .nil) .nil)
 (.cons (.ife (.not (.tru (.blt .all (.cons (.lc (.seq (.var 1)) [5] (.name 5) .yes (.orE (.cmp .is (.var 5) (.bl true)) (.cmp .is (.var 5) (.bl false)))) .nil)))) (.cons (.ret (.bl false))
 .nil) .nil)
 (.cons (.for_ (.seq (.var 2)) (.name 3) (.cons (.ife (.or (.not (.val (.isi (.var 3) "tuple"))) (.val (.cmp .ne (.blt .len (.cons (.var 3) .nil)) (.int 2)))) (.cons (.ret (.bl false))
 .nil) .nil)
 (.cons (.ife (.not (.tru (.blt .all (.cons (.lc (.seq (.var 3)) [5] (.name 5) .yes (.andE (.call 3 (.cons (.var 5) .nil)) (.chain .le .lt (.int 0) (.var 5) (.blt .len (.cons (.var 1) .nil))))) .nil)))) (.cons (.ret (.bl false))
 .nil) .nil)
 .nil)))
 (.cons (.ret (.bl true))
 .nil))))))⟩
/-- wrong_of -/
def t39 : Df := ⟨2, 2, (.cons (.ife (.not (.tru (.call 38 (.cons (.var 0) .nil)))) (.cons (.raise 3 (.init ["word"]) (.cons (.str "machine") .nil))
 .nil) .nil)
 (.cons (.drop (.call 36 (.cons (.var 1) .nil)))
 (.cons (.ret (.call 40 (.cons (.var 0) (.cons (.var 1) .nil))))
 .nil)))⟩
/-- walked -/
def t40 : Df := ⟨7, 2, (.cons (.asg (.tup 2 (.cons (.name 2) (.cons (.name 3) .nil))) (.var 0))
 (.cons (.asg (.tup 2 (.cons (.name 4) (.cons (.name 5) .nil))) (.tup (.cons (.int 0) (.cons (.int 0) .nil))))
 (.cons (.for_ (.seq (.var 1)) (.name 6) (.cons (.aug 5 .add (.blt .int (.cons (.cmp .ne (.idx (.var 2) (.var 4)) (.var 6)) .nil)))
 (.cons (.asg (.name 4) (.idx (.idx (.var 3) (.var 4)) (.blt .int (.cons (.var 6) .nil))))
 .nil)))
 (.cons (.ret (.var 5))
 .nil))))⟩
/-- rows_of -/
def t41 : Df := ⟨6, 2, (.cons (.asg (.name 2) (.lst (.cons (.tup .nil) .nil)))
 (.cons (.for_ (.rng1 (.var 1)) (.name 3) (.cons (.asg (.name 2) (.lc2 (.seq (.var 2)) [4, 5] (.name 4) .yes (.seq (.var 0)) [5] (.name 5) .yes (.bin .add (.var 4) (.tup (.cons (.var 5) .nil)))))
 .nil))
 (.cons (.ret (.var 2))
 .nil)))⟩
/-- machines -/
def t42 : Df := ⟨4, 1, (.cons (.drop (.call 37 (.cons (.var 0) .nil)))
 (.cons (.asg (.name 1) (.call 41 (.cons (.call 41 (.cons (.lrng1 true (.var 0)) (.cons (.int 2) .nil))) (.cons (.var 0) .nil))))
 (.cons (.ret (.blt .tuple (.cons (.lc2 (.seq (.call 41 (.cons (.tup (.cons (.bl false) (.cons (.bl true) .nil))) (.cons (.var 0) .nil)))) [2, 3] (.name 2) .yes (.seq (.var 1)) [3] (.name 3) .yes (.tup (.cons (.var 2) (.cons (.var 3) .nil)))) .nil)))
 .nil)))⟩
/-- least_wrong -/
def t43 : Df := ⟨5, 2, (.cons (.drop (.call 36 (.cons (.var 0) .nil)))
 (.cons (.drop (.call 37 (.cons (.var 1) .nil)))
 (.cons (.asg (.name 2) .non)
 (.cons (.for_ (.seq (.call 42 (.cons (.var 1) .nil))) (.name 3) (.cons (.asg (.name 4) (.call 40 (.cons (.var 3) (.cons (.var 0) .nil))))
 (.cons (.ife (.or (.val (.cmp .is (.var 2) .non)) (.val (.cmp .lt (.var 4) (.idx (.var 2) (.int 0))))) (.cons (.asg (.name 2) (.tup (.cons (.var 4) (.cons (.var 3) .nil))))
 .nil) .nil)
 .nil)))
 (.cons (.ret (.var 2))
 .nil)))))⟩
/-- counts -/
def t44 : Df := ⟨5, 2, (.cons (.drop (.call 36 (.cons (.var 0) .nil)))
 (.cons (.drop (.call 37 (.cons (.var 1) .nil)))
 (.cons (.asg (.name 2) .dnew)
 (.cons (.for_ (.seq (.call 42 (.cons (.var 1) .nil))) (.name 3) (.cons (.asg (.name 4) (.call 40 (.cons (.var 3) (.cons (.var 0) .nil))))
 (.cons (.asgI (.var 2) (.var 4) (.bin .add (.dget2 (.var 2) (.var 4) (.int 0)) (.int 1)))
 .nil)))
 (.cons (.ret (.blt .tuple (.cons (.srtItems (.var 2)) .nil)))
 .nil)))))⟩
/-- fewest_states -/
def t45 : Df := ⟨3, 2, (.cons (.ife (.or (.not (.tru (.call 3 (.cons (.var 1) .nil)))) (.val (.cmp .lt (.var 1) (.int 0)))) (.cons (.raise 3 (.init ["word"]) (.cons (.str "most") .nil))
 .nil) .nil)
 (.cons (.for_ (.rng2 (.int 1) (.bin .add (.int 3) (.int 1))) (.name 2) (.cons (.ife (.val (.cmp .le (.idx (.call 43 (.cons (.var 0) (.cons (.var 2) .nil))) (.int 0)) (.var 1))) (.cons (.ret (.var 2))
 .nil) .nil)
 .nil))
 (.cons (.ret .non)
 .nil)))⟩
structure HasB (T : Tab) : Prop where
  d3 : T.df 3 = some Sh.t3
  d36 : T.df 36 = some t36
  d37 : T.df 37 = some t37
  d38 : T.df 38 = some t38
  d39 : T.df 39 = some t39
  d40 : T.df 40 = some t40
  d41 : T.df 41 = some t41
  d42 : T.df 42 = some t42
  d43 : T.df 43 = some t43
  d44 : T.df 44 = some t44
  d45 : T.df 45 = some t45
def pD (p : Nat × Nat) : D := .tup [.int p.1, .int p.2]
def wD (w : Way) : D := .tup (w.map pD)
def mD (m : List Bool × Way) : D := .tup [.tup (m.1.map .bl), wD m.2]
section
variable {T : Tab} {n : Nat} {S : Store} {os g : List Bool} {w : Way} {s : Nat}
theorem bools_ok : blsOf (os.map fun _ => D.bl true) = some (os.map fun _ => true) := by
  induction os with
  | nil => rfl
  | cons o os ih => show blsOf (D.bl true :: _) = _; unfold blsOf; rw [ih]; rfl
theorem look_out (hB : HasB T) (h : os.length ≤ 200) : ∃ S', run T (n + 1) 36 [.tup (os.map .bl)] S = .ok .non S' ∧ Keeps [] S S' := by
  have key : (run T (n + 1) 36 [.tup (os.map .bl)] S).want (fun a S' => a = .non ∧ Keeps [] S S') fun _ _ => False := by
    refine run_i hB.d36 rfl ?_
    simp [t36]
    repeat (first | refine wp_seq ?_ | refine wp_toS ?_ | refine want_bind_i ?_)
    refine lc_use (lc_map [] (fun _ => .bl true) rfl (by simp; omega) (fun _ _ _ => rfl) (fun d hd acc S' k a => ?_)) (fun S1 ⟨a1, k1⟩ => ?_)
    · obtain ⟨b, _, rfl⟩ := List.mem_map.mp hd
      cases b <;> simp [k, a]
    · have e := bools_ok (os := os)
      simp [a1, k1, Function.comp_def, e, show ¬ (200 < (os.length : Int)) by omega]
  obtain ⟨a, S', e, rfl, h⟩ := want_some key
  exact ⟨S', e, h⟩
theorem look_states (hB : HasB T) (h1 : 1 ≤ s) (h2 : s ≤ 3) : run T (n + 2) 37 [.int s] S = .ok .non S := by
  obtain ⟨a, S', e, rfl, rfl⟩ := want_some (r := run T (n + 2) 37 [.int s] S) (k := fun a S' => a = .non ∧ S' = S) (by
    refine run_i hB.d37 rfl ?_
    have f := whole hB.d3 (n := n) (S := S) (d := .int s) rfl
    simp [t37, f, show (1 : Int) ≤ s by omega, show (s : Int) ≤ 3 by omega])
  exact e
theorem at_g (h : s < g.length) : atI (g.map D.bl) (s : Int) = some (.bl (g.getD s false)) := atI_nat (by simp [List.getD_eq_getElem?_getD, h])
theorem at_w (h : s < w.length) : atI (w.map pD) (s : Int) = some (.tup [.int (nxt w s false : Nat), .int (nxt w s true : Nat)]) := atI_nat (by simp [List.getD_eq_getElem?_getD, nxt, pD, h])
theorem walked (hB : HasB T) (hm : mach s g w) (hs : 0 < s) (hl : os.length ≤ 200) : run T (n + 1) 40 [mD (g, w), .tup (os.map .bl)] S = .ok (.int (wro g w os : Nat)) S := by
  obtain ⟨a, S', e, rfl, rfl⟩ := want_some (r := run T (n + 1) 40 [mD (g, w), .tup (os.map .bl)] S) (k := fun a S' => a = .int (wro g w os : Nat) ∧ S' = S) (by
    refine run_i hB.d40 rfl ?_
    simp [t40, mD, wD]
    refine wp_seq (wp_for_fix (ds := os.map .bl) (fun i env S' => S' = S ∧ ((os.take i).foldl (stp g w) (0, 0)).1 < s ∧ ∃ e6, env = [.val (mD (g, w)), .val (.tup (os.map .bl)), .val (.tup (g.map .bl)), .val (.tup (w.map pD)), .val (.int (((os.take i).foldl (stp g w) (0, 0)).1 : Nat)), .val (.int (((os.take i).foldl (stp g w) (0, 0)).2 : Nat)), e6]) (by simp; omega) ⟨rfl, by simpa using hs, _, rfl⟩ (fun i d env S' hd hI => ?_) (fun env S' hI => ?_))
    · obtain ⟨rfl, hlt, e6, rfl⟩ := hI
      rw [List.getElem?_map] at hd
      obtain ⟨b, hb, rfl⟩ := Option.map_eq_some_iff.mp hd
      have f1 := at_g (g := g) (by rw [hm.1]; exact hlt)
      have f2 := at_w (w := w) (by rw [hm.2.1]; exact hlt)
      have f3 := nxt_lt hm.2 hs ((os.take i).foldl (stp g w) (0, 0)).1 b
      rw [fold_take hb]
      generalize (os.take i).foldl (stp g w) (0, 0) = q at *
      obtain ⟨q1, q2⟩ := q
      simp only [stp] at *
      generalize g.getD q1 false = gb at *
      cases b <;> cases gb <;> simp [f1, f2, mD, wD] <;> exact f3
    · obtain ⟨rfl, hlt, e6, rfl⟩ := hI
      simp [wro])
  exact e
theorem is_mach (hB : HasB T) (hm : mach s g w) (h1 : 1 ≤ s) (h2 : s ≤ 3) : ∃ S', run T (n + 2) 38 [mD (g, w)] S = .ok (.bl true) S' ∧ Keeps [] S S' := by
  have key : (run T (n + 2) 38 [mD (g, w)] S).want (fun a S' => a = .bl true ∧ Keeps [] S S') fun _ _ => False := by
    refine run_i hB.d38 rfl ?_
    simp [t38, mD, wD]
    repeat (first | refine wp_seq ?_ | refine wp_toS ?_ | refine want_bind_i ?_)
    refine lc_use (lc_map [] (fun _ => .bl true) rfl (by simp) (fun _ _ _ => rfl) (fun d hd acc S' k a => ?_)) (fun S1 ⟨a1, k1⟩ => ?_)
    · simp at hd
      rcases hd with rfl | rfl <;> simp [k, a]
    · simp at a1
      simp [a1, hm.1, hm.2.1, show (1 : Int) ≤ s by omega, show (s : Int) ≤ 3 by omega]
      repeat (first | refine wp_seq ?_ | refine wp_toS ?_ | refine want_bind_i ?_)
      refine lc_use (lc_map [] (fun _ => .bl true) rfl (by simp [hm.1]; omega) (fun _ _ _ => rfl) (fun d hd acc S' k a => ?_)) (fun S2 ⟨a2, k2⟩ => ?_)
      · obtain ⟨b, _, rfl⟩ := List.mem_map.mp hd
        cases b <;> simp [k, a]
      · have e := bools_ok (os := g)
        simp [a2, Function.comp_def, e]
        refine wp_seq (wp_for_fix (ds := w.map pD) (fun i env S' => Keeps [] S S' ∧ ∃ e3 e4 e5, env = [.val (mD (g, w)), .val (.tup (g.map .bl)), .val (.tup (w.map pD)), e3, e4, e5]) (by simp [hm.2.1]; omega) ⟨k1.trans k2, _, _, _, rfl⟩ (fun i d env S' hd hI => ?_) (fun env S' hI => ?_))
        · obtain ⟨hk, e3, e4, e5, rfl⟩ := hI
          obtain ⟨p, hp, rfl⟩ := List.mem_map.mp (List.mem_of_getElem? hd)
          have hp := hm.2.2 p hp
          simp [pD]
          repeat (first | refine wp_seq ?_ | refine wp_toS ?_ | refine want_bind_i ?_)
          refine lc_use (lc_map [] (fun _ => .bl true) rfl (by simp) (fun _ _ _ => rfl) (fun d hd acc S' k a => ?_)) (fun S3 ⟨a3, k3⟩ => ?_)
          · simp at hd
            have f : ∀ (m : Nat), run T (n + 1) 3 [.int m] S' = .ok (.bl true) S' := fun m => whole hB.d3 (d := .int m) rfl
            rcases hd with rfl | rfl <;> simp [k, a, f, hm.1] <;> omega
          · simp at a3
            simp [a3, mD, wD]
            exact hk.trans k3
        · obtain ⟨hk, e3, e4, e5, rfl⟩ := hI
          simp
          exact hk
  obtain ⟨a, S', e, rfl, h⟩ := want_some key
  exact ⟨S', e, h⟩
theorem wrong_of (hB : HasB T) (hm : mach s g w) (h1 : 1 ≤ s) (h2 : s ≤ 3) (hl : os.length ≤ 200) : ∃ S', run T (n + 3) 39 [mD (g, w), .tup (os.map .bl)] S = .ok (.int (wro g w os : Nat)) S' ∧ Keeps [] S S' := by
  have key : (run T (n + 3) 39 [mD (g, w), .tup (os.map .bl)] S).want (fun a S' => a = .int (wro g w os : Nat) ∧ Keeps [] S S') fun _ _ => False := by
    refine run_i hB.d39 rfl ?_
    obtain ⟨S1, f1, k1⟩ := is_mach hB (n := n) (S := S) hm h1 h2
    obtain ⟨S2, f2, k2⟩ := look_out hB (n := n + 1) (S := S1) hl
    have f3 := walked hB (n := n + 1) (S := S2) hm h1 hl
    simp [t39, f1, f2, f3]
    exact k1.trans k2
  obtain ⟨a, S', e, rfl, h⟩ := want_some key
  exact ⟨S', e, h⟩
/-- a value that is walked: a tuple, or a list that stands -/
def Walks (S : Store) (x : D) (xs : List D) : Prop := x = .tup xs ∨ ∃ l, x = .ref l ∧ at_ S l = some (.lst xs)
theorem Walks.keep {S S' : Store} {x : D} {xs : List D} (h : Walks S x xs) (k : Keeps [] S S') : Walks S' x xs := by
  rcases h with h | ⟨l, h, a⟩
  · exact .inl h
  · exact .inr ⟨l, h, k.get a (by simp)⟩
theorem Walks.src {S : Store} {x : D} {xs : List D} (h : Walks S x xs) : ∃ src, seqSrc x S = some src ∧ ∀ S' W i, Keeps W S S' → (∀ l, x = .ref l → l ∉ W) → src.next i S' = some xs[i]? := by
  rcases h with rfl | ⟨l, rfl, a⟩
  · exact ⟨.fix xs, rfl, fun _ _ _ _ _ => rfl⟩
  · refine ⟨.live l, ?_, fun S' W i k hw => live_next (k.get a (hw l rfl))⟩
    show (match getL S l with
      | some _ => some (Src.live l)
      | none => none) = _
    rw [getL_eq, a]
theorem rows_of (hB : HasB T) {x : D} {xs : List D} (hx : Walks S x xs) (hs : s ≤ 3) (hl : xs.length ≤ 9) : ∃ r S', run T (n + 1) 41 [x, .int s] S = .ok (.ref r) S' ∧ at_ S' r = some (.lst ((Mc.rows xs s).map .tup)) ∧ Keeps [] S S' := by
  have key : ∀ y, y = D.int s → (run T (n + 1) 41 [x, y] S).want (fun a S' => ∃ r, a = .ref r ∧ at_ S' r = some (.lst ((Mc.rows xs s).map .tup)) ∧ Keeps [] S S') fun _ _ => False := by
    intro y hy
    refine run_i hB.d41 rfl ?_
    subst hy
    simp [t41, show (s : Int) < 4611686018427387904 by omega]
    refine wp_seq (wp_for_fix (ds := rngD 0 1 s) (fun i env S' => Keeps [] S S' ∧ ∃ r e3 e4 e5, at_ S' r = some (.lst ((Mc.rows xs i).map .tup)) ∧ env = [.val x, .val (.int s), .val (.ref r), e3, e4, e5]) (by rw [rngD_len]; omega) ⟨Keeps.app Keeps.refl, S.length, _, _, _, by simp [Mc.rows], rfl⟩ (fun i d env S' hd hI => ?_) (fun env S' hI => ?_))
    · obtain ⟨hk, r, e3, e4, e5, hr, rfl⟩ := hI
      obtain ⟨rfl, hi⟩ := rngD_at hd
      simp [hr]
      repeat (first | refine wp_seq ?_ | refine wp_toS ?_ | refine want_bind_i ?_)
      have hx2 := hx.keep hk
      have hlen : (Mc.rows xs i).length ≤ 729 := by
        rw [rows_len]
        calc _ ≤ 9 ^ i := Nat.pow_le_pow_left hl i
          _ ≤ 9 ^ 3 := Nat.pow_le_pow_right (by omega) (by omega)
          _ = _ := by decide
      refine lc_use (lc2_map (ds := (Mc.rows xs i).map .tup) (fun d => match d with
        | .tup r => xs.map fun y => .tup (r ++ [y])
        | _ => []) rfl (by simp; omega) (fun j S'' k => live_next (k.get hr (by simp))) (fun d hd acc S'' k a hacc => ?_)) (fun S1 ⟨a1, k1⟩ => ?_)
      · obtain ⟨q, hq, rfl⟩ := List.mem_map.mp hd
        have hx3 := hx2.keep k
        obtain ⟨src, h1, h2⟩ := hx3.src
        have hq2 := (mem_rows.mp hq).1
        have hne : ∀ l, x = .ref l → l ∉ [S'.length] := fun l e => by
          rcases hx2 with z | ⟨l', z, z2⟩
          · rw [z] at e; cases e
          · rw [e] at z; cases z
            have := lt_of_at z2
            simp; omega
        have hsl : acc.length + xs.length < 16777216 := by
          obtain ⟨j, hj, rfl⟩ := hacc
          have hj := (List.getElem?_eq_some_iff.mp hj).1
          simp only [List.length_map] at hj
          have : ((List.take j ((Mc.rows xs i).map D.tup)).map (fun d => match d with
            | .tup r => xs.map fun y => D.tup (r ++ [y])
            | _ => [])).flatten.length ≤ j * xs.length := by
            rw [List.length_flatten, List.map_map]
            have e : ∀ d ∈ List.take j ((Mc.rows xs i).map D.tup), (List.length ∘ (fun d : D => match d with
              | .tup r => xs.map fun y => D.tup (r ++ [y])
              | _ => [])) d = xs.length := fun d hd => by
              obtain ⟨q, _, rfl⟩ := List.mem_map.mp (List.mem_of_mem_take hd)
              simp
            rw [List.map_congr_left e, List.map_const', List.sum_replicate_nat, List.length_take]
            exact Nat.mul_le_mul_right _ (Nat.min_le_left _ _)
          have : j * xs.length ≤ 729 * 9 := Nat.mul_le_mul (by omega) hl
          omega
        simp [h1]
        refine lc_use (lcIn_map (es := xs) (acc0 := acc) (fun y => .tup (q ++ [y])) hsl a (fun j S3 k3 => h2 S3 _ j k3 hne) (fun d hd acc' S3 k3 a3 => ?_)) (fun S3 ⟨a3, k3⟩ => ?_)
        · simp [k3, a3, hq2, show i ≤ 16777215 by omega]
        · exact ⟨k.new k3 (by simp), a3⟩
      · simp
        refine ⟨hk.trans k1, ?_⟩
        rw [a1, List.map_map]
        show some (Cell.lst _) = some (Cell.lst (((Mc.rows xs i).map fun r => xs.map fun x => r ++ [x]).flatten.map D.tup))
        rw [List.map_flatten, List.map_map]
        congr 3
        apply List.map_congr_left
        intro r _
        simp [Function.comp_def]
    · obtain ⟨hk, r, e3, e4, e5, hr, rfl⟩ := hI
      rw [rngD_len] at hr
      simp
      exact ⟨hr, hk⟩
  obtain ⟨a, S', e, r, rfl, h⟩ := want_some (key _ rfl)
  exact ⟨r, S', e, h⟩
theorem flat_le {α β : Type} {F : α → List β} {K : Nat} : ∀ {l : List α}, (∀ d ∈ l, (F d).length ≤ K) → (l.map F).flatten.length ≤ l.length * K
  | [], _ => by simp
  | a :: l, h => by
    have h1 := h a List.mem_cons_self
    have h2 := flat_le (l := l) fun d hd => h d (List.mem_cons_of_mem _ hd)
    rw [List.map_cons, List.flatten_cons, List.length_append, List.length_cons, Nat.add_mul]
    omega
theorem rngD_range {m : Nat} : rngD 0 1 m = (List.range m).map fun i => D.int (i : Nat) := by
  apply List.ext_getElem?
  intro i
  rw [rngD_get]
  simp only [List.getElem?_map, List.getElem?_range]
  split <;> simp_all
theorem rows_two {α : Type} {xs : List α} : Mc.rows xs 2 = (xs.map fun x => xs.map fun y => [x, y]).flatten := by
  simp [Mc.rows, List.map_flatten, Function.comp_def]
theorem pairs_D {m : Nat} : (Mc.rows (rngD 0 1 m) 2).map D.tup = (pairs m).map pD := by
  rw [rows_two, rngD_range]
  unfold pairs
  rw [List.map_flatten, List.map_flatten, List.map_map, List.map_map, List.map_map]
  congr 1
  apply List.map_congr_left
  intro a _
  simp [pD, Function.comp_def]
theorem ways_D {m : Nat} : (Mc.rows ((pairs m).map pD) m).map D.tup = (wayRows m).map wD := by
  rw [rows_map, List.map_map]
  rfl
theorem all_ways (hB : HasB T) (h1 : 1 ≤ s) (h2 : s ≤ 3) : ∃ r1 S1 r2 S2, run T (n + 1) 41 [.ref S.length, .int 2] (S ++ [.lst (rngD 0 1 s)]) = .ok (.ref r1) S1 ∧ run T (n + 1) 41 [.ref r1, .int s] S1 = .ok (.ref r2) S2 ∧ at_ S2 r2 = some (.lst ((wayRows s).map wD)) ∧ Keeps [] S S2 := by
  obtain ⟨r1, S1, f1, a1, k1⟩ := rows_of hB (n := n) (S := S ++ [.lst (rngD 0 1 s)]) (s := 2) (x := .ref S.length) (xs := rngD 0 1 s) (.inr ⟨_, rfl, by simp⟩) (by omega) (by rw [rngD_len]; omega)
  rw [pairs_D] at a1
  obtain ⟨r2, S2, f2, a2, k2⟩ := rows_of hB (n := n) (S := S1) (s := s) (x := .ref r1) (.inr ⟨_, rfl, a1⟩) h2 (by rw [List.length_map, pairs_len]; exact Nat.mul_le_mul h2 h2)
  rw [ways_D] at a2
  exact ⟨r1, S1, r2, S2, f1, f2, a2, ((Keeps.app Keeps.refl).trans k1).trans k2⟩
theorem machines (hB : HasB T) (h1 : 1 ≤ s) (h2 : s ≤ 3) : ∃ S', run T (n + 3) 42 [.int s] S = .ok (.tup ((machs s).map mD)) S' ∧ Keeps [] S S' := by
  have key : (run T (n + 3) 42 [.int s] S).want (fun a S' => a = .tup ((machs s).map mD) ∧ Keeps [] S S') fun _ _ => False := by
    refine run_i hB.d42 rfl ?_
    have f := look_states hB (n := n) (S := S) h1 h2
    obtain ⟨r1, S1, r2, S2, f1, f2, a2, k2⟩ := all_ways hB (n := n + 1) (S := S) h1 h2
    obtain ⟨r3, S3, f3, a3, k3⟩ := rows_of hB (n := n + 1) (S := S2) (s := s) (x := .tup [.bl false, .bl true]) (.inl rfl) h2 (by decide)
    rw [show [D.bl false, D.bl true] = [false, true].map D.bl from rfl, rows_map, List.map_map] at a3
    have b2 := k3.get a2 (by simp)
    have l3 : (Mc.rows [false, true] s).length ≤ 8 := by
      rw [rows_len]
      calc _ ≤ 2 ^ 3 := Nat.pow_le_pow_right (by decide) h2
        _ = _ := by decide
    have lw := ways_len h2
    simp [t42, f, small62, show (s : Int) < 4611686018427387904 by omega, show -4611686018427387904 ≤ (s : Int) by omega, show s ≤ 16777216 by omega, f1, f2, f3, a3]
    repeat (first | refine wp_seq ?_ | refine wp_toS ?_ | refine want_bind_i ?_)
    refine lc_use (lc2_map (fun d => match d with
        | .tup r => (wayRows s).map fun w => .tup [.tup r, wD w]
        | _ => []) rfl (by rw [List.length_map]; omega) (fun j S'' k => live_next (k.get a3 (by simp))) (fun d hd acc S'' k a hacc => ?_)) (fun S4 ⟨a4, k4⟩ => ?_)
    · obtain ⟨q, hq, rfl⟩ := List.mem_map.mp hd
      have hsl : acc.length + ((wayRows s).map wD).length < 16777216 := by
        obtain ⟨j, hj, rfl⟩ := hacc
        have := flat_le (F := fun d : D => match d with
          | .tup r => (wayRows s).map fun w => D.tup [.tup r, wD w]
          | _ => []) (K := 729) (l := List.take j (List.map (D.tup ∘ List.map D.bl) (Mc.rows [false, true] s))) (fun d hd => by
            obtain ⟨q, _, rfl⟩ := List.mem_map.mp (List.mem_of_mem_take hd)
            simpa using lw)
        rw [List.length_take, List.length_map] at this
        rw [List.length_map]
        omega
      have b3 := k.get b2 (by simp)
      simp [b3]
      refine lc_use (lcIn_map (es := (wayRows s).map wD) (acc0 := acc) (fun y => .tup [.tup (q.map .bl), y]) hsl a (fun j S3 k3 => live_next (k3.get b3 ?_)) (fun d hd acc' S3 k3 a3 => ?_)) (fun S3 ⟨a3, k3⟩ => ?_)
      · have := lt_of_at b2
        rw [List.mem_singleton]; omega
      · simp [k3, a3]
      · exact ⟨k.new k3 (by simp), by rw [a3, List.map_map]; rfl⟩
    · simp [a4]
      refine ⟨?_, (k2.trans k3).trans k4⟩
      unfold machs
      rw [List.map_flatten, List.map_map]
      congr 1
      apply List.map_congr_left
      intro r _
      simp [Function.comp_def, mD]
  obtain ⟨a, S', e, rfl, h⟩ := want_some key
  exact ⟨S', e, h⟩
theorem least_wrong (hB : HasB T) (h1 : 1 ≤ s) (h2 : s ≤ 3) (hl : os.length ≤ 200) : ∃ m q S', run T (n + 4) 43 [.tup (os.map .bl), .int s] S = .ok (.tup [.int (m : Nat), mD q]) S' ∧ mach s q.1 q.2 ∧ m = wro q.1 q.2 os ∧ Least s os m ∧ Keeps [] S S' := by
  have key : (run T (n + 4) 43 [.tup (os.map .bl), .int s] S).want (fun a S' => ∃ (m : Nat) (q : List Bool × Way), a = .tup [.int m, mD q] ∧ q ∈ machs s ∧ m = wro q.1 q.2 os ∧ (∀ q' ∈ machs s, m ≤ wro q'.1 q'.2 os) ∧ Keeps [] S S') fun _ _ => False := by
    refine run_i hB.d43 rfl ?_
    obtain ⟨S1, f1, k1⟩ := look_out hB (n := n + 2) (S := S) hl
    have f2 := look_states hB (n := n + 1) (S := S1) h1 h2
    obtain ⟨S2, f3, k2⟩ := machines hB (n := n) (S := S1) h1 h2
    simp [t43, f1, f2, f3]
    have lm := machs_len h2
    refine wp_seq (wp_for_fix (ds := (machs s).map mD) (fun i env S' => Keeps [] S S' ∧ ∃ b e3 e4, env = [.val (.tup (os.map .bl)), .val (.int s), .val b, e3, e4] ∧ ((i = 0 ∧ b = .non) ∨ ∃ (m : Nat) (q : List Bool × Way), b = .tup [.int m, mD q] ∧ q ∈ machs s ∧ m = wro q.1 q.2 os ∧ ∀ (j : Nat) q', j < i → (machs s)[j]? = some q' → m ≤ wro q'.1 q'.2 os)) (by rw [List.length_map]; omega) ⟨k1.trans k2, _, _, _, rfl, .inl ⟨rfl, rfl⟩⟩ (fun i d env S' hd hI => ?_) (fun env S' hI => ?_))
    · obtain ⟨hk, b, e3, e4, rfl, hb⟩ := hI
      rw [List.getElem?_map] at hd
      obtain ⟨q, hq, rfl⟩ := Option.map_eq_some_iff.mp hd
      have hm := mem_machs.mp (List.mem_of_getElem? hq)
      have f4 := walked hB (n := n + 2) (S := S') (os := os) hm h1 hl
      rcases hb with ⟨rfl, rfl⟩ | ⟨m, q0, rfl, h0, rfl, hle⟩
      · simp [f4]
        exact ⟨hk, _, q.1, q.2, ⟨rfl, rfl⟩, List.mem_of_getElem? hq, rfl, fun j g w hj he => by
          subst hj
          rw [hq] at he
          cases he
          exact Nat.le_refl _⟩
      · by_cases c : wro q.1 q.2 os < wro q0.1 q0.2 os
        · simp [f4, c]
          exact ⟨hk, _, q.1, q.2, ⟨rfl, rfl⟩, List.mem_of_getElem? hq, rfl, fun j g w hj he => by
            rcases Nat.lt_succ_iff_lt_or_eq.mp hj with h | rfl
            · exact Nat.le_of_lt (Nat.lt_of_lt_of_le c (hle j (g, w) h he))
            · rw [hq] at he
              cases he
              exact Nat.le_refl _⟩
        · simp [f4, c]
          exact ⟨hk, _, q0.1, q0.2, ⟨rfl, rfl⟩, h0, rfl, fun j g w hj he => by
            rcases Nat.lt_succ_iff_lt_or_eq.mp hj with h | rfl
            · exact hle j (g, w) h he
            · rw [hq] at he
              cases he
              exact Nat.le_of_not_lt c⟩
    · obtain ⟨hk, b, e3, e4, rfl, hb⟩ := hI
      rcases hb with ⟨h0, rfl⟩ | ⟨m, q0, rfl, h0, rfl, hle⟩
      · exfalso
        have hm : (List.replicate s false, List.replicate s (0, 0)) ∈ machs s := mem_machs.mpr ⟨by simp, by simp, fun p hp => by
          have := List.eq_of_mem_replicate hp
          subst this
          exact ⟨h1, h1⟩⟩
        rw [List.length_map] at h0
        rw [List.length_eq_zero_iff.mp h0] at hm
        cases hm
      · simp
        exact ⟨_, q0.1, q0.2, ⟨rfl, rfl⟩, h0, rfl, fun g w hm => by
          obtain ⟨j, hj⟩ := List.getElem?_of_mem hm
          exact hle j (g, w) (by have := (List.getElem?_eq_some_iff.mp hj).1; simpa using this) hj, hk⟩
  obtain ⟨a, S', e, m, q, rfl, h3, h4, h5, h6⟩ := want_some key
  exact ⟨m, q, S', e, mem_machs.mp h3, h4, ⟨⟨q.1, q.2, mem_machs.mp h3, h4⟩, fun g w hm => h5 (g, w) (mem_machs.mpr hm)⟩, h6⟩
end
end VI.Bst

set_option Elab.async false
set_option linter.all false
set_option maxRecDepth 100000
/-! printed by gen.py from the text of k09: the small trees of its defs. -/
namespace VI.K09
open PySem L2 VI
/-- is_whole -/
def t3 : Df := ⟨1, 1, (.cons (.ret (.andE (.isi (.var 0) "int") (.notE (.isi (.var 0) "bool"))))
 .nil)⟩
/-- look_at_outcomes -/
def t36 : Df := ⟨2, 1, (.cons (.ife (.or (.not (.val (.isi (.var 0) "tuple"))) (.not (.tru (.blt .all (.cons (.lc (.seq (.var 0)) [1] (.name 1) .yes (.orE (.cmp .is (.var 1) (.bl true)) (.cmp .is (.var 1) (.bl false)))) .nil))))) (.cons (.raise 3 (.init ["word"]) (.cons (.str "outcomes") .nil))
 .nil) .nil)
 (.cons (.ife (.val (.cmp .gt (.blt .len (.cons (.var 0) .nil)) (.int 200))) (.cons (.raise 6 (.init ["word"]) (.cons (.str "many") .nil))
 .nil) .nil)
 .nil))⟩
/-- look_at_states -/
def t37 : Df := ⟨1, 1, (.cons (.ife (.or (.not (.tru (.call 3 (.cons (.var 0) .nil)))) (.not (.val (.chain .le .le (.int 1) (.var 0) (.int 3))))) (.cons (.raise 3 (.init ["word"]) (.cons (.str "states") .nil))
 .nil) .nil)
 .nil)⟩
/-- is_machine -/
def t38 : Df := ⟨6, 1, (.cons (.ife (.or (.not (.val (.isi (.var 0) "tuple"))) (.or (.val (.cmp .ne (.blt .len (.cons (.var 0) .nil)) (.int 2))) (.not (.tru (.blt .all (.cons (.lc (.seq (.var 0)) [4] (.name 4) .yes (.isi (.var 4) "tuple")) .nil)))))) (.cons (.ret (.bl false))
 .nil) .nil)
 (.cons (.asg (.tup 2 (.cons (.name 1) (.cons (.name 2) .nil))) (.var 0))
 (.cons (.ife (.or (.not (.val (.chain .le .le (.int 1) (.blt .len (.cons (.var 1) .nil)) (.int 3)))) (.val (.cmp .ne (.blt .len (.cons (.var 2) .nil)) (.blt .len (.cons (.var 1) .nil))))) (.cons (.ret (.bl false))
 .nil) .nil)
 (.cons (.ife (.not (.tru (.blt .all (.cons (.lc (.seq (.var 1)) [5] (.name 5) .yes (.orE (.cmp .is (.var 5) (.bl true)) (.cmp .is (.var 5) (.bl false)))) .nil)))) (.cons (.ret (.bl false))
 .nil) .nil)
 (.cons (.for_ (.seq (.var 2)) (.name 3) (.cons (.ife (.or (.not (.val (.isi (.var 3) "tuple"))) (.val (.cmp .ne (.blt .len (.cons (.var 3) .nil)) (.int 2)))) (.cons (.ret (.bl false))
 .nil) .nil)
 (.cons (.ife (.not (.tru (.blt .all (.cons (.lc (.seq (.var 3)) [5] (.name 5) .yes (.andE (.call 3 (.cons (.var 5) .nil)) (.chain .le .lt (.int 0) (.var 5) (.blt .len (.cons (.var 1) .nil))))) .nil)))) (.cons (.ret (.bl false))
 .nil) .nil)
 .nil)))
 (.cons (.ret (.bl true))
 .nil))))))⟩
/-- wrong_of -/
def t39 : Df := ⟨2, 2, (.cons (.ife (.not (.tru (.call 38 (.cons (.var 0) .nil)))) (.cons (.raise 3 (.init ["word"]) (.cons (.str "machine") .nil))
 .nil) .nil)
 (.cons (.drop (.call 36 (.cons (.var 1) .nil)))
 (.cons (.ret (.call 40 (.cons (.var 0) (.cons (.var 1) .nil))))
 .nil)))⟩
/-- walked -/
def t40 : Df := ⟨7, 2, (.cons (.asg (.tup 2 (.cons (.name 2) (.cons (.name 3) .nil))) (.var 0))
 (.cons (.asg (.tup 2 (.cons (.name 4) (.cons (.name 5) .nil))) (.tup (.cons (.int 0) (.cons (.int 0) .nil))))
 (.cons (.for_ (.seq (.var 1)) (.name 6) (.cons (.aug 5 .add (.blt .int (.cons (.cmp .ne (.idx (.var 2) (.var 4)) (.var 6)) .nil)))
 (.cons (.asg (.name 4) (.idx (.idx (.var 3) (.var 4)) (.blt .int (.cons (.var 6) .nil))))
 .nil)))
 (.cons (.ret (.var 5))
 .nil))))⟩
/-- rows_of -/
def t41 : Df := ⟨6, 2, (.cons (.asg (.name 2) (.lst (.cons (.tup .nil) .nil)))
 (.cons (.for_ (.rng1 (.var 1)) (.name 3) (.cons (.asg (.name 2) (.lc2 (.seq (.var 2)) [4, 5] (.name 4) .yes (.seq (.var 0)) [5] (.name 5) .yes (.bin .add (.var 4) (.tup (.cons (.var 5) .nil)))))
 .nil))
 (.cons (.ret (.var 2))
 .nil)))⟩
/-- machines -/
def t42 : Df := ⟨4, 1, (.cons (.drop (.call 37 (.cons (.var 0) .nil)))
 (.cons (.asg (.name 1) (.call 41 (.cons (.call 41 (.cons (.lrng1 true (.var 0)) (.cons (.int 2) .nil))) (.cons (.var 0) .nil))))
 (.cons (.ret (.blt .tuple (.cons (.lc2 (.seq (.call 41 (.cons (.tup (.cons (.bl false) (.cons (.bl true) .nil))) (.cons (.var 0) .nil)))) [2, 3] (.name 2) .yes (.seq (.var 1)) [3] (.name 3) .yes (.tup (.cons (.var 2) (.cons (.var 3) .nil)))) .nil)))
 .nil)))⟩
/-- least_wrong -/
def t43 : Df := ⟨5, 2, (.cons (.drop (.call 36 (.cons (.var 0) .nil)))
 (.cons (.drop (.call 37 (.cons (.var 1) .nil)))
 (.cons (.asg (.name 2) .non)
 (.cons (.for_ (.seq (.call 42 (.cons (.var 1) .nil))) (.name 3) (.cons (.asg (.name 4) (.call 40 (.cons (.var 3) (.cons (.var 0) .nil))))
 (.cons (.ife (.or (.val (.cmp .is (.var 2) .non)) (.val (.cmp .lt (.var 4) (.idx (.var 2) (.int 0))))) (.cons (.asg (.name 2) (.tup (.cons (.var 4) (.cons (.var 3) .nil))))
 .nil) .nil)
 .nil)))
 (.cons (.ret (.var 2))
 .nil)))))⟩
/-- counts -/
def t44 : Df := ⟨5, 2, (.cons (.drop (.call 36 (.cons (.var 0) .nil)))
 (.cons (.drop (.call 37 (.cons (.var 1) .nil)))
 (.cons (.asg (.name 2) .dnew)
 (.cons (.for_ (.seq (.call 42 (.cons (.var 1) .nil))) (.name 3) (.cons (.asg (.name 4) (.call 40 (.cons (.var 3) (.cons (.var 0) .nil))))
 (.cons (.asgI (.var 2) (.var 4) (.bin .add (.dget2 (.var 2) (.var 4) (.int 0)) (.int 1)))
 .nil)))
 (.cons (.ret (.blt .tuple (.cons (.srtItems (.var 2)) .nil)))
 .nil)))))⟩
/-- fewest_states -/
def t45 : Df := ⟨3, 2, (.cons (.ife (.or (.not (.tru (.call 3 (.cons (.var 1) .nil)))) (.val (.cmp .lt (.var 1) (.int 0)))) (.cons (.raise 3 (.init ["word"]) (.cons (.str "most") .nil))
 .nil) .nil)
 (.cons (.for_ (.rng2 (.int 1) (.bin .add (.int 3) (.int 1))) (.name 2) (.cons (.ife (.val (.cmp .le (.idx (.call 43 (.cons (.var 0) (.cons (.var 2) .nil))) (.int 0)) (.var 1))) (.cons (.ret (.var 2))
 .nil) .nil)
 .nil))
 (.cons (.ret .non)
 .nil)))⟩
/-- _law_draws -/
def t13 : Df := ⟨1, 1, (.cons (.ret (.lst (.cons (.blt .list (.cons (.var 0) .nil)) (.cons (.int 0) (.cons (.int 0) (.cons (.int 1) .nil))))))
 .nil)⟩
/-- _law_draw -/
def t14 : Df := ⟨4, 2, (.cons (.ife (.and (.val (.cmp .eq (.idx (.var 0) (.int 2)) (.int 0))) (.val (.cmp .lt (.idx (.var 0) (.int 1)) (.blt .len (.cons (.idx (.var 0) (.int 0)) .nil))))) (.cons (.asg (.name 2) (.idx (.idx (.var 0) (.int 0)) (.idx (.var 0) (.int 1))))
 (.cons (.asgI (.var 0) (.int 1) (.bin .add (.idx (.var 0) (.int 1)) (.int 1)))
 (.cons (.ife (.val (.cmp .ge (.var 2) (.bin .pow (.int 10) (.int 18)))) (.cons (.asgI (.var 0) (.int 2) (.var 2))
 .nil) .nil)
 (.cons (.asgI (.var 0) (.int 3) (.bin .mod (.blt .int (.cons (.bin .add (.bin .add (.bin .mul (.idx (.var 0) (.int 3)) (.int 48271)) (.var 2)) (.int 13)) .nil)) (.int 2147483647)))
 .nil)))) .nil)
 (.cons (.ife (.val (.cmp .gt (.idx (.var 0) (.int 2)) (.int 0))) (.cons (.asg (.name 3) (.bin .mod (.blt .int (.cons (.idx (.var 0) (.int 2)) .nil)) (.var 1)))
 (.cons (.asgI (.var 0) (.int 2) (.bin .fdiv (.idx (.var 0) (.int 2)) (.var 1)))
 (.cons (.ret (.var 3))
 .nil))) .nil)
 (.cons (.asgI (.var 0) (.int 3) (.bin .mod (.blt .int (.cons (.bin .add (.bin .mul (.idx (.var 0) (.int 3)) (.int 69621)) (.int 7)) .nil)) (.int 2147483629)))
 (.cons (.ret (.bin .mod (.blt .int (.cons (.bin .fdiv (.idx (.var 0) (.int 3)) (.int 11)) .nil)) (.var 1)))
 .nil))))⟩
/-- _law_same -/
def t15 : Df := ⟨3, 2, (.cons (.ife (.or (.val (.isi (.var 1) "tuple")) (.val (.isi (.var 1) "list"))) (.cons (.ife (.or (.val (.cmp .ne (.isi (.var 1) "tuple") (.isi (.var 0) "tuple"))) (.val (.cmp .ne (.isi (.var 1) "list") (.isi (.var 0) "list")))) (.cons (.ret (.bl false))
 .nil) .nil)
 (.cons (.ife (.val (.cmp .ne (.blt .len (.cons (.var 0) .nil)) (.blt .len (.cons (.var 1) .nil)))) (.cons (.ret (.bl false))
 .nil) .nil)
 (.cons (.ret (.cmp .eq (.blt .len (.cons (.lc (.rng1 (.blt .len (.cons (.var 1) .nil))) [2] (.name 2) (.not (.tru (.call 15 (.cons (.idx (.var 0) (.var 2)) (.cons (.idx (.var 1) (.var 2)) .nil))))) (.var 2)) .nil)) (.int 0)))
 .nil))) .nil)
 (.cons (.ife (.val (.isi (.var 1) "str")) (.cons (.ret (.andE (.isi (.var 0) "str") (.cmp .eq (.var 0) (.var 1))))
 .nil) .nil)
 (.cons (.ife (.val (.cmp .is (.var 1) .non)) (.cons (.ret (.cmp .is (.var 0) .non))
 .nil) .nil)
 (.cons (.ife (.or (.val (.isi (.var 1) "bool")) (.val (.isi (.var 0) "bool"))) (.cons (.ret (.andE (.isi (.var 1) "bool") (.andE (.isi (.var 0) "bool") (.cmp .eq (.var 0) (.var 1)))))
 .nil) .nil)
 (.cons (.ret (.andE (.isi (.var 0) "int") (.andE (.isi (.var 1) "int") (.cmp .eq (.var 0) (.var 1)))))
 .nil)))))⟩
/-- _law_pick -/
def t16 : Df := ⟨2, 2, (.cons (.ret (.idx (.var 1) (.call 14 (.cons (.var 0) (.cons (.blt .len (.cons (.var 1) .nil)) .nil)))))
 .nil)⟩
/-- _law_machines -/
def t46 : Df := ⟨13, 1, (.cons (.par 1 2 (.cons (.lst (.cons (.tup .nil) .nil)) (.cons (.lst (.cons (.tup .nil) .nil)) .nil)))
 (.cons (.asg (.name 3) (.lst .nil))
 (.cons (.for_ (.rng1 (.var 0)) (.name 4) (.cons (.asg (.name 3) (.bin .add (.var 3) (.lc (.rng1 (.var 0)) [10] (.name 10) .yes (.tup (.cons (.var 4) (.cons (.var 10) .nil))))))
 .nil))
 (.cons (.for_ (.rng1 (.var 0)) (.name 5) (.cons (.par 6 7 (.cons (.lst .nil) (.cons (.lst .nil) .nil)))
 (.cons (.for_ (.seq (.var 1)) (.name 8) (.cons (.asg (.name 6) (.bin .add (.var 6) (.lst (.cons (.bin .add (.var 8) (.tup (.cons (.bl false) .nil))) (.cons (.bin .add (.var 8) (.tup (.cons (.bl true) .nil))) .nil)))))
 .nil))
 (.cons (.for_ (.seq (.var 2)) (.name 8) (.cons (.asg (.name 7) (.bin .add (.var 7) (.lc (.seq (.var 3)) [11] (.name 11) .yes (.bin .add (.var 8) (.tup (.cons (.var 11) .nil))))))
 .nil))
 (.cons (.par 1 2 (.cons (.var 6) (.cons (.var 7) .nil)))
 .nil)))))
 (.cons (.asg (.name 9) (.lst .nil))
 (.cons (.for_ (.seq (.var 1)) (.name 8) (.cons (.asg (.name 9) (.bin .add (.var 9) (.lc (.seq (.var 2)) [12] (.name 12) .yes (.tup (.cons (.var 8) (.cons (.var 12) .nil))))))
 .nil))
 (.cons (.ret (.var 9))
 .nil)))))))⟩
/-- _law_wrong -/
def t47 : Df := ⟨5, 2, (.cons (.asg (.tup 2 (.cons (.name 2) (.cons (.name 3) .nil))) (.tup (.cons (.int 0) (.cons (.int 0) .nil))))
 (.cons (.for_ (.seq (.var 1)) (.name 4) (.cons (.asg (.name 3) (.bin .add (.var 3) (.ife (.val (.cmp .ne (.idx (.idx (.var 0) (.int 0)) (.var 2)) (.var 4))) (.int 1) (.int 0))))
 (.cons (.asg (.name 2) (.idx (.idx (.idx (.var 0) (.int 1)) (.var 2)) (.ife (.tru (.var 4)) (.int 1) (.int 0))))
 .nil)))
 (.cons (.ret (.var 3))
 .nil)))⟩
/-- _law_outcomes -/
def t48 : Df := ⟨3, 1, (.cons (.ife (.val (.cmp .gt (.call 14 (.cons (.var 0) (.cons (.int 3) .nil))) (.int 0))) (.cons (.ret (.blt .tuple (.cons (.lc (.rng1 (.call 14 (.cons (.var 0) (.cons (.int 40) .nil)))) [2] (.name 2) .yes (.cmp .gt (.call 14 (.cons (.var 0) (.cons (.int 3) .nil))) (.int 0))) .nil)))
 .nil) .nil)
 (.cons (.asg (.name 1) (.lc (.rng1 (.bin .add (.int 1) (.call 14 (.cons (.var 0) (.cons (.int 4) .nil))))) [2] (.name 2) .yes (.cmp .eq (.call 14 (.cons (.var 0) (.cons (.int 2) .nil))) (.int 0))))
 (.cons (.ret (.blt .tuple (.cons (.bin .mul (.var 1) (.call 14 (.cons (.var 0) (.cons (.int 10) .nil)))) .nil)))
 .nil)))⟩
/-- _law_refusals -/
def t49 : Df := ⟨5, 0, (.cons (.asg (.name 0) (.tup (.cons (.tup (.cons (.bl true) .nil)) (.cons (.tup (.cons (.tup (.cons (.int 0) (.cons (.int 0) .nil))) .nil)) .nil))))
 (.cons (.asg (.name 1) (.lst (.cons .non (.cons (.tup .nil) (.cons (.sl (.var 0) .no (.yes (.int 1))) (.cons (.lst (.cons (.tup (.cons (.bl true) .nil)) (.cons (.tup (.cons (.tup (.cons (.int 0) (.cons (.int 0) .nil))) .nil)) .nil))) (.cons (.tup (.cons (.tup (.cons (.int 1) .nil)) (.cons (.tup (.cons (.tup (.cons (.int 0) (.cons (.int 0) .nil))) .nil)) .nil))) (.cons (.tup (.cons (.tup (.cons (.bl true) .nil)) (.cons (.tup (.cons (.tup (.cons (.int 0) (.cons (.int 1) .nil))) .nil)) .nil))) .nil))))))))
 (.cons (.asg (.name 1) (.bin .add (.var 1) (.lst (.cons (.tup (.cons (.tup (.cons (.bl true) .nil)) (.cons (.tup (.cons (.tup (.cons (.int 0) .nil)) .nil)) .nil))) (.cons (.tup (.cons (.tup (.cons (.bl true) .nil)) (.cons (.tup .nil) .nil))) (.cons (.tup (.cons (.tup .nil) (.cons (.tup .nil) .nil))) (.cons (.tup (.cons (.bin .mul (.tup (.cons (.bl true) .nil)) (.int 4)) (.cons (.bin .mul (.tup (.cons (.tup (.cons (.int 0) (.cons (.int 0) .nil))) .nil)) (.int 4)) .nil))) (.cons (.tup (.cons (.tup (.cons (.bl true) .nil)) (.cons (.tup (.cons (.lst (.cons (.int 0) (.cons (.int 0) .nil))) .nil)) .nil))) (.cons (.tup (.cons (.tup (.cons (.bl true) .nil)) (.cons (.tup (.cons (.tup (.cons (.bl true) (.cons (.int 0) .nil))) .nil)) .nil))) .nil)))))))))
 (.cons (.for_ (.seq (.var 1)) (.name 2) (.cons (.ife (.val (.cmp .isn (.call 38 (.cons (.var 2) .nil)) (.bl false))) (.cons (.ret (.bl false))
 .nil) .nil)
 (.cons (.try_ (.cons (.drop (.call 39 (.cons (.var 2) (.cons (.tup (.cons (.bl true) .nil)) .nil))))
 (.cons (.ret (.bl false))
 .nil)) (.cons 3 (some 3) (.cons (.ife (.not (.val (.excIs 3 [(3, true)]))) (.cons (.ret (.bl false))
 .nil) .nil)
 .nil) .nil))
 .nil)))
 (.cons (.for_ (.seq (.lst (.cons .non (.cons (.lst (.cons (.bl true) .nil)) (.cons (.tup (.cons (.int 1) .nil)) (.cons (.tup (.cons .non .nil)) (.cons (.str "TF") (.cons (.tup (.cons (.bl true) (.cons (.int 0) .nil))) .nil)))))))) (.name 2) (.cons (.for_ (.rng1 (.int 4)) (.name 4) (.cons (.try_ (.cons (.ife (.val (.cmp .eq (.var 4) (.int 0))) (.cons (.drop (.call 39 (.cons (.var 0) (.cons (.var 2) .nil))))
 .nil) (.cons (.ife (.val (.cmp .eq (.var 4) (.int 1))) (.cons (.drop (.call 45 (.cons (.var 2) (.cons (.int 0) .nil))))
 .nil) (.cons (.drop (.callE [43, 44] (.idx (.lst (.cons (.gfn 43) (.cons (.gfn 44) .nil))) (.bin .sub (.var 4) (.int 2))) (.cons (.var 2) (.cons (.int 1) .nil))))
 .nil))
 .nil))
 (.cons (.ret (.bl false))
 .nil)) (.cons 3 (some 3) (.cons (.ife (.not (.val (.excIs 3 [(3, true)]))) (.cons (.ret (.bl false))
 .nil) .nil)
 .nil) .nil))
 .nil))
 .nil))
 (.cons (.for_ (.seq (.lst (.cons (.int 0) (.cons (.int 4) (.cons .non (.cons (.bl true) (.cons (.neg (.int 1)) .nil))))))) (.name 2) (.cons (.for_ (.rng1 (.int 3)) (.name 4) (.cons (.try_ (.cons (.ife (.val (.cmp .eq (.var 4) (.int 0))) (.cons (.drop (.call 42 (.cons (.var 2) .nil)))
 .nil) (.cons (.drop (.callE [43, 44] (.idx (.lst (.cons (.gfn 43) (.cons (.gfn 44) .nil))) (.bin .sub (.var 4) (.int 1))) (.cons (.tup (.cons (.bl true) .nil)) (.cons (.var 2) .nil))))
 .nil))
 (.cons (.ret (.bl false))
 .nil)) (.cons 3 (some 3) (.cons (.ife (.not (.val (.excIs 3 [(3, true)]))) (.cons (.ret (.bl false))
 .nil) .nil)
 .nil) .nil))
 .nil))
 .nil))
 (.cons (.for_ (.rng1 (.int 2)) (.name 4) (.cons (.try_ (.cons (.ife (.val (.cmp .eq (.var 4) (.int 0))) (.cons (.drop (.call 43 (.cons (.bin .mul (.tup (.cons (.bl true) .nil)) (.int 201)) (.cons (.int 1) .nil))))
 .nil) (.cons (.drop (.call 45 (.cons (.tup (.cons (.bl true) .nil)) (.cons (.neg (.int 1)) .nil))))
 .nil))
 (.cons (.ret (.bl false))
 .nil)) (.cons 6 (some 3) (.cons (.ife (.or (.not (.val (.excIs 3 [(6, true)]))) (.or (.val (.cmp .eq (.var 4) (.int 1))) (.val (.cmp .ne (.excFld 3 "word" [6]) (.str "many"))))) (.cons (.ret (.bl false))
 .nil) .nil)
 .nil) (.cons 3 (some 3) (.cons (.ife (.or (.not (.val (.excIs 3 [(3, true)]))) (.val (.cmp .eq (.var 4) (.int 0)))) (.cons (.ret (.bl false))
 .nil) .nil)
 .nil) .nil)))
 .nil))
 (.cons (.ret (.andE (.cmp .is (.call 38 (.cons (.var 0) .nil)) (.bl true)) (.cmp .eq (.call 39 (.cons (.var 0) (.cons (.tup .nil) .nil))) (.int 0))))
 .nil))))))))⟩
/-- law -/
def t50 : Df := ⟨16, 1, (.cons (.asg (.name 1) (.call 13 (.cons (.var 0) .nil)))
 (.cons (.for_ (.rng1 (.int 3)) (.name 2) (.cons (.asg (.tup 2 (.cons (.name 3) (.cons (.name 4) .nil))) (.tup (.cons (.call 48 (.cons (.var 1) .nil)) (.cons (.bin .add (.int 1) (.call 14 (.cons (.var 1) (.cons (.int 2) .nil)))) .nil))))
 (.cons (.asg (.name 5) (.call 46 (.cons (.var 4) .nil)))
 (.cons (.asg (.name 6) (.lc (.seq (.var 5)) [12] (.name 12) .yes (.call 47 (.cons (.var 12) (.cons (.var 3) .nil)))))
 (.cons (.ife (.not (.tru (.call 15 (.cons (.call 42 (.cons (.var 4) .nil)) (.cons (.blt .tuple (.cons (.var 5) .nil)) .nil))))) (.cons (.ret (.bl false))
 .nil) .nil)
 (.cons (.asg (.name 7) (.blt .tuple (.cons (.lc (.seq (.srtSet (.var 6))) [13] (.name 13) .yes (.tup (.cons (.var 13) (.cons (.bm .count (.var 6) (.cons (.var 13) .nil)) .nil)))) .nil)))
 (.cons (.ife (.not (.tru (.call 15 (.cons (.lst (.cons (.call 43 (.cons (.var 3) (.cons (.var 4) .nil))) (.cons (.call 44 (.cons (.var 3) (.cons (.var 4) .nil))) .nil))) (.cons (.lst (.cons (.tup (.cons (.blt .min (.cons (.var 6) .nil)) (.cons (.idx (.var 5) (.bm .index (.var 6) (.cons (.blt .min (.cons (.var 6) .nil)) .nil))) .nil))) (.cons (.var 7) .nil))) .nil))))) (.cons (.ret (.bl false))
 .nil) .nil)
 (.cons (.asg (.name 8) (.call 16 (.cons (.var 1) (.cons (.var 5) .nil))))
 (.cons (.ife (.not (.tru (.call 15 (.cons (.call 39 (.cons (.var 8) (.cons (.var 3) .nil))) (.cons (.call 47 (.cons (.var 8) (.cons (.var 3) .nil))) .nil))))) (.cons (.ret (.bl false))
 .nil) .nil)
 .nil)))))))))
 (.cons (.asg (.name 3) (.sl (.call 48 (.cons (.var 1) .nil)) .no (.yes (.int 16))))
 (.cons (.asg (.name 5) (.call 46 (.cons (.int 3) .nil)))
 (.cons (.asg (.name 6) (.lc (.seq (.var 5)) [12] (.name 12) .yes (.call 47 (.cons (.var 12) (.cons (.var 3) .nil)))))
 (.cons (.asg (.name 9) (.bin .add (.lc (.seq (.tup (.cons (.int 1) (.cons (.int 2) .nil)))) [4] (.name 4) .yes (.blt .min (.cons (.lc (.seq (.call 46 (.cons (.var 4) .nil))) [12] (.name 12) .yes (.call 47 (.cons (.var 12) (.cons (.var 3) .nil)))) .nil))) (.lst (.cons (.blt .min (.cons (.var 6) .nil)) .nil))))
 (.cons (.ife (.or (.not (.tru (.call 15 (.cons (.call 43 (.cons (.var 3) (.cons (.int 3) .nil))) (.cons (.tup (.cons (.blt .min (.cons (.var 6) .nil)) (.cons (.idx (.var 5) (.bm .index (.var 6) (.cons (.blt .min (.cons (.var 6) .nil)) .nil))) .nil))) .nil))))) (.val (.cmp .ne (.blt .sum (.cons (.lc (.seq (.call 44 (.cons (.var 3) (.cons (.int 3) .nil)))) [13, 14] (.tup 2 (.cons (.name 13) (.cons (.name 14) .nil))) .yes (.var 14)) .nil)) (.int 5832)))) (.cons (.ret (.bl false))
 .nil) .nil)
 (.cons (.asg (.name 10) (.call 14 (.cons (.var 1) (.cons (.int 5) .nil))))
 (.cons (.asg (.name 11) (.lc (.rng1 (.int 3)) [15] (.name 15) (.val (.cmp .le (.idx (.var 9) (.var 15)) (.var 10))) (.bin .add (.var 15) (.int 1))))
 (.cons (.ret (.andE (.call 15 (.cons (.call 45 (.cons (.var 3) (.cons (.var 10) .nil))) (.cons (.ife (.val (.cmp .gt (.blt .len (.cons (.var 11) .nil)) (.int 0))) (.idx (.var 11) (.int 0)) .non) .nil))) (.call 49 .nil)))
 .nil))))))))))⟩
def df : Nat → Option Df
  | 3 => some t3
  | 36 => some t36
  | 37 => some t37
  | 38 => some t38
  | 39 => some t39
  | 40 => some t40
  | 41 => some t41
  | 42 => some t42
  | 43 => some t43
  | 44 => some t44
  | 45 => some t45
  | 13 => some t13
  | 14 => some t14
  | 15 => some t15
  | 16 => some t16
  | 46 => some t46
  | 47 => some t47
  | 48 => some t48
  | 49 => some t49
  | 50 => some t50
  | _ => none
def cq : List (Nat × Str × D) := []
def nas : List (Nat × Str) := []
def exl : List ((Nat × Nat) × Bool) := [((1, 3), false), ((1, 6), false), ((3, 3), true), ((3, 6), false), ((6, 3), false), ((6, 6), true)]
def T : Tab := ⟨df, conOf cq, fun c f => nas.contains (c, f), fun k c => exl.lookup (k, c)⟩
end VI.K09

set_option Elab.async false
set_option linter.all false
set_option maxRecDepth 100000
set_option maxHeartbeats 2000000
/-! M9a: the defs of k09 one by one. -/
namespace VI.K09
open PySem L2 VI VI.Sh VI.Mc VI.Bst
theorem hB : HasB T := ⟨rfl, rfl, rfl, rfl, rfl, rfl, rfl, rfl, rfl, rfl, rfl⟩
theorem T13 : T.df 13 = some Sh.t13 := rfl
theorem T14 : T.df 14 = some Sh.t14 := rfl
theorem T15 : T.df 15 = some Sh.t15 := rfl
theorem T16 : T.df 16 = some Sh.t16 := rfl
@[simp] theorem ex33 : T.exm 3 3 = some true := (rfl)
@[simp] theorem ex36 : T.exm 3 6 = some false := (rfl)
@[simp] theorem ex66 : T.exm 6 6 = some true := (rfl)
@[simp] theorem ex63 : T.exm 6 3 = some false := (rfl)
section
variable {n : Nat} {S : Store} {os g : List Bool} {w : Way} {s : Nat}
/-! ### refusals -/
def zz : D := .tup [.int 0, .int 0]
def okM : D := .tup [.tup [.bl true], .tup [zz]]
def badP : List D := [.non, .tup [], .tup [.tup [.bl true]], .tup [.tup [.int 1], .tup [zz]], .tup [.tup [.bl true], .tup [.tup [.int 0, .int 1]]], .tup [.tup [.bl true], .tup [.tup [.int 0]]], .tup [.tup [.bl true], .tup []], .tup [.tup [], .tup []],
  .tup [.tup [.bl true, .bl true, .bl true, .bl true], .tup [zz, zz, zz, zz]], .tup [.tup [.bl true], .tup [.tup [.bl true, .int 0]]]]
theorem not_mach {d : D} (h : d ∈ badP) : ∃ S', run T (n + 2) 38 [d] S = .ok (.bl false) S' ∧ Keeps [] S S' := by
  have key : (run T (n + 2) 38 [d] S).want (fun a S' => a = .bl false ∧ Keeps [] S S') fun _ _ => False := by
    refine run_i rfl rfl ?_
    have f : ∀ (S : Store) (i : Int), run T (n + 1) 3 [.int i] S = .ok (.bl true) S := fun S i => whole hB.d3 rfl
    have f2 : ∀ (S : Store) (i : Bool), run T (n + 1) 3 [.bl i] S = .ok (.bl false) S := fun S i => whole hB.d3 rfl
    simp [badP] at h
    rcases h with rfl | rfl | rfl | rfl | rfl | rfl | rfl | rfl | rfl | rfl <;> simp [K09.t38, zz, lcS_fix, lcFix_cons, lcFix_nil, lcTest_true, lcPush_eq, forS_fix, forFix_cons, forFix_nil, forEnd_nx, forEnd_rt, slotsG, slotsGs, f, f2, Keeps.refl, Keeps.app]
  obtain ⟨a, S', e, rfl, h⟩ := want_some key
  exact ⟨S', e, h⟩
theorem not_mach_l {l : Nat} {xs : List D} (h : at_ S l = some (.lst xs)) : ∃ S', run T (n + 2) 38 [.ref l] S = .ok (.bl false) S' ∧ Keeps [] S S' := by
  have key : (run T (n + 2) 38 [.ref l] S).want (fun a S' => a = .bl false ∧ Keeps [] S S') fun _ _ => False := by
    refine run_i rfl rfl ?_
    simp [K09.t38, isi_lst_tuple h, Keeps.refl]
  obtain ⟨a, S', e, rfl, h⟩ := want_some key
  exact ⟨S', e, h⟩
theorem not_mach_i {l : Nat} {xs : List D} (h : at_ S l = some (.lst xs)) : ∃ S', run T (n + 2) 38 [.tup [.tup [.bl true], .tup [.ref l]]] S = .ok (.bl false) S' ∧ Keeps [] S S' := by
  have key : (run T (n + 2) 38 [.tup [.tup [.bl true], .tup [.ref l]]] S).want (fun a S' => a = .bl false ∧ Keeps [] S S') fun _ _ => False := by
    refine run_i rfl rfl ?_
    have h2 : ∀ G, at_ (S ++ G) l = some (.lst xs) := fun G => by rw [at_app (at_is h)]; exact h
    have h3 : ∀ G, isiOp (.ref l) "tuple" (S ++ G) = some false := fun G => isi_lst_tuple (h2 G)
    simp [K09.t38, zz, lcS_fix, lcFix_cons, lcFix_nil, lcTest_true, lcPush_eq, forS_fix, forFix_cons, forFix_nil, forEnd_nx, forEnd_rt, slotsG, slotsGs, h3, Keeps.refl, Keeps.app]
  obtain ⟨a, S', e, rfl, h⟩ := want_some key
  exact ⟨S', e, h⟩
/-- d is no machine here -/
def NoM (d : D) (S : Store) : Prop := d ∈ badP ∨ (∃ l xs, d = .ref l ∧ at_ S l = some (.lst xs)) ∨ ∃ l xs, d = .tup [.tup [.bl true], .tup [.ref l]] ∧ at_ S l = some (.lst xs)
theorem NoM.run {d : D} (h : NoM d S) : ∃ S', VI.run T (n + 2) 38 [d] S = .ok (.bl false) S' ∧ Keeps [] S S' := by
  rcases h with h | ⟨l, xs, rfl, h⟩ | ⟨l, xs, rfl, h⟩
  · exact not_mach h
  · exact not_mach_l h
  · exact not_mach_i h
theorem NoM.keep {d : D} {S' : Store} (h : NoM d S) (k : Keeps [] S S') : NoM d S' := by
  rcases h with h | ⟨l, xs, h1, h⟩ | ⟨l, xs, h1, h⟩
  · exact .inl h
  · exact .inr (.inl ⟨l, xs, h1, k.get h (by simp)⟩)
  · exact .inr (.inr ⟨l, xs, h1, k.get h (by simp)⟩)
theorem wrong_bad {d : D} {x : D} (h : NoM d S) : ∃ S', run T (n + 3) 39 [d, x] S = .exc ⟨3, [("word", .str "machine")]⟩ S' ∧ Keeps [] S S' := by
  have key : (run T (n + 3) 39 [d, x] S).want (fun _ _ => False) fun x S' => x = ⟨3, [("word", .str "machine")]⟩ ∧ Keeps [] S S' := by
    refine run_i rfl rfl ?_
    obtain ⟨S1, f1, k1⟩ := h.run (n := n)
    simp [K09.t39, f1]
    exact k1
  obtain ⟨x, S', e, rfl, h⟩ := want_exc_some key
  exact ⟨S', e, h⟩
/-- d is no outcomes here -/
def NoO (d : D) (S : Store) : Prop := d ∈ [D.non, .tup [.int 1], .tup [.non], .str "TF", .tup [.bl true, .int 0]] ∨ ∃ l xs, d = .ref l ∧ at_ S l = some (.lst xs)
theorem NoO.keep {d : D} {S' : Store} (h : NoO d S) (k : Keeps [] S S') : NoO d S' := by
  rcases h with h | ⟨l, xs, h1, h⟩
  · exact .inl h
  · exact .inr ⟨l, xs, h1, k.get h (by simp)⟩
theorem NoO.run {d : D} (h : NoO d S) : ∃ S', VI.run T (n + 1) 36 [d] S = .exc ⟨3, [("word", .str "outcomes")]⟩ S' ∧ Keeps [] S S' := by
  have key : (VI.run T (n + 1) 36 [d] S).want (fun _ _ => False) fun x S' => x = ⟨3, [("word", .str "outcomes")]⟩ ∧ Keeps [] S S' := by
    refine run_i rfl rfl ?_
    rcases h with h | ⟨l, xs, rfl, h⟩
    · simp at h
      rcases h with rfl | rfl | rfl | rfl | rfl <;> simp [K09.t36, lcS_fix, lcFix_cons, lcFix_nil, lcTest_true, lcPush_eq, slotsG, slotsGs, Keeps.refl, Keeps.app]
    · simp [K09.t36, isi_lst_tuple h, Keeps.refl]
  obtain ⟨x, S', e, rfl, h⟩ := want_exc_some key
  exact ⟨S', e, h⟩
theorem look_many : ∃ S', run T (n + 1) 36 [.tup (List.replicate 201 (.bl true))] S = .exc ⟨6, [("word", .str "many")]⟩ S' ∧ Keeps [] S S' := by
  have key : (run T (n + 1) 36 [.tup (List.replicate 201 (.bl true))] S).want (fun _ _ => False) fun x S' => x = ⟨6, [("word", .str "many")]⟩ ∧ Keeps [] S S' := by
    generalize hr : List.replicate 201 (D.bl true) = r
    have hl : r.length = 201 := by rw [← hr]; simp
    have hm : ∀ d ∈ r, d = .bl true := fun d hd => by rw [← hr] at hd; exact List.eq_of_mem_replicate hd
    refine run_i rfl rfl ?_
    simp [K09.t36]
    repeat (first | refine wp_seq ?_ | refine wp_toS ?_ | refine want_bind_i ?_)
    refine lc_use (lc_map [] (fun _ => .bl true) rfl (by omega) (fun _ _ _ => rfl) (fun d hd acc S' k a => ?_)) (fun S1 ⟨a1, k1⟩ => ?_)
    · rw [hm d hd]
      simp [k, a]
    · have e : blsOf (r.map fun _ => D.bl true) = some (r.map fun _ => true) := by
        have : r.map (fun _ => D.bl true) = (r.map fun _ => true).map .bl := by rw [List.map_map]; rfl
        rw [this, blsOf_map]
      simp [a1, k1, hl, e]
  obtain ⟨x, S', e, rfl, h⟩ := want_exc_some key
  exact ⟨S', e, h⟩
theorem NoO.wrong {d : D} (h : NoO d S) : ∃ S', VI.run T (n + 4) 39 [okM, d] S = .exc ⟨3, [("word", .str "outcomes")]⟩ S' ∧ Keeps [] S S' := by
  have key : (VI.run T (n + 4) 39 [okM, d] S).want (fun _ _ => False) fun x S' => x = ⟨3, [("word", .str "outcomes")]⟩ ∧ Keeps [] S S' := by
    refine run_i rfl rfl ?_
    obtain ⟨S1, f1, k1⟩ := is_mach hB (n := n + 1) (S := S) (g := [true]) (w := [(0, 0)]) (s := 1) ⟨rfl, rfl, by simp⟩ (by omega) (by omega)
    obtain ⟨S2, f2, k2⟩ := (h.keep k1).run (n := n + 2)
    simp only [mD, wD, pD, List.map] at f1
    simp at f1
    simp [K09.t39, okM, zz, f1, f2]
    exact k1.trans k2
  obtain ⟨x, S', e, rfl, h⟩ := want_exc_some key
  exact ⟨S', e, h⟩
theorem NoO.least {d x : D} (h : NoO d S) : ∃ S', VI.run T (n + 2) 43 [d, x] S = .exc ⟨3, [("word", .str "outcomes")]⟩ S' ∧ Keeps [] S S' := by
  have key : (VI.run T (n + 2) 43 [d, x] S).want (fun _ _ => False) fun x S' => x = ⟨3, [("word", .str "outcomes")]⟩ ∧ Keeps [] S S' := by
    refine run_i rfl rfl ?_
    obtain ⟨S2, f2, k2⟩ := h.run (n := n)
    simp [K09.t43, f2]
    exact k2
  obtain ⟨x, S', e, rfl, h⟩ := want_exc_some key
  exact ⟨S', e, h⟩
theorem NoO.counts {d x : D} (h : NoO d S) : ∃ S', VI.run T (n + 2) 44 [d, x] S = .exc ⟨3, [("word", .str "outcomes")]⟩ S' ∧ Keeps [] S S' := by
  have key : (VI.run T (n + 2) 44 [d, x] S).want (fun _ _ => False) fun x S' => x = ⟨3, [("word", .str "outcomes")]⟩ ∧ Keeps [] S S' := by
    refine run_i rfl rfl ?_
    obtain ⟨S2, f2, k2⟩ := h.run (n := n)
    simp [K09.t44, f2]
    exact k2
  obtain ⟨x, S', e, rfl, h⟩ := want_exc_some key
  exact ⟨S', e, h⟩
theorem NoO.fewest {d : D} (h : NoO d S) : ∃ S', VI.run T (n + 3) 45 [d, .int 0] S = .exc ⟨3, [("word", .str "outcomes")]⟩ S' ∧ Keeps [] S S' := by
  have key : (VI.run T (n + 3) 45 [d, .int 0] S).want (fun _ _ => False) fun x S' => x = ⟨3, [("word", .str "outcomes")]⟩ ∧ Keeps [] S S' := by
    refine run_i rfl rfl ?_
    have f : VI.run T (n + 2) 3 [.int 0] S = .ok (.bl true) S := whole hB.d3 rfl
    obtain ⟨S2, f2, k2⟩ := h.least (n := n) (x := .int 1)
    simp [K09.t45, f, f2, forS_fix, rngD, forFix_cons, forFix_nil, forEnd_exc]
    exact k2
  obtain ⟨x, S', e, rfl, h⟩ := want_exc_some key
  exact ⟨S', e, h⟩
def badS : List D := [.int 0, .int 4, .non, .bl true, .int (-1)]
theorem states_bad {d : D} (h : d ∈ badS) : run T (n + 2) 37 [d] S = .exc ⟨3, [("word", .str "states")]⟩ S := by
  obtain ⟨a, S', e, rfl, rfl⟩ := want_exc_some (r := run T (n + 2) 37 [d] S) (x := fun x S' => x = ⟨3, [("word", .str "states")]⟩ ∧ S' = S) (by
    refine run_i rfl rfl ?_
    have f : ∀ (S : Store) (i : Int), run T (n + 1) 3 [.int i] S = .ok (.bl true) S := fun S i => whole hB.d3 rfl
    have f2 : ∀ (S : Store) (i : Bool), run T (n + 1) 3 [.bl i] S = .ok (.bl false) S := fun S i => whole hB.d3 rfl
    have f3 : run T (n + 1) 3 [.non] S = .ok (.bl false) S := whole hB.d3 rfl
    simp [badS] at h
    rcases h with rfl | rfl | rfl | rfl | rfl <;> simp [K09.t37, f, f2, f3])
  exact e
theorem machines_bad {d : D} (h : d ∈ badS) : run T (n + 3) 42 [d] S = .exc ⟨3, [("word", .str "states")]⟩ S := by
  obtain ⟨a, S', e, rfl, rfl⟩ := want_exc_some (r := run T (n + 3) 42 [d] S) (x := fun x S' => x = ⟨3, [("word", .str "states")]⟩ ∧ S' = S) (by
    refine run_i rfl rfl ?_
    have f := states_bad (n := n) (S := S) h
    simp [K09.t42, f])
  exact e
theorem least_bad {d : D} (h : d ∈ badS) : ∃ S', run T (n + 3) 43 [.tup [.bl true], d] S = .exc ⟨3, [("word", .str "states")]⟩ S' ∧ Keeps [] S S' := by
  have key : (run T (n + 3) 43 [.tup [.bl true], d] S).want (fun _ _ => False) fun x S' => x = ⟨3, [("word", .str "states")]⟩ ∧ Keeps [] S S' := by
    refine run_i rfl rfl ?_
    obtain ⟨S1, f1, k1⟩ := look_out hB (n := n + 1) (S := S) (os := [true]) (by decide)
    have f := states_bad (n := n) (S := S1) h
    simp at f1
    simp [K09.t43, f1, f, k1]
  obtain ⟨x, S', e, rfl, h⟩ := want_exc_some key
  exact ⟨S', e, h⟩
theorem counts_bad {d : D} (h : d ∈ badS) : ∃ S', run T (n + 3) 44 [.tup [.bl true], d] S = .exc ⟨3, [("word", .str "states")]⟩ S' ∧ Keeps [] S S' := by
  have key : (run T (n + 3) 44 [.tup [.bl true], d] S).want (fun _ _ => False) fun x S' => x = ⟨3, [("word", .str "states")]⟩ ∧ Keeps [] S S' := by
    refine run_i rfl rfl ?_
    obtain ⟨S1, f1, k1⟩ := look_out hB (n := n + 1) (S := S) (os := [true]) (by decide)
    have f := states_bad (n := n) (S := S1) h
    simp at f1
    simp [K09.t44, f1, f, k1]
  obtain ⟨x, S', e, rfl, h⟩ := want_exc_some key
  exact ⟨S', e, h⟩
theorem least_many {x : D} : ∃ S', run T (n + 2) 43 [.tup (List.replicate 201 (.bl true)), x] S = .exc ⟨6, [("word", .str "many")]⟩ S' ∧ Keeps [] S S' := by
  have key : (run T (n + 2) 43 [.tup (List.replicate 201 (.bl true)), x] S).want (fun _ _ => False) fun x S' => x = ⟨6, [("word", .str "many")]⟩ ∧ Keeps [] S S' := by
    obtain ⟨S1, f1, k1⟩ := look_many (n := n) (S := S)
    generalize List.replicate 201 (D.bl true) = r at *
    refine run_i rfl rfl ?_
    simp [K09.t43, f1, k1]
  obtain ⟨x, S', e, rfl, h⟩ := want_exc_some key
  exact ⟨S', e, h⟩
theorem fewest_neg : run T (n + 2) 45 [.tup [.bl true], .int (-1)] S = .exc ⟨3, [("word", .str "most")]⟩ S := by
  obtain ⟨a, S', e, rfl, rfl⟩ := want_exc_some (r := run T (n + 2) 45 [.tup [.bl true], .int (-1)] S) (x := fun x S' => x = ⟨3, [("word", .str "most")]⟩ ∧ S' = S) (by
    refine run_i rfl rfl ?_
    have f : ∀ (S : Store) (i : Int), run T (n + 1) 3 [.int i] S = .ok (.bl true) S := fun S i => whole hB.d3 rfl
    simp [K09.t45, f])
  exact e
/-! ### the law's own walks -/
theorem law_wrong (hm : mach s g w) (hs : 0 < s) (hl : os.length ≤ 200) : run T (n + 1) 47 [mD (g, w), .tup (os.map .bl)] S = .ok (.int (wro g w os : Nat)) S := by
  obtain ⟨a, S', e, rfl, rfl⟩ := want_some (r := run T (n + 1) 47 [mD (g, w), .tup (os.map .bl)] S) (k := fun a S' => a = .int (wro g w os : Nat) ∧ S' = S) (by
    refine run_i rfl rfl ?_
    simp [t47]
    refine wp_seq (wp_for_fix (ds := os.map .bl) (fun i env S' => S' = S ∧ ((os.take i).foldl (stp g w) (0, 0)).1 < s ∧ ∃ e4, env = [.val (mD (g, w)), .val (.tup (os.map .bl)), .val (.int (((os.take i).foldl (stp g w) (0, 0)).1 : Nat)), .val (.int (((os.take i).foldl (stp g w) (0, 0)).2 : Nat)), e4]) (by simp; omega) ⟨rfl, by simpa using hs, _, rfl⟩ (fun i d env S' hd hI => ?_) (fun env S' hI => ?_))
    · obtain ⟨rfl, hlt, e6, rfl⟩ := hI
      rw [List.getElem?_map] at hd
      obtain ⟨b, hb, rfl⟩ := Option.map_eq_some_iff.mp hd
      have f1 := at_g (g := g) (by rw [hm.1]; exact hlt)
      have f2 := at_w (w := w) (by rw [hm.2.1]; exact hlt)
      have f3 := nxt_lt hm.2 hs ((os.take i).foldl (stp g w) (0, 0)).1 b
      rw [fold_take hb]
      generalize (os.take i).foldl (stp g w) (0, 0) = q at *
      obtain ⟨q1, q2⟩ := q
      simp only [stp] at *
      generalize g.getD q1 false = gb at *
      cases b <;> cases gb <;> simp [f1, f2, mD, wD] <;> exact f3
    · obtain ⟨rfl, hlt, e6, rfl⟩ := hI
      simp [wro])
  exact e
def gD (q : List Bool) : D := .tup (q.map .bl)
theorem rows2_len (h2 : s ≤ 3) : (Mc.rows [false, true] s).length ≤ 8 := by
  rw [rows_len]
  calc _ ≤ 2 ^ 3 := Nat.pow_le_pow_right (by decide) h2
    _ = _ := by decide
theorem rows2_next {i : Nat} : ((Mc.rows [false, true] i).map fun q => [gD (q ++ [false]), gD (q ++ [true])]).flatten = (Mc.rows [false, true] (i + 1)).map gD := by
  rw [show Mc.rows [false, true] (i + 1) = ((Mc.rows [false, true] i).map fun r => [false, true].map fun x => r ++ [x]).flatten from rfl, List.map_flatten, List.map_map]
  simp [Function.comp_def]
theorem law_machines (h1 : 1 ≤ s) (h2 : s ≤ 3) : ∃ (r : Nat) (S' : Store), run T (n + 1) 46 [.int s] S = .ok (.ref r) S' ∧ at_ S' r = some (.lst ((machs s).map mD)) ∧ Keeps [] S S' := by
  have key : (run T (n + 1) 46 [.int s] S).want (fun a S' => ∃ r, a = .ref r ∧ at_ S' r = some (.lst ((machs s).map mD)) ∧ Keeps [] S S') fun _ _ => False := by
    have hs0 : ((s : Nat) : Int).toNat = s := by simp
    have hs1 : -4611686018427387904 ≤ ((s : Nat) : Int) := by omega
    have hs2 : ((s : Nat) : Int) < 4611686018427387904 := by omega
    generalize ((s : Nat) : Int) = z at hs0 hs1 hs2 ⊢
    have lp : (pairs s).length ≤ 9 := by rw [pairs_len]; exact Nat.mul_le_mul h2 h2
    have wl := ways_len h2
    refine run_i rfl rfl ?_
    simp [t46, hs0, hs1, hs2]
    -- the pairs
    refine wp_seq (wp_for_fix (ds := rngD 0 1 s) (fun i env S' => Keeps [] S S' ∧ at_ S' S.length = some (.lst [.tup []]) ∧ at_ S' (S.length + 1) = some (.lst [.tup []]) ∧ ∃ r e4, at_ S' r = some (.lst (((List.range i).map fun a => (List.range s).map fun b => pD (a, b)).flatten)) ∧ env = [.val (.int z), .val (.ref S.length), .val (.ref (S.length + 1)), .val (.ref r), e4, .no, .no, .no, .no, .no, .no, .no, .no]) (by rw [rngD_len]; omega) ⟨Keeps.app Keeps.refl, by simp, by simp, S.length + 2, _, by simp, rfl⟩ (fun i d env S' hd hI => ?_) (fun env S' hI => ?_))
    · obtain ⟨hk, hg, hw, r, e4, hr, rfl⟩ := hI
      obtain ⟨rfl, hi⟩ := rngD_at hd
      simp [hs0, hs1, hs2]
      repeat (first | refine wp_seq ?_ | refine wp_toS ?_ | refine want_bind_i ?_)
      refine lc_use (lc_mapA [] (xs := List.range s) (f := fun b => .int (b : Nat)) (fun b => pD (i, b)) rfl (by simp; omega) (fun j S'' k => by rw [rngD_range]; rfl) (fun j b hb acc S'' k a => ?_)) (fun S2 ⟨a2, k2⟩ => ?_)
      · simp [k, a, pD]
      · have b2 := k2.get hr (by simp)
        have l2 : (((List.range i).map fun a => (List.range s).map fun b => pD (a, b)).flatten).length ≤ 9 := by
          have := flat_le (F := fun a => (List.range s).map fun b => pD (a, b)) (K := s) (l := List.range i) (fun _ _ => by simp)
          rw [List.length_range] at this
          have h3 : i * s ≤ 3 * 3 := Nat.mul_le_mul (by omega) h2
          omega
        have k3 := hk.trans k2
        simp [a2, b2, -List.length_flatten, show (((List.range i).map fun a => (List.range s).map fun b => pD (a, b)).flatten).length + s ≤ 16777216 by omega]
        refine ⟨k3.app, by rw [at_app (at_is (k2.get hg (by simp)))]; exact k2.get hg (by simp), by rw [at_app (at_is (k2.get hw (by simp)))]; exact k2.get hw (by simp), ?_⟩
        rw [List.range_succ, List.map_append, List.flatten_append]
        simp
    · obtain ⟨hk, hg, hw, r, e4, hr, rfl⟩ := hI
      rw [rngD_len] at hr
      have hr : at_ S' r = some (.lst ((pairs s).map pD)) := by rw [hr]; unfold pairs; rw [List.map_flatten, List.map_map]; simp [Function.comp_def]
      simp [hs0, hs1, hs2]
      -- guesses and ways
      refine wp_seq (wp_for_fix (ds := rngD 0 1 s) (fun i env S2 => Keeps [] S S2 ∧ at_ S2 r = some (.lst ((pairs s).map pD)) ∧ ∃ rg rw_ e5 e6 e7 e8, at_ S2 rg = some (.lst ((Mc.rows [false, true] i).map gD)) ∧ at_ S2 rw_ = some (.lst ((Mc.rows ((pairs s).map pD) i).map .tup)) ∧ env = [.val (.int z), .val (.ref rg), .val (.ref rw_), .val (.ref r), e4, e5, e6, e7, e8, .no, .no, .no, .no]) (by rw [rngD_len]; omega) ⟨hk, hr, S.length, S.length + 1, _, _, _, _, by simpa [Mc.rows, gD] using hg, by simpa [Mc.rows] using hw, rfl⟩ (fun i d env S2 hd hI => ?_) (fun env S2 hI => ?_))
      · obtain ⟨hk2, hr2, rg, rw_, e5, e6, e7, e8, hrg, hrw, rfl⟩ := hI
        obtain ⟨rfl, hi⟩ := rngD_at hd
        have hlg := rows2_len (s := i) (by omega)
        have hlw : (Mc.rows ((pairs s).map pD) i).length ≤ 729 := by
          rw [rows_len, List.length_map]
          calc _ ≤ 9 ^ i := Nat.pow_le_pow_left lp i
            _ ≤ 9 ^ 3 := Nat.pow_le_pow_right (by omega) (by omega)
            _ = _ := by decide
        obtain ⟨acc, ac0, acs, acl, acb⟩ := flat_acc (Mc.rows [false, true] i) fun q => [gD (q ++ [false]), gD (q ++ [true])]
        simp [hrg]
        have fg : at_ (S2 ++ [Cell.lst [], .lst []]) rg = _ := (at_app (at_is hrg)).trans hrg
        have fw : at_ (S2 ++ [Cell.lst [], .lst []]) rw_ = _ := (at_app (at_is hrw)).trans hrw
        have fr : at_ (S2 ++ [Cell.lst [], .lst []]) r = _ := (at_app (at_is hr2)).trans hr2
        refine wp_seq (wp_for_live (ds := (Mc.rows [false, true] i).map gD) (fun j env S3 => Keeps [] S S3 ∧ at_ S3 r = some (.lst ((pairs s).map pD)) ∧ at_ S3 rg = some (.lst ((Mc.rows [false, true] i).map gD)) ∧ at_ S3 rw_ = some (.lst ((Mc.rows ((pairs s).map pD) i).map .tup)) ∧ at_ S3 (S2.length + 1) = some (.lst []) ∧ ∃ rm e8, at_ S3 rm = some (.lst (acc j)) ∧ env = [.val (.int z), .val (.ref rg), .val (.ref rw_), .val (.ref r), e4, .val (.int i), .val (.ref rm), .val (.ref (S2.length + 1)), e8, .no, .no, .no, .no]) (by rw [List.length_map]; omega) (fun j env S3 h => h.2.2.1) ⟨hk2.app, fr, fg, fw, by simp, S2.length, _, by simp [ac0], rfl⟩ (fun j d env S3 hd hI => ?_) (fun env S3 hI => ?_))
        · obtain ⟨hk3, hr3, hg3, hw3, hf3, rm, e8, hm3, rfl⟩ := hI
          rw [List.getElem?_map] at hd
          obtain ⟨q, hq, rfl⟩ := Option.map_eq_some_iff.mp hd
          have hq2 := (mem_rows.mp (List.mem_of_getElem? hq)).1
          have l4 := acb j 2 (fun _ _ => by simp)
          simp [gD, hq2, show i ≤ 16777215 by omega, hm3, show (acc j).length + 2 ≤ 16777216 by omega]
          refine ⟨hk3.app, ?_, ?_, ?_, ?_, ?_⟩
          · rw [at_app (at_is hr3)]; exact hr3
          · rw [at_app (at_is hg3)]; exact hg3
          · rw [at_app (at_is hw3)]; exact hw3
          · rw [at_app (at_is hf3)]; exact hf3
          · rw [acs j q hq]; simp [gD]
        · obtain ⟨hk3, hr3, hg3, hw3, hf3, rm, e8, hm3, rfl⟩ := hI
          rw [List.length_map, acl, rows2_next] at hm3
          simp [hw3]
          obtain ⟨acc2, bc0, bcs, bcl, bcb⟩ := flat_acc (Mc.rows ((pairs s).map pD) i) fun q => (pairs s).map fun y => D.tup (q ++ [pD y])
          refine wp_seq (wp_for_live (ds := (Mc.rows ((pairs s).map pD) i).map .tup) (fun j env S4 => Keeps [] S S4 ∧ at_ S4 r = some (.lst ((pairs s).map pD)) ∧ at_ S4 rw_ = some (.lst ((Mc.rows ((pairs s).map pD) i).map .tup)) ∧ at_ S4 rm = some (.lst ((Mc.rows [false, true] (i + 1)).map gD)) ∧ ∃ rf e8, at_ S4 rf = some (.lst (acc2 j)) ∧ env = [.val (.int z), .val (.ref rg), .val (.ref rw_), .val (.ref r), e4, .val (.int i), .val (.ref rm), .val (.ref rf), e8, .no, .no, .no, .no]) (by rw [List.length_map]; omega) (fun j env S4 h => h.2.2.1) ⟨hk3, hr3, hw3, hm3, S2.length + 1, _, by simp [bc0, hf3], rfl⟩ (fun j d env S4 hd hI => ?_) (fun env S4 hI => ?_))
          · obtain ⟨hk4, hr4, hw4, hm4, rf, e8, hf4, rfl⟩ := hI
            rw [List.getElem?_map] at hd
            obtain ⟨q, hq, rfl⟩ := Option.map_eq_some_iff.mp hd
            have hq2 := (mem_rows.mp (List.mem_of_getElem? hq)).1
            simp [hr4]
            repeat (first | refine wp_seq ?_ | refine wp_toS ?_ | refine want_bind_i ?_)
            refine lc_use (lc_mapA [] (xs := pairs s) (f := pD) (fun y => .tup (q ++ [pD y])) rfl (by omega) (fun j S'' k => live_next (k.get hr4 (by simp))) (fun j b hb acc S'' k a => ?_)) (fun S5 ⟨a5, k5⟩ => ?_)
            · simp [k, a, hq2, show i ≤ 16777215 by omega]
            · have b5 := k5.get hf4 (by simp)
              have l5 := bcb j 9 (fun _ _ => by rw [List.length_map]; exact lp)
              simp [a5, b5, show (acc2 j).length + (pairs s).length ≤ 16777216 by omega]
              refine ⟨(hk4.trans k5).app, ?_, ?_, ?_, ?_⟩
              · rw [at_app (at_is (k5.get hr4 (by simp)))]; exact k5.get hr4 (by simp)
              · rw [at_app (at_is (k5.get hw4 (by simp)))]; exact k5.get hw4 (by simp)
              · rw [at_app (at_is (k5.get hm4 (by simp)))]; exact k5.get hm4 (by simp)
              · rw [bcs j q hq]
          · obtain ⟨hk4, hr4, hw4, hm4, rf, e8, hf4, rfl⟩ := hI
            rw [List.length_map, bcl] at hf4
            simp
            refine ⟨hk4, hr4, hm4, ?_⟩
            rw [hf4]
            show _ = some (Cell.lst (((Mc.rows ((pairs s).map pD) i).map fun r => ((pairs s).map pD).map fun x => r ++ [x]).flatten.map D.tup))
            rw [List.map_flatten, List.map_map]
            simp [Function.comp_def]
      · obtain ⟨hk2, hr2, rg, rw_, e5, e6, e7, e8, hrg, hrw, rfl⟩ := hI
        rw [rngD_len] at hrg
        rw [rngD_len, ways_D] at hrw
        simp [hrg]
        have hlg := rows2_len h2
        obtain ⟨acc, ac0, acs, acl, acb⟩ := flat_acc (Mc.rows [false, true] s) fun q => (wayRows s).map fun w => mD (q, w)
        have fg : at_ (S2 ++ [Cell.lst []]) rg = _ := (at_app (at_is hrg)).trans hrg
        have fw : at_ (S2 ++ [Cell.lst []]) rw_ = _ := (at_app (at_is hrw)).trans hrw
        refine wp_seq (wp_for_live (ds := (Mc.rows [false, true] s).map gD) (fun j env S3 => Keeps [] S S3 ∧ at_ S3 rg = some (.lst ((Mc.rows [false, true] s).map gD)) ∧ at_ S3 rw_ = some (.lst ((wayRows s).map wD)) ∧ ∃ rm e8, at_ S3 rm = some (.lst (acc j)) ∧ env = [.val (.int z), .val (.ref rg), .val (.ref rw_), .val (.ref r), e4, e5, e6, e7, e8, .val (.ref rm), .no, .no, .no]) (by rw [List.length_map]; omega) (fun j env S3 h => h.2.1) ⟨hk2.app, fg, fw, S2.length, _, by simp [ac0], rfl⟩ (fun j d env S3 hd hI => ?_) (fun env S3 hI => ?_))
        · obtain ⟨hk3, hg3, hw3, rm, e8, hm3, rfl⟩ := hI
          rw [List.getElem?_map] at hd
          obtain ⟨q, hq, rfl⟩ := Option.map_eq_some_iff.mp hd
          simp [hw3]
          repeat (first | refine wp_seq ?_ | refine wp_toS ?_ | refine want_bind_i ?_)
          refine lc_use (lc_mapA [] (xs := wayRows s) (f := wD) (fun w => mD (q, w)) rfl (by omega) (fun j S'' k => live_next (k.get hw3 (by simp))) (fun j b hb acc S'' k a => ?_)) (fun S5 ⟨a5, k5⟩ => ?_)
          · simp [k, a, mD, gD]
          · have b5 := k5.get hm3 (by simp)
            have l5 := acb j 729 (fun _ _ => by rw [List.length_map]; exact wl)
            simp [a5, b5, show (acc j).length + (wayRows s).length ≤ 16777216 by omega]
            refine ⟨(hk3.trans k5).app, ?_, ?_, ?_⟩
            · rw [at_app (at_is (k5.get hg3 (by simp)))]; exact k5.get hg3 (by simp)
            · rw [at_app (at_is (k5.get hw3 (by simp)))]; exact k5.get hw3 (by simp)
            · rw [acs j q hq]
        · obtain ⟨hk3, hg3, hw3, rm, e8, hm3, rfl⟩ := hI
          rw [List.length_map, acl] at hm3
          simp
          refine ⟨?_, hk3⟩
          rw [hm3]
          unfold machs
          rw [List.map_flatten, List.map_map]
          simp [Function.comp_def]
  obtain ⟨a, S', e, r, rfl, h⟩ := want_some key
  exact ⟨r, S', e, h⟩
theorem repD_map {k : Nat} {L : List Bool} : repD k (L.map .bl) = ((List.replicate k L).flatten).map .bl := by
  unfold repD
  rw [List.map_flatten, List.map_replicate]
theorem outcomes {l m : Nat} {ns : List Int} (hD : Draws l m ns S) : ∃ (os : List Bool) (S' : Store), run T (n + 2) 48 [.ref l] S = .ok (.tup (os.map .bl)) S' ∧ os.length ≤ 40 ∧ Draws l m ns S' := by
  have ll := lt_of_is hD.is.1
  have lm := lt_of_is hD.is.2
  have key : (run T (n + 2) 48 [.ref l] S).want (fun a S' => ∃ os : List Bool, a = .tup (os.map .bl) ∧ os.length ≤ 40 ∧ Draws l m ns S') fun _ _ => False := by
    refine run_i rfl rfl ?_
    obtain ⟨v, S1, e1, v0, v1, D1, k1, L1⟩ := draw (n := n) T14 (lim := 3) (by decide) (by decide) hD
    have ll1 := lt_of_is D1.is.1
    have lm1 := lt_of_is D1.is.2
    by_cases c : 0 < v
    · obtain ⟨u, S2, e2, u0, u1, D2, k2, L2⟩ := draw (n := n) T14 (lim := 40) (by decide) (by decide) D1
      have ll2 := lt_of_is D2.is.1
      have lm2 := lt_of_is D2.is.2
      simp [t48, e1, c, e2, show -4611686018427387904 ≤ u by omega, show u < 4611686018427387904 by omega]
      repeat (first | refine wp_seq ?_ | refine wp_toS ?_ | refine want_bind_i ?_)
      refine want_map (ds := rngD 0 1 u.toNat) (R := fun i y => ∃ b : Bool, True ∧ y = .bl b) (fun i S' => Draws l m ns S') rfl (by rw [rngD_len]; omega) (fun _ _ _ => rfl) (fun i S' c h => h.keep (W := [S2.length]) (Keeps.set Keeps.refl (.inl (by simp))) (by rw [List.mem_singleton]; omega) (by rw [List.mem_singleton]; omega)) (D2.keep (W := []) (Keeps.app Keeps.refl) (by simp) (by simp)) (fun i d acc S' hd hk ha => ?_) (fun ys S3 z1 z2 D3 z4 => ?_)
      · obtain ⟨x, Sc, ec, x0, x1, Dc, kc, _⟩ := draw (n := n) T14 (lim := 3) (by decide) (by decide) hk
        simp [ec, -Prod.exists]
        exact ⟨by omega, Dc, kc.get ha (by rw [List.mem_singleton]; omega)⟩
      · obtain ⟨bs, rfl, _⟩ := list_of z2
        rw [List.length_map, rngD_len] at z1
        simp [z4]
        exact ⟨bs, rfl, by omega, D3⟩
    · obtain ⟨u, S2, e2, u0, u1, D2, k2, L2⟩ := draw (n := n) T14 (lim := 4) (by decide) (by decide) D1
      have ll2 := lt_of_is D2.is.1
      have lm2 := lt_of_is D2.is.2
      simp [t48, e1, c, e2, show -4611686018427387904 ≤ 1 + u by omega, show 1 + u < 4611686018427387904 by omega]
      repeat (first | refine wp_seq ?_ | refine wp_toS ?_ | refine want_bind_i ?_)
      refine want_map (ds := rngD 0 1 (1 + u).toNat) (R := fun i y => ∃ b : Bool, True ∧ y = .bl b) (fun i S' => Draws l m ns S') rfl (by rw [rngD_len]; omega) (fun _ _ _ => rfl) (fun i S' c h => h.keep (W := [S2.length]) (Keeps.set Keeps.refl (.inl (by simp))) (by rw [List.mem_singleton]; omega) (by rw [List.mem_singleton]; omega)) (D2.keep (W := []) (Keeps.app Keeps.refl) (by simp) (by simp)) (fun i d acc S' hd hk ha => ?_) (fun ys S3 z1 z2 D3 z4 => ?_)
      · obtain ⟨x, Sc, ec, x0, x1, Dc, kc, _⟩ := draw (n := n) T14 (lim := 2) (by decide) (by decide) hk
        simp only [wipe_cons, wipe_nil, List.set_cons_succ, List.set_cons_zero, s_asgG_name, bindK_ok, s_evE_cmp, s_evE_call, s_evEs_cons, s_evEs_nil, s_evE_var, s_evE_int, getV_eq, List.getElem?_cons_succ, List.getElem?_cons_zero, optM_some, pg_call, ec, cmp_eq, eq_int, noX_ok, want_ok]
        exact ⟨⟨_, trivial, rfl⟩, Dc, kc.get ha (by rw [List.mem_singleton]; omega)⟩
      · obtain ⟨bs, rfl, _⟩ := list_of z2
        rw [List.length_map, rngD_len] at z1
        obtain ⟨t, S4, e4, t0, t1, D4, k4, L4⟩ := draw (n := n) T14 (lim := 10) (by decide) (by decide) D3
        have lt := lt_of_is D3.is.1
        have z5 := k4.get z4 (by rw [List.mem_singleton]; omega)
        generalize hfl : (List.replicate t.toNat bs).flatten = fl
        have hlen : fl.length = t.toNat * bs.length := by rw [← hfl]; simp only [List.length_flatten, List.map_replicate, List.sum_replicate_nat]
        have hb : t.toNat * bs.length ≤ 10 * 4 := Nat.mul_le_mul (by omega) (by omega)
        have hb2 : bs.length * t.toNat ≤ 16777216 := by rw [Nat.mul_comm]; omega
        have hrep : repD t.toNat (bs.map D.bl) = fl.map .bl := by rw [repD_map, hfl]
        simp [z4, e4, z5, hb2, hrep, show -9223372036854775808 ≤ t by omega, show t < 9223372036854775808 by omega]
        exact ⟨fl, rfl, by omega, D4.keep (W := []) (Keeps.app Keeps.refl) (by simp) (by simp)⟩
  obtain ⟨a, S', e, os, rfl, h⟩ := want_some key
  exact ⟨os, S', e, h⟩
theorem fold_le : ∀ (os : List Bool) (q : Nat × Nat), (os.foldl (stp g w) q).2 ≤ q.2 + os.length
  | [], q => by simp
  | o :: os, q => by
    have := fold_le os (stp g w q o)
    have h2 : (stp g w q o).2 ≤ q.2 + 1 := by
      unfold stp
      split <;> simp
    rw [List.foldl_cons, List.length_cons]
    omega
theorem wro_le : wro g w os ≤ os.length := by
  have := fold_le (g := g) (w := w) os (0, 0)
  unfold wro
  simpa using this
/-! ### the first of the least -/
theorem least_first (h1 : 1 ≤ s) (h2 : s ≤ 3) (hl : os.length ≤ 200) : ∃ (m : Nat) (j : Nat) (q : List Bool × Way) (S' : Store), run T (n + 4) 43 [.tup (os.map .bl), .int s] S = .ok (.tup [.int (m : Nat), mD q]) S' ∧ (machs s)[j]? = some q ∧ m = wro q.1 q.2 os ∧ (∀ q' ∈ machs s, m ≤ wro q'.1 q'.2 os) ∧ (∀ (i : Nat) q', i < j → (machs s)[i]? = some q' → m < wro q'.1 q'.2 os) ∧ Keeps [] S S' := by
  have key : (run T (n + 4) 43 [.tup (os.map .bl), .int s] S).want (fun a S' => ∃ (m : Nat) (j : Nat) (q : List Bool × Way), a = .tup [.int m, mD q] ∧ (machs s)[j]? = some q ∧ m = wro q.1 q.2 os ∧ (∀ q' ∈ machs s, m ≤ wro q'.1 q'.2 os) ∧ (∀ (i : Nat) q', i < j → (machs s)[i]? = some q' → m < wro q'.1 q'.2 os) ∧ Keeps [] S S') fun _ _ => False := by
    refine run_i rfl rfl ?_
    obtain ⟨S1, f1, k1⟩ := look_out hB (n := n + 2) (S := S) hl
    have f2 := look_states hB (n := n + 1) (S := S1) h1 h2
    obtain ⟨S2, f3, k2⟩ := machines hB (n := n) (S := S1) h1 h2
    simp [K09.t43, f1, f2, f3]
    have lm := machs_len h2
    refine wp_seq (wp_for_fix (ds := (machs s).map mD) (fun i env S' => Keeps [] S S' ∧ ∃ b e3 e4, env = [.val (.tup (os.map .bl)), .val (.int s), .val b, e3, e4] ∧ ((i = 0 ∧ b = .non) ∨ ∃ (m : Nat) (j : Nat) (q : List Bool × Way), b = .tup [.int m, mD q] ∧ (machs s)[j]? = some q ∧ m = wro q.1 q.2 os ∧ (∀ (j : Nat) q', j < i → (machs s)[j]? = some q' → m ≤ wro q'.1 q'.2 os) ∧ ∀ (i : Nat) q', i < j → (machs s)[i]? = some q' → m < wro q'.1 q'.2 os)) (by rw [List.length_map]; omega) ⟨k1.trans k2, _, _, _, rfl, .inl ⟨rfl, rfl⟩⟩ (fun i d env S' hd hI => ?_) (fun env S' hI => ?_))
    · obtain ⟨hk, b, e3, e4, rfl, hb⟩ := hI
      rw [List.getElem?_map] at hd
      obtain ⟨q, hq, rfl⟩ := Option.map_eq_some_iff.mp hd
      have hm := mem_machs.mp (List.mem_of_getElem? hq)
      have f4 := walked hB (n := n + 2) (S := S') (os := os) hm h1 hl
      rcases hb with ⟨rfl, rfl⟩ | ⟨m, j0, q0, rfl, h0, rfl, hle, hlt⟩
      · simp only [wp_ok, s_asgG_name, toK_ok, List.set_cons_succ, List.set_cons_zero]
        simp [f4]
        exact ⟨hk, _, 0, q.1, q.2, ⟨rfl, rfl⟩, hq, rfl, fun j g w hj he => by
          subst hj
          rw [hq] at he
          cases he
          exact Nat.le_refl _, by simp⟩
      · by_cases c : wro q.1 q.2 os < wro q0.1 q0.2 os
        · simp [f4, c]
          exact ⟨hk, _, i, q.1, q.2, ⟨rfl, rfl⟩, hq, rfl, fun j g w hj he => by
            rcases Nat.lt_succ_iff_lt_or_eq.mp hj with h | rfl
            · exact Nat.le_of_lt (Nat.lt_of_lt_of_le c (hle j (g, w) h he))
            · rw [hq] at he
              cases he
              exact Nat.le_refl _, fun j g w hj he => Nat.lt_of_lt_of_le c (hle j (g, w) hj he)⟩
        · simp [f4, c]
          exact ⟨hk, _, j0, q0.1, q0.2, ⟨rfl, rfl⟩, h0, rfl, fun j g w hj he => by
            rcases Nat.lt_succ_iff_lt_or_eq.mp hj with h | rfl
            · exact hle j (g, w) h he
            · rw [hq] at he
              cases he
              exact Nat.le_of_not_lt c, fun j g w hj he => hlt j (g, w) hj he⟩
    · obtain ⟨hk, b, e3, e4, rfl, hb⟩ := hI
      rcases hb with ⟨h0, rfl⟩ | ⟨m, j0, q0, rfl, h0, rfl, hle, hlt⟩
      · exfalso
        have hm : (List.replicate s false, List.replicate s (0, 0)) ∈ machs s := mem_machs.mpr ⟨by simp, by simp, fun p hp => by
          have := List.eq_of_mem_replicate hp
          subst this
          exact ⟨h1, h1⟩⟩
        rw [List.length_map] at h0
        rw [List.length_eq_zero_iff.mp h0] at hm
        cases hm
      · simp
        exact ⟨_, j0, q0.1, q0.2, ⟨rfl, rfl⟩, h0, rfl, fun g w hm => by
          obtain ⟨j, hj⟩ := List.getElem?_of_mem hm
          exact hle j (g, w) (by have := (List.getElem?_eq_some_iff.mp hj).1; simpa using this) hj, fun j g w hj he => hlt j (g, w) hj he, hk⟩
  obtain ⟨a, S', e, m, j, q, rfl, h⟩ := want_some key
  exact ⟨m, j, q, S', e, h⟩
/-! ### how many of each -/
abbrev kI (p : Int × Int) : L2.Key × D := (.inl p.1, .int p.2)
theorem dGet_kI {k : Int} : ∀ {P : List (Int × Int)}, dGet (Sum.inl k : L2.Key) (P.map kI) = (dGet k P).map .int
  | [] => rfl
  | p :: P => by
    show (if (Sum.inl p.1 : L2.Key) = Sum.inl k then some (D.int p.2) else dGet _ (P.map kI)) = ((if p.1 = k then some p.2 else dGet k P) : Option Int).map .int
    by_cases c : p.1 = k
    · rw [if_pos c, if_pos (by rw [c])]; rfl
    · rw [if_neg c, if_neg (fun h => c (Sum.inl.inj h))]
      exact dGet_kI
theorem dPut_kI {k c : Int} {P : List (Int × Int)} : dPut (Sum.inl k : L2.Key) (.int c) (P.map kI) = (dPut k c P).map kI := by
  unfold dPut
  have e : ∀ p : Int × Int, decide ((kI p).1 = (Sum.inl k : L2.Key)) = decide (p.1 = k) := fun p => by
    by_cases c : p.1 = k
    · simp [kI, c]
    · simp [kI, c]
  rw [List.any_map, show ((fun p : L2.Key × D => decide (p.1 = (Sum.inl k : L2.Key))) ∘ kI) = fun p : Int × Int => decide (p.1 = k) from funext e]
  split
  · rw [List.map_map, List.map_map]
    apply List.map_congr_left
    intro p _
    by_cases c : p.1 = k
    · simp [kI, c]
    · simp [kI, c]
  · simp [kI]
theorem itemsI_kI : ∀ {P : List (Int × Int)}, itemsI (P.map kI) = some P
  | [] => rfl
  | p :: P => by
    rw [List.map_cons]
    unfold itemsI
    rw [itemsI_kI]
theorem dGet_mem {k c : Int} : ∀ {P : List (Int × Int)}, (P.map (·.1)).Nodup → (dGet k P = some c ↔ (k, c) ∈ P)
  | [], _ => by simp [dGet]
  | p :: P, hn => by
    rw [List.map_cons, List.nodup_cons] at hn
    unfold dGet
    by_cases e : p.1 = k
    · rw [if_pos e]
      constructor
      · intro h
        cases h
        subst e
        exact List.mem_cons_self
      · intro h
        rcases List.mem_cons.mp h with h | h
        · rw [← h]
        · exact absurd (List.mem_map.mpr ⟨(k, c), h, rfl⟩) (by rw [← e]; exact hn.1)
    · rw [if_neg e, dGet_mem hn.2]
      constructor
      · exact fun h => List.mem_cons_of_mem _ h
      · intro h
        rcases List.mem_cons.mp h with h | h
        · exact absurd (by rw [← h]) e
        · exact h
structure Cn (P : List (Int × Int)) (ws : List Int) : Prop where
  nd : (P.map (·.1)).Nodup
  mem : ∀ k c, (k, c) ∈ P ↔ k ∈ ws ∧ c = ws.count k
  len : P.length ≤ ws.length
theorem Cn.get {P : List (Int × Int)} {ws : List Int} (h : Cn P ws) (k : Int) : (dGet k P).getD 0 = (ws.count k : Nat) := by
  by_cases c : k ∈ ws
  · rw [(dGet_mem h.nd).mpr ((h.mem k _).mpr ⟨c, rfl⟩)]; rfl
  · cases e : dGet k P with
    | some v => exact absurd ((h.mem k v).mp ((dGet_mem h.nd).mp e)).1 c
    | none =>
      rw [List.count_eq_zero_of_not_mem c]
      rfl
theorem count_snoc {ws : List Int} {k j : Int} : (ws ++ [k]).count j = ws.count j + if k = j then 1 else 0 := by
  rw [List.count_append, List.count_singleton]
  by_cases c : k = j
  · simp [c]
  · simp [c]
theorem Cn.step {P : List (Int × Int)} {ws : List Int} (h : Cn P ws) (k : Int) : Cn (dPut k ((ws.count k : Nat) + 1) P) (ws ++ [k]) := by
  have hany : (P.any fun p => decide (p.1 = k)) = true ↔ k ∈ ws := by
    rw [List.any_eq_true]
    constructor
    · rintro ⟨p, hp, e⟩
      have := ((h.mem p.1 p.2).mp hp).1
      rwa [of_decide_eq_true e] at this
    · intro hk
      exact ⟨(k, _), (h.mem k _).mpr ⟨hk, rfl⟩, by simp⟩
  unfold dPut
  split
  · rename_i c
    have hk := hany.mp c
    refine ⟨?_, fun j c => ?_, by simp; have := h.len; omega⟩
    · rw [List.map_map]
      have : (fun p : Int × Int => (if p.1 = k then (p.1, ((ws.count k : Nat) : Int) + 1) else p).1) = fun p => p.1 := by
        funext p
        split <;> rfl
      rw [show (Prod.fst ∘ fun p : Int × Int => if p.1 = k then (p.1, ((ws.count k : Nat) : Int) + 1) else p) = fun p => p.1 from this]
      exact h.nd
    · rw [count_snoc, List.mem_map]
      constructor
      · rintro ⟨p, hp, e⟩
        obtain ⟨p1, p2⟩ := (h.mem p.1 p.2).mp hp
        by_cases e1 : p.1 = k
        · rw [if_pos e1] at e
          cases e
          exact ⟨List.mem_append_left _ p1, by rw [e1]; simp⟩
        · rw [if_neg e1] at e
          subst e
          exact ⟨List.mem_append_left _ p1, by
            have p2 : c = (ws.count j : Nat) := p2
            rw [p2, if_neg (fun z => e1 z.symm)]; simp⟩
      · rintro ⟨h1, h2⟩
        have hj : j ∈ ws := by
          rcases List.mem_append.mp h1 with h1 | h1
          · exact h1
          · rw [List.mem_singleton] at h1
            rw [h1]; exact hk
        refine ⟨(j, ws.count j), (h.mem j _).mpr ⟨hj, rfl⟩, ?_⟩
        by_cases e1 : j = k
        · subst e1
          rw [if_pos rfl, h2]
          simp
        · rw [if_neg e1, h2, if_neg (fun z => e1 z.symm)]
          simp
  · rename_i c
    have hk : k ∉ ws := fun z => c (hany.mpr z)
    have hk2 : ∀ c, (k, c) ∉ P := fun c z => hk ((h.mem k c).mp z).1
    refine ⟨?_, fun j c => ?_, by simp; have := h.len; omega⟩
    · rw [List.map_append, List.nodup_append]
      refine ⟨h.nd, by simp, fun a ha b hb => ?_⟩
      obtain ⟨p, hp, rfl⟩ := List.mem_map.mp ha
      simp at hb
      subst hb
      exact fun z => hk2 p.2 (by rw [← z]; exact hp)
    · rw [count_snoc, List.mem_append, List.mem_singleton, List.mem_append, List.mem_singleton, h.mem]
      by_cases e1 : j = k
      · subst e1
        simp [hk]
      · have e2 : ¬ k = j := fun z => e1 z.symm
        simp [e1, e2]
theorem Cn.nil : Cn [] [] := ⟨by simp, by simp, by simp⟩
theorem asc_nodup_uniq : ∀ {l m : List (Int × Int)}, l.Pairwise (fun x y => SrtO.lexB y x = false) → m.Pairwise (fun x y => SrtO.lexB y x = false) → l.Nodup → m.Nodup → (∀ x, x ∈ l ↔ x ∈ m) → l = m
  | [], [], _, _, _, _, _ => rfl
  | [], y :: m, _, _, _, _, h => absurd ((h y).mpr List.mem_cons_self) (by simp)
  | x :: l, [], _, _, _, _, h => absurd ((h x).mp List.mem_cons_self) (by simp)
  | x :: l, y :: m, hl, hm, nl, nm, h => by
    obtain ⟨l1, l2⟩ := List.pairwise_cons.mp hl
    obtain ⟨m1, m2⟩ := List.pairwise_cons.mp hm
    obtain ⟨n1, n2⟩ := List.nodup_cons.mp nl
    obtain ⟨n3, n4⟩ := List.nodup_cons.mp nm
    have e : x = y := by
      rcases List.mem_cons.mp ((h x).mp List.mem_cons_self) with e | hx
      · exact e
      · rcases List.mem_cons.mp ((h y).mpr List.mem_cons_self) with e | hy
        · exact e.symm
        · have a := l1 y hy
          have b := m1 x hx
          rw [pairLe_no, pairLe_iff] at a b
          exact Prod.ext (by omega) (by omega)
    subst e
    rw [asc_nodup_uniq l2 m2 n2 n4 fun z => ?_]
    constructor
    · intro hz
      rcases List.mem_cons.mp ((h z).mp (List.mem_cons_of_mem _ hz)) with e | hz'
      · subst e; exact absurd hz n1
      · exact hz'
    · intro hz
      rcases List.mem_cons.mp ((h z).mpr (List.mem_cons_of_mem _ hz)) with e | hz'
      · subst e; exact absurd hz n3
      · exact hz'
def cntP (ws : List Int) : List (Int × Int) := (setI ws).map fun k => (k, (ws.count k : Nat))
theorem Cn.sorted {P : List (Int × Int)} {ws : List Int} (h : Cn P ws) : sortP P = cntP ws := by
  have nP : P.Nodup := List.Pairwise.of_map (fun p : Int × Int => p.1) (fun _ _ hne e => hne (congrArg _ e)) h.nd
  refine asc_nodup_uniq (sortP_asc P) ?_ ((sortP_perm P).nodup_iff.mpr nP) ?_ fun x => ?_
  · unfold cntP
    rw [List.pairwise_map]
    refine (setI_asc ws).imp fun {a b} hab => ?_
    rw [pairLe_no, pairLe_iff]
    exact .inl hab
  · unfold cntP
    refine List.Pairwise.map _ (fun a b hab e => ?_) (lt_nodup (setI_asc ws))
    exact hab (congrArg Prod.fst e)
  · rw [(sortP_perm P).mem_iff]
    unfold cntP
    rw [List.mem_map, h.mem x.1 x.2]
    constructor
    · rintro ⟨h1, h2⟩
      exact ⟨x.1, (setI_mem _ _).mpr h1, Prod.ext rfl h2.symm⟩
    · rintro ⟨k, hk, rfl⟩
      exact ⟨(setI_mem _ _).mp hk, rfl⟩
theorem sum_counts : ∀ (ws U : List Int), U.Nodup → (∀ k ∈ ws, k ∈ U) → (U.map fun k => ws.count k).sum = ws.length
  | [], U, _, _ => by
    simp only [List.count_nil, List.map_const', List.sum_replicate_nat]
    simp
  | a :: ws, U, hn, h => by
    have ih := sum_counts ws U hn fun k hk => h k (List.mem_cons_of_mem _ hk)
    have ha := h a List.mem_cons_self
    have e : ∀ V : List Int, V.Nodup → (V.map fun k => (a :: ws).count k).sum = (V.map fun k => ws.count k).sum + if a ∈ V then 1 else 0 := by
      intro V
      induction V with
      | nil => intro _; simp
      | cons b V ihV =>
        intro hV
        obtain ⟨v1, v2⟩ := List.nodup_cons.mp hV
        rw [List.map_cons, List.map_cons, List.sum_cons, List.sum_cons, ihV v2, List.count_cons]
        by_cases c : a = b
        · subst c
          simp [v1]
          omega
        · simp [c]
          omega
    rw [e U hn, ih, if_pos ha, List.length_cons]
def wros (s : Nat) (os : List Bool) : List Int := (machs s).map fun q => ((wro q.1 q.2 os : Nat) : Int)
theorem counts (h1 : 1 ≤ s) (h2 : s ≤ 3) (hl : os.length ≤ 200) : ∃ S', run T (n + 4) 44 [.tup (os.map .bl), .int s] S = .ok (.tup ((cntP (wros s os)).map fun p => .tup [.int p.1, .int p.2])) S' ∧ Keeps [] S S' := by
  have key : (run T (n + 4) 44 [.tup (os.map .bl), .int s] S).want (fun a S' => a = .tup ((cntP (wros s os)).map fun p => .tup [.int p.1, .int p.2]) ∧ Keeps [] S S') fun _ _ => False := by
    refine run_i rfl rfl ?_
    obtain ⟨S1, f1, k1⟩ := look_out hB (n := n + 2) (S := S) hl
    have f2 := look_states hB (n := n + 1) (S := S1) h1 h2
    obtain ⟨S2, f3, k2⟩ := machines hB (n := n) (S := S1 ++ [.dK []]) h1 h2
    have lm := machs_len h2
    have d2 : at_ S2 S1.length = some (.dK []) := k2.get (by simp) (by simp)
    simp [K09.t44, f1, f2, f3]
    refine wp_seq (wp_for_fix (ds := (machs s).map mD) (fun i env S' => Keeps [] S S' ∧ ∃ e3 e4 P, env = [.val (.tup (os.map .bl)), .val (.int s), .val (.ref S1.length), e3, e4] ∧ at_ S' S1.length = some (.dK (P.map kI)) ∧ Cn P ((wros s os).take i)) (by rw [List.length_map]; omega) ⟨k1.trans ((Keeps.app Keeps.refl).trans k2), _, _, [], rfl, by simpa using d2, by simpa using Cn.nil⟩ (fun i d env S' hd hI => ?_) (fun env S' hI => ?_))
    · obtain ⟨hk, e3, e4, P, rfl, hP, hC⟩ := hI
      rw [List.getElem?_map] at hd
      obtain ⟨q, hq, rfl⟩ := Option.map_eq_some_iff.mp hd
      have hm := mem_machs.mp (List.mem_of_getElem? hq)
      have f4 := walked hB (n := n + 2) (S := S') (os := os) hm h1 hl
      have hw : (wros s os)[i]? = some ((wro q.1 q.2 os : Nat) : Int) := by unfold wros; rw [List.getElem?_map, hq]; rfl
      have ht : (wros s os).take (i + 1) = (wros s os).take i ++ [((wro q.1 q.2 os : Nat) : Int)] := by rw [List.take_add_one, hw]; rfl
      have hC2 := hC.step ((wro q.1 q.2 os : Nat) : Int)
      rw [← ht] at hC2
      have lP : P.length < 16777216 := by
        have := hC.len
        rw [List.length_take] at this
        have : (wros s os).length ≤ 5832 := by unfold wros; rw [List.length_map]; exact lm
        omega
      have hg : (dGet (Sum.inl ((wro q.1 q.2 os : Nat) : Int) : L2.Key) (P.map kI)).getD (.int 0) = .int ((((wros s os).take i).count ((wro q.1 q.2 os : Nat) : Int) : Nat) : Int) := by
        rw [dGet_kI, ← hC.get]
        cases dGet ((wro q.1 q.2 os : Nat) : Int) P <;> rfl
      have lk : S.length ≤ S1.length := k1.le
      simp [f4, hP, hg, lP]
      refine ⟨hk.set_ lk, ?_⟩
      rw [dPut_kI]
      exact ⟨_, rfl, hC2⟩
    · obtain ⟨hk, e3, e4, P, rfl, hP, hC⟩ := hI
      rw [List.length_map, List.take_of_length_le (by unfold wros; rw [List.length_map]; exact Nat.le_refl _)] at hC
      have lP : P.length ≤ 16777216 := by
        have := hC.len
        have : (wros s os).length ≤ 5832 := by unfold wros; rw [List.length_map]; exact lm
        omega
      simp [hP, itemsI_kI, lP, hC.sorted]
      exact hk.app
  obtain ⟨a, S', e, rfl, h⟩ := want_some key
  exact ⟨S', e, h⟩
end
end VI.K09

set_option Elab.async false
set_option linter.all false
set_option maxRecDepth 100000
set_option maxHeartbeats 2000000
/-! M9b: refusals, numbers of wrong guesses. -/
namespace VI.K09
open PySem L2 VI VI.Sh VI.Mc VI.Bst
section
variable {n : Nat} {S : Store} {os g : List Bool} {w : Way} {s : Nat}
def badL (a b : Nat) : List D := [.non, .tup [], .tup [.tup [.bl true]], .ref a, .tup [.tup [.int 1], .tup [.tup [.int 0, .int 0]]], .tup [.tup [.bl true], .tup [.tup [.int 0, .int 1]]], .tup [.tup [.bl true], .tup [.tup [.int 0]]], .tup [.tup [.bl true], .tup []], .tup [.tup [], .tup []],
  .tup [.tup [.bl true, .bl true, .bl true, .bl true], .tup [.tup [.int 0, .int 0], .tup [.int 0, .int 0], .tup [.int 0, .int 0], .tup [.int 0, .int 0]]], .tup [.tup [.bl true], .tup [.ref b]], .tup [.tup [.bl true], .tup [.tup [.bl true, .int 0]]]]
theorem badL_no {a b : Nat} {xs ys : List D} (ha : at_ S a = some (.lst xs)) (hb : at_ S b = some (.lst ys)) {d : D} (h : d ∈ badL a b) : NoM d S := by
  simp [badL] at h
  rcases h with rfl | rfl | rfl | rfl | rfl | rfl | rfl | rfl | rfl | rfl | rfl | rfl
  · exact .inl (by simp [badP])
  · exact .inl (by simp [badP])
  · exact .inl (by simp [badP])
  · exact .inr (.inl ⟨_, _, rfl, ha⟩)
  · exact .inl (by simp [badP, zz])
  · exact .inl (by simp [badP, zz])
  · exact .inl (by simp [badP, zz])
  · exact .inl (by simp [badP, zz])
  · exact .inl (by simp [badP, zz])
  · exact .inl (by simp [badP, zz])
  · exact .inr (.inr ⟨_, _, rfl, hb⟩)
  · exact .inl (by simp [badP, zz])
def badO (a : Nat) : List D := [.non, .ref a, .tup [.int 1], .tup [.non], .str "TF", .tup [.bl true, .int 0]]
theorem badO_no {a : Nat} {xs : List D} (ha : at_ S a = some (.lst xs)) {d : D} (h : d ∈ badO a) : NoO d S := by
  simp [badO] at h
  rcases h with rfl | rfl | rfl | rfl | rfl | rfl
  · exact .inl (by simp)
  · exact .inr ⟨_, _, rfl, ha⟩
  · exact .inl (by simp)
  · exact .inl (by simp)
  · exact .inl (by simp)
  · exact .inl (by simp)
theorem mul201 {x : D} : binOp .mul (.tup [x]) (.int 201) S = .ok (.tup (List.replicate 201 x)) S := rfl
theorem refusals : ∃ S', run T (n + 6) 49 [] S = .ok (.bl true) S' := by
  have key : (run T (n + 6) 49 [] S).want (fun a S' => a = .bl true) fun _ _ => False := by
    refine run_i rfl rfl ?_
    have m1 : ∀ (x : D) (S : Store), binOp .mul (.tup [x]) (.int 4) S = .ok (.tup [x, x, x, x]) S := fun x S => rfl
    have c1 : ∀ x y : D, cutD [x, y] none (some 1) = [x] := fun x y => rfl
    simp [t49, m1, c1]
    refine wp_seq (wp_for_live (ds := badL S.length (S.length + 2)) (fun i env S' => at_ S' (S.length + 4) = some (.lst (badL S.length (S.length + 2))) ∧ at_ S' S.length = some (.lst [.tup [.bl true], .tup [.tup [.int 0, .int 0]]]) ∧ at_ S' (S.length + 2) = some (.lst [.int 0, .int 0]) ∧ ∃ e2, e2.ok = true ∧ env = [.val okM, .val (.ref (S.length + 4)), e2, .no, .no]) (by simp [badL]) (fun i env S' h => h.1) ⟨by simp [badL], by simp, by simp, _, rfl, rfl⟩ (fun i d env S' hd hI => ?_) (fun env S' hI => ?_))
    · obtain ⟨h4, h0, h2, e2, o2, rfl⟩ := hI
      have hN := badL_no h0 h2 (List.mem_of_getElem? hd)
      obtain ⟨S1, f1, k1⟩ := hN.run (n := n + 3)
      obtain ⟨S2, f2, k2⟩ := wrong_bad (n := n + 2) (x := .tup [.bl true]) (hN.keep k1)
      simp [f1, f2, o2, noExc_cons]
      have k := k1.trans k2
      exact ⟨k.get h4 (by simp), k.get h0 (by simp), k.get h2 (by simp)⟩
    · obtain ⟨h4, h0, h2, e2, o2, rfl⟩ := hI
      simp
      refine wp_seq (wp_for_live (ds := badO S'.length) (fun i env S2 => at_ S2 (S'.length + 1) = some (.lst (badO S'.length)) ∧ at_ S2 S'.length = some (.lst [.bl true]) ∧ ∃ e2 e4, (e2.ok = true ∧ e4.ok = true) ∧ env = [.val okM, .val (.ref (S.length + 4)), e2, .no, e4]) (by simp [badO]) (fun i env S2 h => h.1) ⟨by simp [badO], by simp, _, _, ⟨o2, rfl⟩, rfl⟩ (fun i d env S2 hd hI => ?_) (fun env S2 hI => ?_))
      · obtain ⟨h1, h3, e2, e4, ⟨o2, o4⟩, rfl⟩ := hI
        have hN := badO_no h3 (List.mem_of_getElem? hd)
        obtain ⟨T1, f1, k1⟩ := hN.wrong (n := n + 1)
        obtain ⟨T2, f2, k2⟩ := (hN.keep k1).fewest (n := n + 2)
        have N2 := (hN.keep k1).keep k2
        have ka : Keeps [] T2 (T2 ++ [.lst [.fn 43, .fn 44]]) := Keeps.app Keeps.refl
        obtain ⟨T3, f3, k3⟩ := (N2.keep ka).least (n := n + 3) (x := .int 1)
        have N3 := (N2.keep ka).keep k3
        have kb : Keeps [] T3 (T3 ++ [.lst [.fn 43, .fn 44]]) := Keeps.app Keeps.refl
        obtain ⟨T4, f4, k4⟩ := (N3.keep kb).counts (n := n + 3) (x := .int 1)
        simp [forS_fix, rngD, forFix_cons, forFix_nil, forEnd_nx, f1, f2, f3, f4, o2, o4, noExc_cons]
        have k := k1.trans (k2.trans ((ka.trans k3).trans (kb.trans k4)))
        exact ⟨k.get h1 (by simp), k.get h3 (by simp)⟩
      · obtain ⟨h1, h3, e2, e4, ⟨o2, o4⟩, rfl⟩ := hI
        simp
        refine wp_seq (wp_for_live (ds := badS) (fun i env S' => at_ S' S2.length = some (.lst badS) ∧ ∃ e2 e4, (e2.ok = true ∧ e4.ok = true) ∧ env = [.val okM, .val (.ref (S.length + 4)), e2, .no, e4]) (by simp [badS]) (fun i env S' h => h.1) ⟨by simp [badS], _, _, ⟨o2, o4⟩, rfl⟩ (fun i d env S4 hd hI => ?_) (fun env S4 hI => ?_))
        · obtain ⟨h1, e2, e4, ⟨o2, o4⟩, rfl⟩ := hI
          have hd := List.mem_of_getElem? hd
          have f1 := machines_bad (n := n + 2) (S := S4) hd
          have ka : Keeps [] S4 (S4 ++ [.lst [.fn 43, .fn 44]]) := Keeps.app Keeps.refl
          obtain ⟨T3, f3, k3⟩ := least_bad (n := n + 2) (S := S4 ++ [.lst [.fn 43, .fn 44]]) hd
          have kb : Keeps [] T3 (T3 ++ [.lst [.fn 43, .fn 44]]) := Keeps.app Keeps.refl
          obtain ⟨T4, f4, k4⟩ := counts_bad (n := n + 2) (S := T3 ++ [.lst [.fn 43, .fn 44]]) hd
          simp [forS_fix, rngD, forFix_cons, forFix_nil, forEnd_nx, f1, f3, f4, o2, o4, noExc_cons]
          exact ((ka.trans k3).trans (kb.trans k4)).get h1 (by simp)
        · obtain ⟨h1, e2, e4, ⟨o2, o4⟩, rfl⟩ := hI
          obtain ⟨T3, f3, k3⟩ := least_many (n := n + 3) (S := S4) (x := .int 1)
          have f4 := fewest_neg (n := n + 3) (S := T3)
          obtain ⟨T5, f5, k5⟩ := is_mach hB (n := n + 3) (S := T3) (g := [true]) (w := [(0, 0)]) (s := 1) ⟨rfl, rfl, by simp⟩ (by omega) (by omega)
          obtain ⟨T6, f6, k6⟩ := wrong_of hB (n := n + 2) (S := T5) (os := []) (g := [true]) (w := [(0, 0)]) (s := 1) ⟨rfl, rfl, by simp⟩ (by omega) (by omega) (by simp)
          simp only [mD, wD, pD, List.map] at f5 f6
          simp at f5 f6
          have m2 := fun S => mul201 (x := .bl true) (S := S)
          generalize List.replicate 201 (D.bl true) = r at *
          simp [forS_fix, rngD, forFix_cons, forFix_nil, forEnd_nx, m2, f3, f4, f5, f6, okM, zz, o2, o4, noExc_cons, wro]
  obtain ⟨a, S', e, rfl⟩ := want_some key
  exact ⟨S', e⟩
/-! ### data that is the same -/
def dep : Nat → D → Prop
  | 0, _ => False
  | n + 1, d => match d with
    | .tup ds => ds.length ≤ 16777216 ∧ ∀ x ∈ ds, dep n x
    | .int _ => True
    | .bl _ => True
    | .str _ => True
    | .non => True
    | _ => False
theorem Sm_self : ∀ {n : Nat} {d : D}, dep n d → Sm S n d d
  | 0, _, h => h.elim
  | n + 1, d, h => by
    cases d with
    | tup ds => exact ⟨ds, rfl, rfl, h.1, fun i a b ha hb => by
        rw [ha] at hb
        cases hb
        exact Sm_self (h.2 a (List.mem_of_getElem? ha))⟩
    | int i => rfl
    | bl i => rfl
    | str i => rfl
    | non => rfl
    | rol _ => exact h.elim
    | ref _ => exact h.elim
    | ty _ => exact h.elim
    | cls _ => exact h.elim
    | fn _ => exact h.elim
theorem dep_mD {q : List Bool × Way} (hm : mach s q.1 q.2) (h2 : s ≤ 3) : dep (n + 4) (mD q) := by
  refine ⟨by simp, fun x hx => ?_⟩
  simp at hx
  rcases hx with rfl | rfl
  · refine ⟨by simp [hm.1]; omega, fun y hy => ?_⟩
    obtain ⟨b, _, rfl⟩ := List.mem_map.mp hy
    trivial
  · refine ⟨by simp [hm.2.1]; omega, fun y hy => ?_⟩
    obtain ⟨p, _, rfl⟩ := List.mem_map.mp hy
    refine ⟨by simp, fun z hz => ?_⟩
    simp at hz
    rcases hz with rfl | rfl <;> trivial
theorem dep_machs (h2 : s ≤ 3) : dep (n + 5) (.tup ((machs s).map mD)) := by
  refine ⟨?_, fun x hx => ?_⟩
  · have := machs_len h2
    rw [List.length_map]; omega
  · obtain ⟨q, hq, rfl⟩ := List.mem_map.mp hx
    exact dep_mD (mem_machs.mp hq) h2
def ppD (p : Int × Int) : D := .tup [.int p.1, .int p.2]
theorem dep_pairs {ps : List (Int × Int)} (h : ps.length ≤ 16777216) : dep (n + 3) (.tup (ps.map ppD)) := by
  refine ⟨by rw [List.length_map]; exact h, fun x hx => ?_⟩
  obtain ⟨p, _, rfl⟩ := List.mem_map.mp hx
  refine ⟨by simp, fun z hz => ?_⟩
  simp at hz
  rcases hz with rfl | rfl <;> trivial
theorem Sm_lst {k l : Nat} {xs : List D} (hk : at_ S k = some (.lst xs)) (hl : at_ S l = some (.lst xs)) (h : xs.length ≤ 16777216) (hx : ∀ x ∈ xs, dep n x) : Sm S (n + 1) (.ref k) (.ref l) :=
  ⟨xs, k, xs, hl, rfl, hk, rfl, h, fun i a b ha hb => by
    rw [ha] at hb
    cases hb
    exact Sm_self (hx a (List.mem_of_getElem? ha))⟩
/-! ### fewest states -/
def fw (a b c : Nat) (m : Int) : D := if (a : Int) ≤ m then .int 1 else if (b : Int) ≤ m then .int 2 else if (c : Int) ≤ m then .int 3 else .non
theorem least_L (h1 : 1 ≤ s) (h2 : s ≤ 3) (hl : os.length ≤ 200) : ∃ (m : Nat) (q : List Bool × Way) (S' : Store), run T (n + 4) 43 [.tup (os.map .bl), .int s] S = .ok (.tup [.int m, mD q]) S' ∧ Least s os m ∧ Keeps [] S S' := by
  obtain ⟨m, q, S', e, h3, h4, h5, h6⟩ := least_wrong hB (n := n) (S := S) h1 h2 hl
  exact ⟨m, q, S', e, h5, h6⟩
theorem fewest (hl : os.length ≤ 200) {most : Int} (h0 : 0 ≤ most) {a b c : Nat} (ha : Least 1 os a) (hb : Least 2 os b) (hc : Least 3 os c) : ∃ S', run T (n + 5) 45 [.tup (os.map .bl), .int most] S = .ok (fw a b c most) S' ∧ Keeps [] S S' := by
  have key : (run T (n + 5) 45 [.tup (os.map .bl), .int most] S).want (fun x S' => x = fw a b c most ∧ Keeps [] S S') fun _ _ => False := by
    refine run_i rfl rfl ?_
    have f : ∀ (S : Store) (i : Int), run T (n + 4) 3 [.int i] S = .ok (.bl true) S := fun S i => whole hB.d3 rfl
    obtain ⟨m1, q1, S1, e1, L1, k1⟩ := least_L (n := n) (S := S) (os := os) (s := 1) (by omega) (by omega) hl
    cases L1.uniq ha
    obtain ⟨m2, q2, S2, e2, L2, k2⟩ := least_L (n := n) (S := S1) (os := os) (s := 2) (by omega) (by omega) hl
    cases L2.uniq hb
    obtain ⟨m3, q3, S3, e3, L3, k3⟩ := least_L (n := n) (S := S2) (os := os) (s := 3) (by omega) (by omega) hl
    cases L3.uniq hc
    have e1 : run T (n + 4) 43 [.tup (os.map .bl), .int 1] S = _ := e1
    have e2 : run T (n + 4) 43 [.tup (os.map .bl), .int 2] S1 = _ := e2
    have e3 : run T (n + 4) 43 [.tup (os.map .bl), .int 3] S2 = _ := e3
    have h0' : ¬ most < 0 := by omega
    unfold fw
    by_cases c1 : (a : Int) ≤ most
    · simp [K09.t45, f, h0', forS_fix, rngD, forFix_cons, forFix_nil, forEnd_nx, forEnd_rt, e1, c1, k1]
    · by_cases c2 : (b : Int) ≤ most
      · simp [K09.t45, f, h0', forS_fix, rngD, forFix_cons, forFix_nil, forEnd_nx, forEnd_rt, e1, c1, e2, c2, k1.trans k2]
      · by_cases c3 : (c : Int) ≤ most
        · simp [K09.t45, f, h0', forS_fix, rngD, forFix_cons, forFix_nil, forEnd_nx, forEnd_rt, e1, c1, e2, c2, e3, c3, (k1.trans k2).trans k3]
        · simp [K09.t45, f, h0', forS_fix, rngD, forFix_cons, forFix_nil, forEnd_nx, forEnd_rt, e1, c1, e2, c2, e3, c3, (k1.trans k2).trans k3]
  obtain ⟨a, S', e, rfl, h⟩ := want_some key
  exact ⟨S', e, h⟩
/-! ### rows of wrong guesses -/
theorem sum_cast {α : Type} {f : α → Nat} : ∀ {l : List α}, (l.map fun p => ((f p : Nat) : Int)).sum = (((l.map f).sum : Nat) : Int)
  | [] => rfl
  | a :: l => by
    rw [List.map_cons, List.sum_cons, sum_cast (l := l), List.map_cons, List.sum_cons]
    simp
theorem wros_nil (h1 : 1 ≤ s) : wros s os ≠ [] := fun e => by
  have hm : (List.replicate s false, List.replicate s (0, 0)) ∈ machs s := mem_machs.mpr ⟨by simp, by simp, fun p hp => by
    have := List.eq_of_mem_replicate hp
    subst this
    exact ⟨h1, h1⟩⟩
  unfold wros at e
  rw [List.map_eq_nil_iff.mp e] at hm
  cases hm
theorem setI_wros (h : os.length ≤ 40) : (setI (wros s os)).length < 64 := by
  have := len_le_of_sub (l := setI (wros s os)) (u := (List.range 41).map fun i => ((i : Nat) : Int)) (lt_nodup (setI_asc _)) fun x hx => by
    have := (setI_mem _ _).mp hx
    unfold wros at this
    obtain ⟨q, _, rfl⟩ := List.mem_map.mp this
    have := wro_le (g := q.1) (w := q.2) (os := os)
    exact List.mem_map.mpr ⟨_, List.mem_range.mpr (by omega), rfl⟩
  simp at this
  omega
theorem min_Least (h1 : 1 ≤ s) {m : Nat} (hL : Least s os m) : minI (wros s os) = m := by
  obtain ⟨k1, k2⟩ := minI_spec (wros_nil (os := os) h1)
  obtain ⟨⟨g, w, hm, rfl⟩, hle⟩ := hL
  have a1 := k2 ((wro g w os : Nat) : Int) (List.mem_map.mpr ⟨(g, w), mem_machs.mpr hm, rfl⟩)
  obtain ⟨q, hq, e⟩ := List.mem_map.mp k1
  have a2 := hle q.1 q.2 (mem_machs.mp hq)
  rw [← e] at a1 ⊢
  omega
theorem first_index {j m : Nat} {q : List Bool × Way} (hq : (machs s)[j]? = some q) (he : m = wro q.1 q.2 os) (hlt : ∀ (i : Nat) q', i < j → (machs s)[i]? = some q' → m < wro q'.1 q'.2 os) : ((wros s os).map D.int).findIdx? (eqvD · (.int (m : Nat))) = some j := by
  rw [List.findIdx?_eq_some_iff_getElem]
  have hj := (List.getElem?_eq_some_iff.mp hq).1
  have hl : ((wros s os).map D.int).length = (machs s).length := by unfold wros; simp
  refine ⟨by omega, ?_, fun i hi => ?_⟩
  · have := (List.getElem?_eq_some_iff.mp hq).2
    simp [wros, this, he]
  · have hi' : i < (machs s).length := by omega
    have := hlt i _ hi (List.getElem?_eq_getElem hi')
    simp [wros]
    omega
theorem Least_of {m : Nat} (h : ∀ q' ∈ machs s, m ≤ wro q'.1 q'.2 os) {q : List Bool × Way} (hq : q ∈ machs s) (e : m = wro q.1 q.2 os) : Least s os m := ⟨⟨q.1, q.2, mem_machs.mp hq, e⟩, fun g w hm => h (g, w) (mem_machs.mpr hm)⟩
theorem machs3 : (machs 3).length = 5832 := by
  unfold machs
  rw [List.length_flatten, List.map_map, show (List.length ∘ fun g : List Bool => (wayRows 3).map fun w => (g, w)) = fun _ => (wayRows 3).length by funext g; simp, List.map_const', List.sum_replicate_nat, rows_len, wayRows, rows_len, pairs_len]
  rfl
theorem sum_cnt : ((cntP (wros 3 os)).map (·.2)).sum = 5832 := by
  have h := sum_counts (wros 3 os) (setI (wros 3 os)) (lt_nodup (setI_asc _)) fun k hk => (setI_mem _ _).mpr hk
  have e : (wros 3 os).length = 5832 := by unfold wros; rw [List.length_map, machs3]
  rw [e] at h
  unfold cntP
  rw [List.map_map]
  have : ((fun x : Int × Int => x.2) ∘ fun k : Int => (k, (((wros 3 os).count k : Nat) : Int))) = fun k => (((wros 3 os).count k : Nat) : Int) := rfl
  rw [this, sum_cast, h]
  rfl
end
end VI.K09

set_option Elab.async false
set_option linter.all false
set_option maxRecDepth 100000
set_option maxHeartbeats 2000000
/-! M_k09: the law's run. -/
namespace VI.K09
open PySem L2 VI VI.Sh VI.Mc VI.Bst
section
variable {n : Nat} {S : Store} {os g : List Bool} {w : Way} {s : Nat}
theorem want_noX {α : Type} {r : R α} {k : α → Store → Prop} {x : XC → Store → Prop} (h : r.want k fun _ _ => False) : r.noX.want k x := by
  cases r with
  | ok a S => exact h
  | exc e S => exact h.elim
  | err => exact h.elim
theorem cut_take {xs : List D} {k : Nat} : cutD xs none (some (k : Int)) = xs.take k := by
  unfold cutD
  have e1 : HT.sIx xs.length 0 none = 0 := rfl
  have e2 : HT.sIx xs.length xs.length (some (k : Int)) = min k xs.length := by
    simp [HT.sIx]
    omega
  rw [e1, e2]
  simp
theorem cut16 : cutD (os.map D.bl) none (some 16) = (os.take 16).map D.bl := by
  rw [show (16 : Int) = ((16 : Nat) : Int) from rfl, cut_take, List.map_take]
theorem Least_ex (h1 : 1 ≤ s) (h2 : s ≤ 3) (hl : os.length ≤ 200) : ∃ m, Least s os m := by
  obtain ⟨m, q, S', e, hL, k⟩ := least_L (n := 0) (S := []) h1 h2 hl
  exact ⟨m, hL⟩
def pE (a b c : Nat) (m : Int) : D → Bool
  | .int i => decide ((([a, b, c].getD i.toNat 0 : Nat) : Int) ≤ m)
  | _ => false
def sE : D → D
  | .int i => .int (i + 1)
  | d => d
theorem enough_fw {a b c : Nat} {m : Int} : ((((rngD 0 1 3).filter (pE a b c m)).map sE) = [] ∧ fw a b c m = .non) ∨ ∃ d r, ((rngD 0 1 3).filter (pE a b c m)).map sE = d :: r ∧ fw a b c m = d := by
  by_cases c1 : (a : Int) ≤ m <;> by_cases c2 : (b : Int) ≤ m <;> by_cases c3 : (c : Int) ≤ m <;> simp [rngD, pE, sE, fw, c1, c2, c3, List.filter]
theorem dep_fw {a b c : Nat} {m : Int} : dep (n + 1) (fw a b c m) := by
  unfold fw
  split
  · trivial
  · split
    · trivial
    · split <;> trivial
theorem law_runs (ns : List Int) (hn : ns.length ≤ 63) : ∃ S', run T 14 50 [.rol (ns.map .int)] [] = .ok (.bl true) S' := by
  have key : (run T 14 50 [.rol (ns.map .int)] []).want (fun a S' => a = .bl true) fun _ _ => False := by
    refine run_i rfl rfl ?_
    have e0 := draws (n := 12) (S := []) (ns := ns) T13
    simp [t50, e0]
    refine wp_seq (wp_for_fix (fun i env S => Draws 1 0 ns S ∧ ∃ e2 e3 e4 e5 e6 e7 e8, env = [.val (.rol (ns.map .int)), .val (.ref 1), e2, e3, e4, e5, e6, e7, e8, .no, .no, .no, .no, .no, .no, .no]) (by simp [rngD_len]) ⟨⟨0, 0, 1, by simp [at_], by simp [at_], by decide, by decide, by decide, by decide⟩, _, _, _, _, _, _, _, rfl⟩ (fun i d env S hd hI => ?_) (fun env S hI => ?_))
    · obtain ⟨hD, e2, e3, e4, e5, e6, e7, e8, rfl⟩ := hI
      obtain ⟨os, S1, f1, hl, D1⟩ := outcomes (n := 11) hD
      obtain ⟨v, S2, f2, v0, v1, D2, k2, L2⟩ := draw (n := 12) T14 (lim := 2) (by decide) (by decide) D1
      obtain ⟨s, hs, h1, h2⟩ : ∃ s : Nat, 1 + v = s ∧ 1 ≤ s ∧ s ≤ 2 := ⟨(1 + v).toNat, by omega, by omega, by omega⟩
      obtain ⟨ro, S3, f3, a3, k3⟩ := law_machines (n := 12) (S := S2) h1 (show s ≤ 3 by omega)
      have lm := machs_len (show s ≤ 3 by omega)
      simp [f1, f2, hs, f3, a3]
      repeat (first | refine wp_seq ?_ | refine wp_toS ?_ | refine want_bind_i ?_)
      refine lc_use (lc_mapA [] (xs := machs s) (f := mD) (fun q => .int (wro q.1 q.2 os : Nat)) rfl (by omega) (fun j S'' k => live_next (k.get a3 (by simp))) (fun i q hq acc S' k a => ?_)) (fun S4 ⟨a4, k4⟩ => ?_)
      · have fw := law_wrong (n := 12) (S := S') (os := os) (mem_machs.mp (List.mem_of_getElem? hq)) h1 (by omega)
        simp [fw, k, a]
      · have a4 : at_ S4 S3.length = some (.lst ((wros s os).map .int)) := by rw [a4]; unfold wros; rw [List.map_map]; rfl
        obtain ⟨S5, f5, k5⟩ := machines hB (n := 10) (S := S4) h1 (show s ≤ 3 by omega)
        have a35 := (k4.trans k5).get a3 (by simp)
        obtain ⟨S6, f6, k6⟩ := same T15 (Sm_self (n := 13) (S := S5) (dep_machs (n := 8) (show s ≤ 3 by omega)))
        have a36 := k6.get a35 (by simp)
        have a46 := (k5.trans k6).get a4 (by simp)
        have lw : (wros s os).length ≤ 4000 := by
          unfold wros
          rw [List.length_map]
          have : s = 1 ∨ s = 2 := by omega
          rcases this with rfl | rfl <;> decide
        have lu := setI_wros (s := s) hl
        simp [f5, a35, f6, a46, intsOf_map, lw, lu]
        repeat (first | refine wp_seq ?_ | refine wp_toS ?_ | refine want_bind_i ?_)
        have b6 : at_ (S6 ++ [Cell.lst ((setI (wros s os)).map .int)]) S6.length = some (.lst ((setI (wros s os)).map .int)) := by simp
        refine lc_use (lc_mapA [] (xs := setI (wros s os)) (f := .int) (fun k => ppD (k, ((wros s os).count k : Nat))) rfl (by omega) (fun j S'' k => live_next (k.get b6 (by simp))) (fun i x hx acc S' k a => ?_)) (fun S7 ⟨a7, k7⟩ => ?_)
        · have a4' := k.get ((at_app (at_is a46)).trans a46) (by simp)
          simp only [List.length_append, List.length_singleton] at a
          simp [a4', k, a, ppD, intsOf_map]
        · have a7 : at_ S7 (S6.length + 1) = some (.lst ((cntP (wros s os)).map ppD)) := by simpa [cntP, Function.comp_def] using a7
          have K67 : Keeps [] S6 S7 := (Keeps.app Keeps.refl).trans k7
          obtain ⟨m, j, q, S8, f8, hq, em, hle, hlt, k8⟩ := least_first (n := 9) (S := S7) (os := os) h1 (show s ≤ 3 by omega) (by omega)
          obtain ⟨S9, f9, k9⟩ := counts (n := 9) (S := S8) (os := os) h1 (show s ≤ 3 by omega) (by omega)
          have f9 : run T (9 + 4) 44 [.tup (os.map .bl), .int s] S8 = .ok (.tup ((cntP (wros s os)).map ppD)) S9 := f9
          have hL := Least_of hle (List.mem_of_getElem? hq) em
          have K69 := K67.trans (k8.trans k9)
          have a49 := K69.get a46 (by simp)
          have a39 := K69.get a36 (by simp)
          have fm : ∀ G, bltOp .min [.ref S3.length] (S9 ++ G) = .ok (.int (m : Nat)) (S9 ++ G) := fun G => by
            rw [min_at ((at_app (at_is a49)).trans a49) (wros_nil h1), min_Least h1 hL]
          have fi := first_index hq em hlt
          have ai : atI ((machs s).map mD) (j : Int) = some (mD q) := atI_nat (by rw [List.getElem?_map, hq]; rfl)
          have hmq := mem_machs.mp (List.mem_of_getElem? hq)
          have lc : (cntP (wros s os)).length ≤ 16777216 := by unfold cntP; rw [List.length_map]; omega
          obtain ⟨S10, f10, k10⟩ := same T15 (Sm_lst (n := 12) (S := S9 ++ [.lst [.tup [.int (m : Nat), mD q], .tup ((cntP (wros s os)).map ppD)], .lst [.tup [.int (m : Nat), mD q], .tup ((cntP (wros s os)).map ppD)]]) (k := S9.length) (l := S9.length + 1) (xs := [.tup [.int (m : Nat), mD q], .tup ((cntP (wros s os)).map ppD)]) (by simp) (by simp) (by simp) (fun x hx => by
            simp at hx
            rcases hx with rfl | rfl
            · refine ⟨by simp, fun y hy => ?_⟩
              simp at hy
              rcases hy with rfl | rfl
              · trivial
              · exact dep_mD hmq (by omega)
            · exact dep_pairs lc))
          have K10 : Keeps [] S9 S10 := (Keeps.app Keeps.refl).trans k10
          have a310 := K10.get a39 (by simp)
          have K210 : Keeps [] S2 S10 := k3.trans (k4.trans (k5.trans (k6.trans (K69.trans K10))))
          have D10 := D2.keep K210 (by simp) (by simp)
          have hne : ro ≠ 1 := fun e => by
            obtain ⟨_, _, _, e1, _⟩ := D10
            rw [e] at a310
            rw [a310] at e1
            cases hM : machs s with
            | nil => rw [hM] at e1; cases e1
            | cons y ys => rw [hM] at e1; cases e1
          have l1 : 0 < (machs s).length := by
            have := (List.getElem?_eq_some_iff.mp hq).1
            omega
          obtain ⟨j2, d2, S11, f11, hj2, D11, k11, L11⟩ := pick (n := 11) T14 T16 a310 hne (by rw [List.length_map]; exact l1) (by rw [List.length_map]; omega) D10
          rw [List.getElem?_map] at hj2
          obtain ⟨q2, hq2, rfl⟩ := Option.map_eq_some_iff.mp hj2
          have hm2 := mem_machs.mp (List.mem_of_getElem? hq2)
          obtain ⟨S12, f12, k12⟩ := wrong_of hB (n := 10) (S := S11) (os := os) hm2 h1 (show s ≤ 3 by omega) (by omega)
          have f13 := law_wrong (n := 12) (S := S12) (os := os) hm2 h1 (by omega)
          obtain ⟨S14, f14, k14⟩ := same T15 (Sm_self (n := 13) (S := S12) (d := .int (wro q2.1 q2.2 os : Nat)) trivial)
          simp [a7, f8, f9, a49, a39, fm, fi, ai, f10, f11, f12, f13, f14, -blt_min]
          exact D11.keep (k12.trans k14) (by simp) (by simp)
    · obtain ⟨hD, e2, e3, e4, e5, e6, e7, e8, rfl⟩ := hI
      obtain ⟨os0, S1, f1, hl0, D1⟩ := outcomes (n := 11) hD
      obtain ⟨os, hos, hl⟩ : ∃ os, os0.take 16 = os ∧ os.length ≤ 16 := ⟨_, rfl, by rw [List.length_take]; omega⟩
      obtain ⟨ro, S3, f3, a3, k3⟩ := law_machines (n := 12) (S := S1) (s := 3) (by omega) (by omega)
      have f3 : run T (12 + 1) 46 [.int 3] S1 = .ok (.ref ro) S3 := f3
      obtain ⟨a, ha⟩ := Least_ex (s := 1) (os := os) (by omega) (by omega) (by omega)
      obtain ⟨b, hb⟩ := Least_ex (s := 2) (os := os) (by omega) (by omega) (by omega)
      obtain ⟨c, hc⟩ := Least_ex (s := 3) (os := os) (by omega) (by omega) (by omega)
      have lm := machs_len (n := 3) (by omega)
      simp [f1, cut16, hos, f3, a3]
      repeat (first | refine wp_seq ?_ | refine wp_toS ?_ | refine want_bind_i ?_)
      refine lc_use (lc_mapA [] (xs := machs 3) (f := mD) (fun q => .int (wro q.1 q.2 os : Nat)) rfl (by omega) (fun j S'' k => live_next (k.get a3 (by simp))) (fun i q hq acc S' k a => ?_)) (fun S4 ⟨a4, k4⟩ => ?_)
      · have fw := law_wrong (n := 12) (S := S') (os := os) (mem_machs.mp (List.mem_of_getElem? hq)) (by omega) (by omega)
        simp [fw, k, a]
      · have a4 : at_ S4 S3.length = some (.lst ((wros 3 os).map .int)) := by rw [a4]; unfold wros; rw [List.map_map]; rfl
        simp
        repeat (first | refine wp_seq ?_ | refine wp_toS ?_ | refine want_bind_i ?_)
        refine lc_use (lc_mapA [] (xs := [1, 2]) (f := fun s : Nat => .int (s : Nat)) (fun s => .int (minI (wros s os))) rfl (by simp) (fun _ _ _ => rfl) (fun i s hs acc S' k ac => ?_)) (fun S5 ⟨a5, k5⟩ => ?_)
        · have hs' : s = 1 ∨ s = 2 := by
            have := List.mem_of_getElem? hs
            simpa using this
          have h1 : 1 ≤ s := by omega
          have h2 : s ≤ 3 := by omega
          obtain ⟨r2, T3, g3, b3, j3⟩ := law_machines (n := 12) (S := S') h1 h2
          have lm2 := machs_len h2
          simp [g3, b3]
          refine want_bind_i (want_noX ?_)
          repeat (first | refine wp_seq ?_ | refine wp_toS ?_ | refine want_bind_i ?_)
          refine lc_use (lc_mapA [] (xs := machs s) (f := mD) (fun q => .int (wro q.1 q.2 os : Nat)) rfl (by omega) (fun j S'' k => live_next (k.get b3 (by simp))) (fun i q hq acc S' k a => ?_)) (fun T4 ⟨b4, j4⟩ => ?_)
          · have fw := law_wrong (n := 12) (S := S') (os := os) (mem_machs.mp (List.mem_of_getElem? hq)) h1 (by omega)
            simp [fw, k, a]
          · have b4 : at_ T4 T3.length = some (.lst ((wros s os).map .int)) := by rw [b4]; unfold wros; rw [List.map_map]; rfl
            have fm := min_at b4 (wros_nil h1)
            simp [fm, -blt_min]
            exact ⟨(k.trans j3).trans j4, (j3.trans j4).get ac (by simp)⟩
        · have a5 : at_ S5 S4.length = some (.lst [.int (a : Nat), .int (b : Nat)]) := by
            rw [a5]
            simp [min_Least (by omega) ha, min_Least (by omega) hb]
          have a45 := k5.get a4 (by simp)
          have a35 := (k4.trans k5).get a3 (by simp)
          have fm : ∀ G, bltOp .min [.ref S3.length] (S5 ++ G) = .ok (.int (c : Nat)) (S5 ++ G) := fun G => by
            rw [min_at ((at_app (at_is a45)).trans a45) (wros_nil (by omega)), min_Least (by omega) hc]
          have fm0 : bltOp .min [.ref S3.length] S5 = .ok (.int (c : Nat)) S5 := by simpa using fm []
          obtain ⟨m, j, q, S6, f7, hq, em, hle, hlt, k6⟩ := least_first (n := 9) (S := S5 ++ [.lst [.int (c : Nat)], .lst [.int (a : Nat), .int (b : Nat), .int (c : Nat)]]) (os := os) (s := 3) (by omega) (by omega) (by omega)
          have hL := Least_of hle (List.mem_of_getElem? hq) em
          cases hL.uniq hc
          have f7 : run T (9 + 4) 43 [.tup (os.map .bl), .int 3] (S5 ++ [.lst [.int (c : Nat)], .lst [.int (a : Nat), .int (b : Nat), .int (c : Nat)]]) = _ := f7
          have K5 : Keeps [] S5 S6 := (Keeps.app Keeps.refl).trans k6
          have aL6 : at_ S6 (S5.length + 1) = some (.lst [.int (a : Nat), .int (b : Nat), .int (c : Nat)]) := k6.get (by simp) (by simp)
          have a46 := K5.get a45 (by simp)
          have a36 := K5.get a35 (by simp)
          have fm6 : bltOp .min [.ref S3.length] S6 = .ok (.int (c : Nat)) S6 := by
            rw [min_at a46 (wros_nil (by omega)), min_Least (by omega) hc]
          have fi := first_index hq em hlt
          have ai : atI ((machs 3).map mD) (j : Int) = some (mD q) := atI_nat (by rw [List.getElem?_map, hq]; rfl)
          have hmq := mem_machs.mp (List.mem_of_getElem? hq)
          obtain ⟨S7, f8, k7⟩ := same T15 (Sm_self (n := 13) (S := S6) (d := .tup [.int (c : Nat), mD q]) ⟨by simp, fun y hy => by
            simp at hy
            rcases hy with rfl | rfl
            · trivial
            · exact dep_mD hmq (by omega)⟩)
          obtain ⟨S8, f9, k8⟩ := counts (n := 9) (S := S7) (os := os) (s := 3) (by omega) (by omega) (by omega)
          have f9 : run T (9 + 4) 44 [.tup (os.map .bl), .int 3] S7 = .ok (.tup ((cntP (wros 3 os)).map ppD)) S8 := f9
          have lc : (cntP (wros 3 os)).length < 64 := by unfold cntP; rw [List.length_map]; exact setI_wros (by omega)
          simp [a5, fm0, f7, fm6, a36, a46, fi, ai, f8, f9, -blt_min]
          repeat (first | refine wp_seq ?_ | refine wp_toS ?_ | refine want_bind_i ?_)
          refine lc_use (lc_mapA [] (xs := cntP (wros 3 os)) (f := ppD) (fun p => .int p.2) rfl (by omega) (fun _ _ _ => rfl) (fun i p hp acc S' k a => ?_)) (fun S9 ⟨a9, k9⟩ => ?_)
          · simp [ppD, k, a]
          · have a9 : at_ S9 S8.length = some (.lst (((cntP (wros 3 os)).map (·.2)).map .int)) := by rw [a9, List.map_map]; rfl
            have fs := sum_at a9
            rw [sum_cnt] at fs
            have K79 : Keeps [] S6 S9 := k7.trans (k8.trans k9)
            have K19 : Keeps [] S1 S9 := k3.trans (k4.trans (k5.trans (K5.trans K79)))
            have D9 := D1.keep K19 (by simp) (by simp)
            have aL9 := K79.get aL6 (by simp)
            have l5 : 1 < S5.length := lt_of_at (k5.get (k4.get (k3.get (D1.choose_spec.choose_spec.choose_spec.1) (by simp)) (by simp)) (by simp))
            obtain ⟨v, S10, f10, v0, v1, D10, k10, L10⟩ := draw (n := 12) T14 (lim := 5) (by decide) (by decide) D9
            have aL10 := k10.get aL9 (by rw [List.mem_singleton]; omega)
            simp [fs, f10, -blt_sum]
            repeat (first | refine wp_seq ?_ | refine wp_toS ?_ | refine want_bind_i ?_)
            refine lc_use (lc_det [] (pE a b c v) sE rfl (by simp [rngD_len]) (fun _ _ _ => rfl) (fun d hd acc S' k ac => ?_)) (fun S11 ⟨a11, k11⟩ => ?_)
            · have aL := k.get aL10 (by simp)
              simp [rngD] at hd
              rcases hd with rfl | rfl | rfl
              · by_cases c1 : (a : Int) ≤ v <;> simp [aL, pE, sE, c1, k, ac]
              · by_cases c1 : (b : Int) ≤ v <;> simp [aL, pE, sE, c1, k, ac]
              · by_cases c1 : (c : Int) ≤ v <;> simp [aL, pE, sE, c1, k, ac]
            · obtain ⟨S12, f12, k12⟩ := fewest (n := 8) (S := S11) (os := os) (by omega) v0 ha hb hc
              obtain ⟨S13, f13, k13⟩ := same T15 (Sm_self (n := 13) (S := S12) (dep_fw (n := 12) (a := a) (b := b) (c := c) (m := v)))
              obtain ⟨S14, f14⟩ := refusals (n := 7) (S := S13)
              have a12 := k12.get a11 (by simp)
              rcases enough_fw (a := a) (b := b) (c := c) (m := v) with ⟨e1, e2⟩ | ⟨d, r, e1, e2⟩
              · rw [e2] at f12 f13
                rw [e1] at a12
                simp [f12, a12, f13, f14]
              · rw [e2] at f12 f13
                rw [e1] at a12
                simp [f12, a12, f13, f14]
  obtain ⟨a, S', e, rfl⟩ := want_some key
  exact ⟨S', e⟩
end
end VI.K09

set_option Elab.async false
set_option linter.all false
set_option maxRecDepth 100000
set_option maxHeartbeats 0
/-! printed by gen2.py from the text of k09: the walk of each def, the head. -/
namespace VI.K09
open PySem PySem.Spec PyProof.Rows L2 RZ He VI
def top (i : Nat) : Stmt := PySem.Challenge.pw_aheadright_k09_whole_least_wrong_machine.main.body.getD i (.Pass ⟨0, 0, 0, 0⟩)
theorem bt_ValueError : bootBuiltins ("ValueError" : Str) = some (.type "ValueError") := by decide +kernel
theorem bt_all : bootBuiltins ("all" : Str) = some (.builtin "all") := by decide +kernel
theorem bt_bool : bootBuiltins ("bool" : Str) = some (.type "bool") := by decide +kernel
theorem bt_int : bootBuiltins ("int" : Str) = some (.type "int") := by decide +kernel
theorem bt_isinstance : bootBuiltins ("isinstance" : Str) = some (.builtin "isinstance") := by decide +kernel
theorem bt_len : bootBuiltins ("len" : Str) = some (.builtin "len") := by decide +kernel
theorem bt_list : bootBuiltins ("list" : Str) = some (.type "list") := by decide +kernel
theorem bt_min : bootBuiltins ("min" : Str) = some (.builtin "min") := by decide +kernel
theorem bt_sorted : bootBuiltins ("sorted" : Str) = some (.builtin "sorted") := by decide +kernel
theorem bt_str : bootBuiltins ("str" : Str) = some (.type "str") := by decide +kernel
theorem bt_sum : bootBuiltins ("sum" : Str) = some (.builtin "sum") := by decide +kernel
theorem bt_tuple : bootBuiltins ("tuple" : Str) = some (.type "tuple") := by decide +kernel
theorem nc_actual : (("actual" : Str) == ("__classdict__" : Str)) = false := by decide +kernel
theorem nc_bad : (("bad" : Str) == ("__classdict__" : Str)) = false := by decide +kernel
theorem nc_best : (("best" : Str) == ("__classdict__" : Str)) = false := by decide +kernel
theorem nc_cell : (("cell" : Str) == ("__classdict__" : Str)) = false := by decide +kernel
theorem nc_draws : (("draws" : Str) == ("__classdict__" : Str)) = false := by decide +kernel
theorem nc_due : (("due" : Str) == ("__classdict__" : Str)) = false := by decide +kernel
theorem nc_e : (("e" : Str) == ("__classdict__" : Str)) = false := by decide +kernel
theorem nc_enough : (("enough" : Str) == ("__classdict__" : Str)) = false := by decide +kernel
theorem nc_expected : (("expected" : Str) == ("__classdict__" : Str)) = false := by decide +kernel
theorem nc_far : (("far" : Str) == ("__classdict__" : Str)) = false := by decide +kernel
theorem nc_found : (("found" : Str) == ("__classdict__" : Str)) = false := by decide +kernel
theorem nc_guesses : (("guesses" : Str) == ("__classdict__" : Str)) = false := by decide +kernel
theorem nc_k : (("k" : Str) == ("__classdict__" : Str)) = false := by decide +kernel
theorem nc_least : (("least" : Str) == ("__classdict__" : Str)) = false := by decide +kernel
theorem nc_limit : (("limit" : Str) == ("__classdict__" : Str)) = false := by decide +kernel
theorem nc_machine : (("machine" : Str) == ("__classdict__" : Str)) = false := by decide +kernel
theorem nc_many : (("many" : Str) == ("__classdict__" : Str)) = false := by decide +kernel
theorem nc_more : (("more" : Str) == ("__classdict__" : Str)) = false := by decide +kernel
theorem nc_most : (("most" : Str) == ("__classdict__" : Str)) = false := by decide +kernel
theorem nc_ok : (("ok" : Str) == ("__classdict__" : Str)) = false := by decide +kernel
theorem nc_one : (("one" : Str) == ("__classdict__" : Str)) = false := by decide +kernel
theorem nc_outcomes : (("outcomes" : Str) == ("__classdict__" : Str)) = false := by decide +kernel
theorem nc_own : (("own" : Str) == ("__classdict__" : Str)) = false := by decide +kernel
theorem nc_pair : (("pair" : Str) == ("__classdict__" : Str)) = false := by decide +kernel
theorem nc_pairs : (("pairs" : Str) == ("__classdict__" : Str)) = false := by decide +kernel
theorem nc_part : (("part" : Str) == ("__classdict__" : Str)) = false := by decide +kernel
theorem nc_row : (("row" : Str) == ("__classdict__" : Str)) = false := by decide +kernel
theorem nc_rows : (("rows" : Str) == ("__classdict__" : Str)) = false := by decide +kernel
theorem nc_script : (("script" : Str) == ("__classdict__" : Str)) = false := by decide +kernel
theorem nc_self : (("self" : Str) == ("__classdict__" : Str)) = false := by decide +kernel
theorem nc_state : (("state" : Str) == ("__classdict__" : Str)) = false := by decide +kernel
theorem nc_states : (("states" : Str) == ("__classdict__" : Str)) = false := by decide +kernel
theorem nc_taken : (("taken" : Str) == ("__classdict__" : Str)) = false := by decide +kernel
theorem nc_things : (("things" : Str) == ("__classdict__" : Str)) = false := by decide +kernel
theorem nc_told : (("told" : Str) == ("__classdict__" : Str)) = false := by decide +kernel
theorem nc_two : (("two" : Str) == ("__classdict__" : Str)) = false := by decide +kernel
theorem nc_value : (("value" : Str) == ("__classdict__" : Str)) = false := by decide +kernel
theorem nc_way : (("way" : Str) == ("__classdict__" : Str)) = false := by decide +kernel
theorem nc_ways : (("ways" : Str) == ("__classdict__" : Str)) = false := by decide +kernel
theorem nc_which : (("which" : Str) == ("__classdict__" : Str)) = false := by decide +kernel
theorem nc_word : (("word" : Str) == ("__classdict__" : Str)) = false := by decide +kernel
theorem nc_wrong : (("wrong" : Str) == ("__classdict__" : Str)) = false := by decide +kernel
theorem nd_AheadError : (("AheadError" : Str) == ("__debug__" : Str)) = false := by decide +kernel
theorem nd_BadPlan : (("BadPlan" : Str) == ("__debug__" : Str)) = false := by decide +kernel
theorem nd_MOST_OUTCOMES : (("MOST_OUTCOMES" : Str) == ("__debug__" : Str)) = false := by decide +kernel
theorem nd_MOST_STATES : (("MOST_STATES" : Str) == ("__debug__" : Str)) = false := by decide +kernel
theorem nd_Refused : (("Refused" : Str) == ("__debug__" : Str)) = false := by decide +kernel
theorem nd_ValueError : (("ValueError" : Str) == ("__debug__" : Str)) = false := by decide +kernel
theorem nd__law_draw : (("_law_draw" : Str) == ("__debug__" : Str)) = false := by decide +kernel
theorem nd__law_draws : (("_law_draws" : Str) == ("__debug__" : Str)) = false := by decide +kernel
theorem nd__law_machines : (("_law_machines" : Str) == ("__debug__" : Str)) = false := by decide +kernel
theorem nd__law_outcomes : (("_law_outcomes" : Str) == ("__debug__" : Str)) = false := by decide +kernel
theorem nd__law_pick : (("_law_pick" : Str) == ("__debug__" : Str)) = false := by decide +kernel
theorem nd__law_refusals : (("_law_refusals" : Str) == ("__debug__" : Str)) = false := by decide +kernel
theorem nd__law_same : (("_law_same" : Str) == ("__debug__" : Str)) = false := by decide +kernel
theorem nd__law_wrong : (("_law_wrong" : Str) == ("__debug__" : Str)) = false := by decide +kernel
theorem nd_actual : (("actual" : Str) == ("__debug__" : Str)) = false := by decide +kernel
theorem nd_all : (("all" : Str) == ("__debug__" : Str)) = false := by decide +kernel
theorem nd_bad : (("bad" : Str) == ("__debug__" : Str)) = false := by decide +kernel
theorem nd_best : (("best" : Str) == ("__debug__" : Str)) = false := by decide +kernel
theorem nd_bool : (("bool" : Str) == ("__debug__" : Str)) = false := by decide +kernel
theorem nd_cell : (("cell" : Str) == ("__debug__" : Str)) = false := by decide +kernel
theorem nd_counts : (("counts" : Str) == ("__debug__" : Str)) = false := by decide +kernel
theorem nd_draws : (("draws" : Str) == ("__debug__" : Str)) = false := by decide +kernel
theorem nd_due : (("due" : Str) == ("__debug__" : Str)) = false := by decide +kernel
theorem nd_e : (("e" : Str) == ("__debug__" : Str)) = false := by decide +kernel
theorem nd_enough : (("enough" : Str) == ("__debug__" : Str)) = false := by decide +kernel
theorem nd_expected : (("expected" : Str) == ("__debug__" : Str)) = false := by decide +kernel
theorem nd_far : (("far" : Str) == ("__debug__" : Str)) = false := by decide +kernel
theorem nd_fewest_states : (("fewest_states" : Str) == ("__debug__" : Str)) = false := by decide +kernel
theorem nd_found : (("found" : Str) == ("__debug__" : Str)) = false := by decide +kernel
theorem nd_guesses : (("guesses" : Str) == ("__debug__" : Str)) = false := by decide +kernel
theorem nd_int : (("int" : Str) == ("__debug__" : Str)) = false := by decide +kernel
theorem nd_is_machine : (("is_machine" : Str) == ("__debug__" : Str)) = false := by decide +kernel
theorem nd_is_whole : (("is_whole" : Str) == ("__debug__" : Str)) = false := by decide +kernel
theorem nd_isinstance : (("isinstance" : Str) == ("__debug__" : Str)) = false := by decide +kernel
theorem nd_k : (("k" : Str) == ("__debug__" : Str)) = false := by decide +kernel
theorem nd_least : (("least" : Str) == ("__debug__" : Str)) = false := by decide +kernel
theorem nd_least_wrong : (("least_wrong" : Str) == ("__debug__" : Str)) = false := by decide +kernel
theorem nd_len : (("len" : Str) == ("__debug__" : Str)) = false := by decide +kernel
theorem nd_limit : (("limit" : Str) == ("__debug__" : Str)) = false := by decide +kernel
theorem nd_list : (("list" : Str) == ("__debug__" : Str)) = false := by decide +kernel
theorem nd_look_at_outcomes : (("look_at_outcomes" : Str) == ("__debug__" : Str)) = false := by decide +kernel
theorem nd_look_at_states : (("look_at_states" : Str) == ("__debug__" : Str)) = false := by decide +kernel
theorem nd_machine : (("machine" : Str) == ("__debug__" : Str)) = false := by decide +kernel
theorem nd_machines : (("machines" : Str) == ("__debug__" : Str)) = false := by decide +kernel
theorem nd_many : (("many" : Str) == ("__debug__" : Str)) = false := by decide +kernel
theorem nd_min : (("min" : Str) == ("__debug__" : Str)) = false := by decide +kernel
theorem nd_more : (("more" : Str) == ("__debug__" : Str)) = false := by decide +kernel
theorem nd_most : (("most" : Str) == ("__debug__" : Str)) = false := by decide +kernel
theorem nd_ok : (("ok" : Str) == ("__debug__" : Str)) = false := by decide +kernel
theorem nd_one : (("one" : Str) == ("__debug__" : Str)) = false := by decide +kernel
theorem nd_outcomes : (("outcomes" : Str) == ("__debug__" : Str)) = false := by decide +kernel
theorem nd_own : (("own" : Str) == ("__debug__" : Str)) = false := by decide +kernel
theorem nd_pair : (("pair" : Str) == ("__debug__" : Str)) = false := by decide +kernel
theorem nd_pairs : (("pairs" : Str) == ("__debug__" : Str)) = false := by decide +kernel
theorem nd_part : (("part" : Str) == ("__debug__" : Str)) = false := by decide +kernel
theorem nd_row : (("row" : Str) == ("__debug__" : Str)) = false := by decide +kernel
theorem nd_rows : (("rows" : Str) == ("__debug__" : Str)) = false := by decide +kernel
theorem nd_rows_of : (("rows_of" : Str) == ("__debug__" : Str)) = false := by decide +kernel
theorem nd_script : (("script" : Str) == ("__debug__" : Str)) = false := by decide +kernel
theorem nd_self : (("self" : Str) == ("__debug__" : Str)) = false := by decide +kernel
theorem nd_state : (("state" : Str) == ("__debug__" : Str)) = false := by decide +kernel
theorem nd_states : (("states" : Str) == ("__debug__" : Str)) = false := by decide +kernel
theorem nd_str : (("str" : Str) == ("__debug__" : Str)) = false := by decide +kernel
theorem nd_sum : (("sum" : Str) == ("__debug__" : Str)) = false := by decide +kernel
theorem nd_taken : (("taken" : Str) == ("__debug__" : Str)) = false := by decide +kernel
theorem nd_things : (("things" : Str) == ("__debug__" : Str)) = false := by decide +kernel
theorem nd_told : (("told" : Str) == ("__debug__" : Str)) = false := by decide +kernel
theorem nd_tuple : (("tuple" : Str) == ("__debug__" : Str)) = false := by decide +kernel
theorem nd_two : (("two" : Str) == ("__debug__" : Str)) = false := by decide +kernel
theorem nd_value : (("value" : Str) == ("__debug__" : Str)) = false := by decide +kernel
theorem nd_walked : (("walked" : Str) == ("__debug__" : Str)) = false := by decide +kernel
theorem nd_way : (("way" : Str) == ("__debug__" : Str)) = false := by decide +kernel
theorem nd_ways : (("ways" : Str) == ("__debug__" : Str)) = false := by decide +kernel
theorem nd_which : (("which" : Str) == ("__debug__" : Str)) = false := by decide +kernel
theorem nd_word : (("word" : Str) == ("__debug__" : Str)) = false := by decide +kernel
theorem nd_wrong : (("wrong" : Str) == ("__debug__" : Str)) = false := by decide +kernel
theorem nd_wrong_of : (("wrong_of" : Str) == ("__debug__" : Str)) = false := by decide +kernel
theorem nn_ValueError : ("ValueError" : Str) ≠ "__name__" := by decide +kernel
theorem nn_all : ("all" : Str) ≠ "__name__" := by decide +kernel
theorem nn_bool : ("bool" : Str) ≠ "__name__" := by decide +kernel
theorem nn_int : ("int" : Str) ≠ "__name__" := by decide +kernel
theorem nn_isinstance : ("isinstance" : Str) ≠ "__name__" := by decide +kernel
theorem nn_len : ("len" : Str) ≠ "__name__" := by decide +kernel
theorem nn_list : ("list" : Str) ≠ "__name__" := by decide +kernel
theorem nn_min : ("min" : Str) ≠ "__name__" := by decide +kernel
theorem nn_str : ("str" : Str) ≠ "__name__" := by decide +kernel
theorem nn_sum : ("sum" : Str) ≠ "__name__" := by decide +kernel
theorem nn_tuple : ("tuple" : Str) ≠ "__name__" := by decide +kernel
/- is_whole -/
abbrev s3 : Stmt := top 5
abbrev N3 : List Str := ["value"]
abbrev P3 : List Str := ["value"]
theorem sc_3 : FnScope N3 P3 (defScope s3) := ⟨rfl, rfl, rfl, by decide +kernel, rfl, by decide +kernel, by decide +kernel⟩
theorem gl_3_bool : (defScope s3).names.lookup ("bool" : Str) = some .globalImplicit := by decide +kernel
theorem gl_3_int : (defScope s3).names.lookup ("int" : Str) = some .globalImplicit := by decide +kernel
theorem gl_3_isinstance : (defScope s3).names.lookup ("isinstance" : Str) = some .globalImplicit := by decide +kernel
theorem vs_3_value : Vis (defScope s3) "value" := by first | exact Or.inl (by decide +kernel) | exact Or.inr (Or.inl (by decide +kernel)) | exact Or.inr (Or.inr (by decide +kernel))
/- look_at_outcomes -/
abbrev s36 : Stmt := top 9
abbrev N36 : List Str := ["value", "one"]
abbrev P36 : List Str := ["value"]
theorem sc_36 : FnScope N36 P36 (defScope s36) := ⟨rfl, rfl, rfl, by decide +kernel, rfl, by decide +kernel, by decide +kernel⟩
theorem gl_36_BadPlan : (defScope s36).names.lookup ("BadPlan" : Str) = some .globalImplicit := by decide +kernel
theorem gl_36_MOST_OUTCOMES : (defScope s36).names.lookup ("MOST_OUTCOMES" : Str) = some .globalImplicit := by decide +kernel
theorem gl_36_Refused : (defScope s36).names.lookup ("Refused" : Str) = some .globalImplicit := by decide +kernel
theorem gl_36_all : (defScope s36).names.lookup ("all" : Str) = some .globalImplicit := by decide +kernel
theorem gl_36_isinstance : (defScope s36).names.lookup ("isinstance" : Str) = some .globalImplicit := by decide +kernel
theorem gl_36_len : (defScope s36).names.lookup ("len" : Str) = some .globalImplicit := by decide +kernel
theorem gl_36_tuple : (defScope s36).names.lookup ("tuple" : Str) = some .globalImplicit := by decide +kernel
theorem vs_36_value : Vis (defScope s36) "value" := by first | exact Or.inl (by decide +kernel) | exact Or.inr (Or.inl (by decide +kernel)) | exact Or.inr (Or.inr (by decide +kernel))
/- look_at_states -/
abbrev s37 : Stmt := top 10
abbrev N37 : List Str := ["value"]
abbrev P37 : List Str := ["value"]
theorem sc_37 : FnScope N37 P37 (defScope s37) := ⟨rfl, rfl, rfl, by decide +kernel, rfl, by decide +kernel, by decide +kernel⟩
theorem gl_37_BadPlan : (defScope s37).names.lookup ("BadPlan" : Str) = some .globalImplicit := by decide +kernel
theorem gl_37_MOST_STATES : (defScope s37).names.lookup ("MOST_STATES" : Str) = some .globalImplicit := by decide +kernel
theorem gl_37_is_whole : (defScope s37).names.lookup ("is_whole" : Str) = some .globalImplicit := by decide +kernel
theorem vs_37_value : Vis (defScope s37) "value" := by first | exact Or.inl (by decide +kernel) | exact Or.inr (Or.inl (by decide +kernel)) | exact Or.inr (Or.inr (by decide +kernel))
/- is_machine -/
abbrev s38 : Stmt := top 11
abbrev N38 : List Str := ["value", "told", "ways", "way", "part", "one"]
abbrev P38 : List Str := ["value"]
theorem sc_38 : FnScope N38 P38 (defScope s38) := ⟨rfl, rfl, rfl, by decide +kernel, rfl, by decide +kernel, by decide +kernel⟩
theorem gl_38_MOST_STATES : (defScope s38).names.lookup ("MOST_STATES" : Str) = some .globalImplicit := by decide +kernel
theorem gl_38_all : (defScope s38).names.lookup ("all" : Str) = some .globalImplicit := by decide +kernel
theorem gl_38_isinstance : (defScope s38).names.lookup ("isinstance" : Str) = some .globalImplicit := by decide +kernel
theorem gl_38_len : (defScope s38).names.lookup ("len" : Str) = some .globalImplicit := by decide +kernel
theorem gl_38_tuple : (defScope s38).names.lookup ("tuple" : Str) = some .globalImplicit := by decide +kernel
theorem vs_38_told : Vis (defScope s38) "told" := by first | exact Or.inl (by decide +kernel) | exact Or.inr (Or.inl (by decide +kernel)) | exact Or.inr (Or.inr (by decide +kernel))
theorem vs_38_value : Vis (defScope s38) "value" := by first | exact Or.inl (by decide +kernel) | exact Or.inr (Or.inl (by decide +kernel)) | exact Or.inr (Or.inr (by decide +kernel))
theorem vs_38_way : Vis (defScope s38) "way" := by first | exact Or.inl (by decide +kernel) | exact Or.inr (Or.inl (by decide +kernel)) | exact Or.inr (Or.inr (by decide +kernel))
theorem vs_38_ways : Vis (defScope s38) "ways" := by first | exact Or.inl (by decide +kernel) | exact Or.inr (Or.inl (by decide +kernel)) | exact Or.inr (Or.inr (by decide +kernel))
theorem kd_38_told : (defScope s38).names.lookup ("told" : Str) = some .cell := by decide +kernel
theorem kd_38_way : (defScope s38).names.lookup ("way" : Str) = some .local := by decide +kernel
theorem kd_38_ways : (defScope s38).names.lookup ("ways" : Str) = some .local := by decide +kernel
/- wrong_of -/
abbrev s39 : Stmt := top 12
abbrev N39 : List Str := ["machine", "outcomes"]
abbrev P39 : List Str := ["machine", "outcomes"]
theorem sc_39 : FnScope N39 P39 (defScope s39) := ⟨rfl, rfl, rfl, by decide +kernel, rfl, by decide +kernel, by decide +kernel⟩
theorem gl_39_BadPlan : (defScope s39).names.lookup ("BadPlan" : Str) = some .globalImplicit := by decide +kernel
theorem gl_39_is_machine : (defScope s39).names.lookup ("is_machine" : Str) = some .globalImplicit := by decide +kernel
theorem gl_39_look_at_outcomes : (defScope s39).names.lookup ("look_at_outcomes" : Str) = some .globalImplicit := by decide +kernel
theorem gl_39_walked : (defScope s39).names.lookup ("walked" : Str) = some .globalImplicit := by decide +kernel
theorem vs_39_machine : Vis (defScope s39) "machine" := by first | exact Or.inl (by decide +kernel) | exact Or.inr (Or.inl (by decide +kernel)) | exact Or.inr (Or.inr (by decide +kernel))
theorem vs_39_outcomes : Vis (defScope s39) "outcomes" := by first | exact Or.inl (by decide +kernel) | exact Or.inr (Or.inl (by decide +kernel)) | exact Or.inr (Or.inr (by decide +kernel))
/- walked -/
abbrev s40 : Stmt := top 13
abbrev N40 : List Str := ["machine", "outcomes", "told", "ways", "state", "wrong", "taken"]
abbrev P40 : List Str := ["machine", "outcomes"]
theorem sc_40 : FnScope N40 P40 (defScope s40) := ⟨rfl, rfl, rfl, by decide +kernel, rfl, by decide +kernel, by decide +kernel⟩
theorem gl_40_int : (defScope s40).names.lookup ("int" : Str) = some .globalImplicit := by decide +kernel
theorem vs_40_machine : Vis (defScope s40) "machine" := by first | exact Or.inl (by decide +kernel) | exact Or.inr (Or.inl (by decide +kernel)) | exact Or.inr (Or.inr (by decide +kernel))
theorem vs_40_outcomes : Vis (defScope s40) "outcomes" := by first | exact Or.inl (by decide +kernel) | exact Or.inr (Or.inl (by decide +kernel)) | exact Or.inr (Or.inr (by decide +kernel))
theorem vs_40_state : Vis (defScope s40) "state" := by first | exact Or.inl (by decide +kernel) | exact Or.inr (Or.inl (by decide +kernel)) | exact Or.inr (Or.inr (by decide +kernel))
theorem vs_40_taken : Vis (defScope s40) "taken" := by first | exact Or.inl (by decide +kernel) | exact Or.inr (Or.inl (by decide +kernel)) | exact Or.inr (Or.inr (by decide +kernel))
theorem vs_40_told : Vis (defScope s40) "told" := by first | exact Or.inl (by decide +kernel) | exact Or.inr (Or.inl (by decide +kernel)) | exact Or.inr (Or.inr (by decide +kernel))
theorem vs_40_ways : Vis (defScope s40) "ways" := by first | exact Or.inl (by decide +kernel) | exact Or.inr (Or.inl (by decide +kernel)) | exact Or.inr (Or.inr (by decide +kernel))
theorem vs_40_wrong : Vis (defScope s40) "wrong" := by first | exact Or.inl (by decide +kernel) | exact Or.inr (Or.inl (by decide +kernel)) | exact Or.inr (Or.inr (by decide +kernel))
theorem kd_40_state : (defScope s40).names.lookup ("state" : Str) = some .local := by decide +kernel
theorem kd_40_taken : (defScope s40).names.lookup ("taken" : Str) = some .local := by decide +kernel
theorem kd_40_told : (defScope s40).names.lookup ("told" : Str) = some .local := by decide +kernel
theorem kd_40_ways : (defScope s40).names.lookup ("ways" : Str) = some .local := by decide +kernel
theorem kd_40_wrong : (defScope s40).names.lookup ("wrong" : Str) = some .local := by decide +kernel
/- rows_of -/
abbrev s41 : Stmt := top 14
abbrev N41 : List Str := ["things", "many", "found", "_", "row", "one"]
abbrev P41 : List Str := ["things", "many"]
theorem sc_41 : FnScope N41 P41 (defScope s41) := ⟨rfl, rfl, rfl, by decide +kernel, rfl, by decide +kernel, by decide +kernel⟩
theorem gl_41_range : (defScope s41).names.lookup ("range" : Str) = some .globalImplicit := by decide +kernel
theorem vs_41_found : Vis (defScope s41) "found" := by first | exact Or.inl (by decide +kernel) | exact Or.inr (Or.inl (by decide +kernel)) | exact Or.inr (Or.inr (by decide +kernel))
theorem vs_41_many : Vis (defScope s41) "many" := by first | exact Or.inl (by decide +kernel) | exact Or.inr (Or.inl (by decide +kernel)) | exact Or.inr (Or.inr (by decide +kernel))
theorem kd_41__ : (defScope s41).names.lookup ("_" : Str) = some .local := by decide +kernel
theorem kd_41_found : (defScope s41).names.lookup ("found" : Str) = some .local := by decide +kernel
/- machines -/
abbrev s42 : Stmt := top 15
abbrev N42 : List Str := ["states", "ways", "told", "way"]
abbrev P42 : List Str := ["states"]
theorem sc_42 : FnScope N42 P42 (defScope s42) := ⟨rfl, rfl, rfl, by decide +kernel, rfl, by decide +kernel, by decide +kernel⟩
theorem gl_42_list : (defScope s42).names.lookup ("list" : Str) = some .globalImplicit := by decide +kernel
theorem gl_42_look_at_states : (defScope s42).names.lookup ("look_at_states" : Str) = some .globalImplicit := by decide +kernel
theorem gl_42_range : (defScope s42).names.lookup ("range" : Str) = some .globalImplicit := by decide +kernel
theorem gl_42_rows_of : (defScope s42).names.lookup ("rows_of" : Str) = some .globalImplicit := by decide +kernel
theorem gl_42_tuple : (defScope s42).names.lookup ("tuple" : Str) = some .globalImplicit := by decide +kernel
theorem vs_42_states : Vis (defScope s42) "states" := by first | exact Or.inl (by decide +kernel) | exact Or.inr (Or.inl (by decide +kernel)) | exact Or.inr (Or.inr (by decide +kernel))
theorem kd_42_ways : (defScope s42).names.lookup ("ways" : Str) = some .cell := by decide +kernel
/- least_wrong -/
abbrev s43 : Stmt := top 16
abbrev N43 : List Str := ["outcomes", "states", "best", "machine", "wrong"]
abbrev P43 : List Str := ["outcomes", "states"]
theorem sc_43 : FnScope N43 P43 (defScope s43) := ⟨rfl, rfl, rfl, by decide +kernel, rfl, by decide +kernel, by decide +kernel⟩
theorem gl_43_look_at_outcomes : (defScope s43).names.lookup ("look_at_outcomes" : Str) = some .globalImplicit := by decide +kernel
theorem gl_43_look_at_states : (defScope s43).names.lookup ("look_at_states" : Str) = some .globalImplicit := by decide +kernel
theorem gl_43_machines : (defScope s43).names.lookup ("machines" : Str) = some .globalImplicit := by decide +kernel
theorem gl_43_walked : (defScope s43).names.lookup ("walked" : Str) = some .globalImplicit := by decide +kernel
theorem vs_43_best : Vis (defScope s43) "best" := by first | exact Or.inl (by decide +kernel) | exact Or.inr (Or.inl (by decide +kernel)) | exact Or.inr (Or.inr (by decide +kernel))
theorem vs_43_machine : Vis (defScope s43) "machine" := by first | exact Or.inl (by decide +kernel) | exact Or.inr (Or.inl (by decide +kernel)) | exact Or.inr (Or.inr (by decide +kernel))
theorem vs_43_outcomes : Vis (defScope s43) "outcomes" := by first | exact Or.inl (by decide +kernel) | exact Or.inr (Or.inl (by decide +kernel)) | exact Or.inr (Or.inr (by decide +kernel))
theorem vs_43_states : Vis (defScope s43) "states" := by first | exact Or.inl (by decide +kernel) | exact Or.inr (Or.inl (by decide +kernel)) | exact Or.inr (Or.inr (by decide +kernel))
theorem vs_43_wrong : Vis (defScope s43) "wrong" := by first | exact Or.inl (by decide +kernel) | exact Or.inr (Or.inl (by decide +kernel)) | exact Or.inr (Or.inr (by decide +kernel))
theorem kd_43_best : (defScope s43).names.lookup ("best" : Str) = some .local := by decide +kernel
theorem kd_43_machine : (defScope s43).names.lookup ("machine" : Str) = some .local := by decide +kernel
theorem kd_43_wrong : (defScope s43).names.lookup ("wrong" : Str) = some .local := by decide +kernel
/- counts -/
abbrev s44 : Stmt := top 17
abbrev N44 : List Str := ["outcomes", "states", "found", "machine", "wrong"]
abbrev P44 : List Str := ["outcomes", "states"]
theorem sc_44 : FnScope N44 P44 (defScope s44) := ⟨rfl, rfl, rfl, by decide +kernel, rfl, by decide +kernel, by decide +kernel⟩
theorem gl_44_look_at_outcomes : (defScope s44).names.lookup ("look_at_outcomes" : Str) = some .globalImplicit := by decide +kernel
theorem gl_44_look_at_states : (defScope s44).names.lookup ("look_at_states" : Str) = some .globalImplicit := by decide +kernel
theorem gl_44_machines : (defScope s44).names.lookup ("machines" : Str) = some .globalImplicit := by decide +kernel
theorem gl_44_sorted : (defScope s44).names.lookup ("sorted" : Str) = some .globalImplicit := by decide +kernel
theorem gl_44_tuple : (defScope s44).names.lookup ("tuple" : Str) = some .globalImplicit := by decide +kernel
theorem gl_44_walked : (defScope s44).names.lookup ("walked" : Str) = some .globalImplicit := by decide +kernel
theorem vs_44_found : Vis (defScope s44) "found" := by first | exact Or.inl (by decide +kernel) | exact Or.inr (Or.inl (by decide +kernel)) | exact Or.inr (Or.inr (by decide +kernel))
theorem vs_44_machine : Vis (defScope s44) "machine" := by first | exact Or.inl (by decide +kernel) | exact Or.inr (Or.inl (by decide +kernel)) | exact Or.inr (Or.inr (by decide +kernel))
theorem vs_44_outcomes : Vis (defScope s44) "outcomes" := by first | exact Or.inl (by decide +kernel) | exact Or.inr (Or.inl (by decide +kernel)) | exact Or.inr (Or.inr (by decide +kernel))
theorem vs_44_states : Vis (defScope s44) "states" := by first | exact Or.inl (by decide +kernel) | exact Or.inr (Or.inl (by decide +kernel)) | exact Or.inr (Or.inr (by decide +kernel))
theorem vs_44_wrong : Vis (defScope s44) "wrong" := by first | exact Or.inl (by decide +kernel) | exact Or.inr (Or.inl (by decide +kernel)) | exact Or.inr (Or.inr (by decide +kernel))
theorem kd_44_found : (defScope s44).names.lookup ("found" : Str) = some .local := by decide +kernel
theorem kd_44_machine : (defScope s44).names.lookup ("machine" : Str) = some .local := by decide +kernel
theorem kd_44_wrong : (defScope s44).names.lookup ("wrong" : Str) = some .local := by decide +kernel
/- fewest_states -/
abbrev s45 : Stmt := top 18
abbrev N45 : List Str := ["outcomes", "most", "states"]
abbrev P45 : List Str := ["outcomes", "most"]
theorem sc_45 : FnScope N45 P45 (defScope s45) := ⟨rfl, rfl, rfl, by decide +kernel, rfl, by decide +kernel, by decide +kernel⟩
theorem gl_45_BadPlan : (defScope s45).names.lookup ("BadPlan" : Str) = some .globalImplicit := by decide +kernel
theorem gl_45_MOST_STATES : (defScope s45).names.lookup ("MOST_STATES" : Str) = some .globalImplicit := by decide +kernel
theorem gl_45_is_whole : (defScope s45).names.lookup ("is_whole" : Str) = some .globalImplicit := by decide +kernel
theorem gl_45_least_wrong : (defScope s45).names.lookup ("least_wrong" : Str) = some .globalImplicit := by decide +kernel
theorem gl_45_range : (defScope s45).names.lookup ("range" : Str) = some .globalImplicit := by decide +kernel
theorem vs_45_most : Vis (defScope s45) "most" := by first | exact Or.inl (by decide +kernel) | exact Or.inr (Or.inl (by decide +kernel)) | exact Or.inr (Or.inr (by decide +kernel))
theorem vs_45_outcomes : Vis (defScope s45) "outcomes" := by first | exact Or.inl (by decide +kernel) | exact Or.inr (Or.inl (by decide +kernel)) | exact Or.inr (Or.inr (by decide +kernel))
theorem vs_45_states : Vis (defScope s45) "states" := by first | exact Or.inl (by decide +kernel) | exact Or.inr (Or.inl (by decide +kernel)) | exact Or.inr (Or.inr (by decide +kernel))
theorem kd_45_states : (defScope s45).names.lookup ("states" : Str) = some .local := by decide +kernel
/- _law_draws -/
abbrev s13 : Stmt := top 20
abbrev N13 : List Str := ["script"]
abbrev P13 : List Str := ["script"]
theorem sc_13 : FnScope N13 P13 (defScope s13) := ⟨rfl, rfl, rfl, by decide +kernel, rfl, by decide +kernel, by decide +kernel⟩
theorem gl_13_list : (defScope s13).names.lookup ("list" : Str) = some .globalImplicit := by decide +kernel
theorem vs_13_script : Vis (defScope s13) "script" := by first | exact Or.inl (by decide +kernel) | exact Or.inr (Or.inl (by decide +kernel)) | exact Or.inr (Or.inr (by decide +kernel))
/- _law_draw -/
abbrev s14 : Stmt := top 21
abbrev N14 : List Str := ["draws", "limit", "cell", "value"]
abbrev P14 : List Str := ["draws", "limit"]
theorem sc_14 : FnScope N14 P14 (defScope s14) := ⟨rfl, rfl, rfl, by decide +kernel, rfl, by decide +kernel, by decide +kernel⟩
theorem gl_14_int : (defScope s14).names.lookup ("int" : Str) = some .globalImplicit := by decide +kernel
theorem gl_14_len : (defScope s14).names.lookup ("len" : Str) = some .globalImplicit := by decide +kernel
theorem vs_14_cell : Vis (defScope s14) "cell" := by first | exact Or.inl (by decide +kernel) | exact Or.inr (Or.inl (by decide +kernel)) | exact Or.inr (Or.inr (by decide +kernel))
theorem vs_14_draws : Vis (defScope s14) "draws" := by first | exact Or.inl (by decide +kernel) | exact Or.inr (Or.inl (by decide +kernel)) | exact Or.inr (Or.inr (by decide +kernel))
theorem vs_14_limit : Vis (defScope s14) "limit" := by first | exact Or.inl (by decide +kernel) | exact Or.inr (Or.inl (by decide +kernel)) | exact Or.inr (Or.inr (by decide +kernel))
theorem vs_14_value : Vis (defScope s14) "value" := by first | exact Or.inl (by decide +kernel) | exact Or.inr (Or.inl (by decide +kernel)) | exact Or.inr (Or.inr (by decide +kernel))
theorem kd_14_cell : (defScope s14).names.lookup ("cell" : Str) = some .local := by decide +kernel
theorem kd_14_value : (defScope s14).names.lookup ("value" : Str) = some .local := by decide +kernel
/- _law_same -/
abbrev s15 : Stmt := top 22
abbrev N15 : List Str := ["actual", "expected", "k"]
abbrev P15 : List Str := ["actual", "expected"]
theorem sc_15 : FnScope N15 P15 (defScope s15) := ⟨rfl, rfl, rfl, by decide +kernel, rfl, by decide +kernel, by decide +kernel⟩
theorem gl_15_bool : (defScope s15).names.lookup ("bool" : Str) = some .globalImplicit := by decide +kernel
theorem gl_15_int : (defScope s15).names.lookup ("int" : Str) = some .globalImplicit := by decide +kernel
theorem gl_15_isinstance : (defScope s15).names.lookup ("isinstance" : Str) = some .globalImplicit := by decide +kernel
theorem gl_15_len : (defScope s15).names.lookup ("len" : Str) = some .globalImplicit := by decide +kernel
theorem gl_15_list : (defScope s15).names.lookup ("list" : Str) = some .globalImplicit := by decide +kernel
theorem gl_15_range : (defScope s15).names.lookup ("range" : Str) = some .globalImplicit := by decide +kernel
theorem gl_15_str : (defScope s15).names.lookup ("str" : Str) = some .globalImplicit := by decide +kernel
theorem gl_15_tuple : (defScope s15).names.lookup ("tuple" : Str) = some .globalImplicit := by decide +kernel
theorem vs_15_actual : Vis (defScope s15) "actual" := by first | exact Or.inl (by decide +kernel) | exact Or.inr (Or.inl (by decide +kernel)) | exact Or.inr (Or.inr (by decide +kernel))
theorem vs_15_expected : Vis (defScope s15) "expected" := by first | exact Or.inl (by decide +kernel) | exact Or.inr (Or.inl (by decide +kernel)) | exact Or.inr (Or.inr (by decide +kernel))
/- _law_pick -/
abbrev s16 : Stmt := top 23
abbrev N16 : List Str := ["draws", "row"]
abbrev P16 : List Str := ["draws", "row"]
theorem sc_16 : FnScope N16 P16 (defScope s16) := ⟨rfl, rfl, rfl, by decide +kernel, rfl, by decide +kernel, by decide +kernel⟩
theorem gl_16__law_draw : (defScope s16).names.lookup ("_law_draw" : Str) = some .globalImplicit := by decide +kernel
theorem gl_16_len : (defScope s16).names.lookup ("len" : Str) = some .globalImplicit := by decide +kernel
theorem vs_16_draws : Vis (defScope s16) "draws" := by first | exact Or.inl (by decide +kernel) | exact Or.inr (Or.inl (by decide +kernel)) | exact Or.inr (Or.inr (by decide +kernel))
theorem vs_16_row : Vis (defScope s16) "row" := by first | exact Or.inl (by decide +kernel) | exact Or.inr (Or.inl (by decide +kernel)) | exact Or.inr (Or.inr (by decide +kernel))
/- _law_machines -/
abbrev s46 : Stmt := top 24
abbrev N46 : List Str := ["states", "guesses", "ways", "pairs", "one", "k", "more", "far", "row", "found", "two", "pair", "way"]
abbrev P46 : List Str := ["states"]
theorem sc_46 : FnScope N46 P46 (defScope s46) := ⟨rfl, rfl, rfl, by decide +kernel, rfl, by decide +kernel, by decide +kernel⟩
theorem gl_46_range : (defScope s46).names.lookup ("range" : Str) = some .globalImplicit := by decide +kernel
theorem vs_46_far : Vis (defScope s46) "far" := by first | exact Or.inl (by decide +kernel) | exact Or.inr (Or.inl (by decide +kernel)) | exact Or.inr (Or.inr (by decide +kernel))
theorem vs_46_found : Vis (defScope s46) "found" := by first | exact Or.inl (by decide +kernel) | exact Or.inr (Or.inl (by decide +kernel)) | exact Or.inr (Or.inr (by decide +kernel))
theorem vs_46_guesses : Vis (defScope s46) "guesses" := by first | exact Or.inl (by decide +kernel) | exact Or.inr (Or.inl (by decide +kernel)) | exact Or.inr (Or.inr (by decide +kernel))
theorem vs_46_more : Vis (defScope s46) "more" := by first | exact Or.inl (by decide +kernel) | exact Or.inr (Or.inl (by decide +kernel)) | exact Or.inr (Or.inr (by decide +kernel))
theorem vs_46_pairs : Vis (defScope s46) "pairs" := by first | exact Or.inl (by decide +kernel) | exact Or.inr (Or.inl (by decide +kernel)) | exact Or.inr (Or.inr (by decide +kernel))
theorem vs_46_row : Vis (defScope s46) "row" := by first | exact Or.inl (by decide +kernel) | exact Or.inr (Or.inl (by decide +kernel)) | exact Or.inr (Or.inr (by decide +kernel))
theorem vs_46_states : Vis (defScope s46) "states" := by first | exact Or.inl (by decide +kernel) | exact Or.inr (Or.inl (by decide +kernel)) | exact Or.inr (Or.inr (by decide +kernel))
theorem vs_46_ways : Vis (defScope s46) "ways" := by first | exact Or.inl (by decide +kernel) | exact Or.inr (Or.inl (by decide +kernel)) | exact Or.inr (Or.inr (by decide +kernel))
theorem kd_46_far : (defScope s46).names.lookup ("far" : Str) = some .local := by decide +kernel
theorem kd_46_found : (defScope s46).names.lookup ("found" : Str) = some .local := by decide +kernel
theorem kd_46_guesses : (defScope s46).names.lookup ("guesses" : Str) = some .local := by decide +kernel
theorem kd_46_k : (defScope s46).names.lookup ("k" : Str) = some .local := by decide +kernel
theorem kd_46_more : (defScope s46).names.lookup ("more" : Str) = some .local := by decide +kernel
theorem kd_46_one : (defScope s46).names.lookup ("one" : Str) = some .cell := by decide +kernel
theorem kd_46_pairs : (defScope s46).names.lookup ("pairs" : Str) = some .local := by decide +kernel
theorem kd_46_row : (defScope s46).names.lookup ("row" : Str) = some .cell := by decide +kernel
theorem kd_46_ways : (defScope s46).names.lookup ("ways" : Str) = some .local := by decide +kernel
/- _law_wrong -/
abbrev s47 : Stmt := top 25
abbrev N47 : List Str := ["machine", "outcomes", "state", "wrong", "taken"]
abbrev P47 : List Str := ["machine", "outcomes"]
theorem sc_47 : FnScope N47 P47 (defScope s47) := ⟨rfl, rfl, rfl, by decide +kernel, rfl, by decide +kernel, by decide +kernel⟩
theorem vs_47_machine : Vis (defScope s47) "machine" := by first | exact Or.inl (by decide +kernel) | exact Or.inr (Or.inl (by decide +kernel)) | exact Or.inr (Or.inr (by decide +kernel))
theorem vs_47_outcomes : Vis (defScope s47) "outcomes" := by first | exact Or.inl (by decide +kernel) | exact Or.inr (Or.inl (by decide +kernel)) | exact Or.inr (Or.inr (by decide +kernel))
theorem vs_47_state : Vis (defScope s47) "state" := by first | exact Or.inl (by decide +kernel) | exact Or.inr (Or.inl (by decide +kernel)) | exact Or.inr (Or.inr (by decide +kernel))
theorem vs_47_taken : Vis (defScope s47) "taken" := by first | exact Or.inl (by decide +kernel) | exact Or.inr (Or.inl (by decide +kernel)) | exact Or.inr (Or.inr (by decide +kernel))
theorem vs_47_wrong : Vis (defScope s47) "wrong" := by first | exact Or.inl (by decide +kernel) | exact Or.inr (Or.inl (by decide +kernel)) | exact Or.inr (Or.inr (by decide +kernel))
theorem kd_47_state : (defScope s47).names.lookup ("state" : Str) = some .local := by decide +kernel
theorem kd_47_taken : (defScope s47).names.lookup ("taken" : Str) = some .local := by decide +kernel
theorem kd_47_wrong : (defScope s47).names.lookup ("wrong" : Str) = some .local := by decide +kernel
/- _law_outcomes -/
abbrev s48 : Stmt := top 26
abbrev N48 : List Str := ["draws", "row", "k"]
abbrev P48 : List Str := ["draws"]
theorem sc_48 : FnScope N48 P48 (defScope s48) := ⟨rfl, rfl, rfl, by decide +kernel, rfl, by decide +kernel, by decide +kernel⟩
theorem gl_48__law_draw : (defScope s48).names.lookup ("_law_draw" : Str) = some .globalImplicit := by decide +kernel
theorem gl_48_range : (defScope s48).names.lookup ("range" : Str) = some .globalImplicit := by decide +kernel
theorem gl_48_tuple : (defScope s48).names.lookup ("tuple" : Str) = some .globalImplicit := by decide +kernel
theorem vs_48_draws : Vis (defScope s48) "draws" := by first | exact Or.inl (by decide +kernel) | exact Or.inr (Or.inl (by decide +kernel)) | exact Or.inr (Or.inr (by decide +kernel))
theorem vs_48_row : Vis (defScope s48) "row" := by first | exact Or.inl (by decide +kernel) | exact Or.inr (Or.inl (by decide +kernel)) | exact Or.inr (Or.inr (by decide +kernel))
theorem kd_48_row : (defScope s48).names.lookup ("row" : Str) = some .local := by decide +kernel
/- _law_refusals -/
abbrev s49 : Stmt := top 27
abbrev N49 : List Str := ["ok", "wrong", "bad", "e", "which"]
abbrev P49 : List Str := []
theorem sc_49 : FnScope N49 P49 (defScope s49) := ⟨rfl, rfl, rfl, by decide +kernel, rfl, by decide +kernel, by decide +kernel⟩
theorem gl_49_BadPlan : (defScope s49).names.lookup ("BadPlan" : Str) = some .globalImplicit := by decide +kernel
theorem gl_49_Refused : (defScope s49).names.lookup ("Refused" : Str) = some .globalImplicit := by decide +kernel
theorem gl_49_ValueError : (defScope s49).names.lookup ("ValueError" : Str) = some .globalImplicit := by decide +kernel
theorem gl_49_counts : (defScope s49).names.lookup ("counts" : Str) = some .globalImplicit := by decide +kernel
theorem gl_49_fewest_states : (defScope s49).names.lookup ("fewest_states" : Str) = some .globalImplicit := by decide +kernel
theorem gl_49_is_machine : (defScope s49).names.lookup ("is_machine" : Str) = some .globalImplicit := by decide +kernel
theorem gl_49_isinstance : (defScope s49).names.lookup ("isinstance" : Str) = some .globalImplicit := by decide +kernel
theorem gl_49_least_wrong : (defScope s49).names.lookup ("least_wrong" : Str) = some .globalImplicit := by decide +kernel
theorem gl_49_machines : (defScope s49).names.lookup ("machines" : Str) = some .globalImplicit := by decide +kernel
theorem gl_49_range : (defScope s49).names.lookup ("range" : Str) = some .globalImplicit := by decide +kernel
theorem gl_49_wrong_of : (defScope s49).names.lookup ("wrong_of" : Str) = some .globalImplicit := by decide +kernel
theorem vs_49_bad : Vis (defScope s49) "bad" := by first | exact Or.inl (by decide +kernel) | exact Or.inr (Or.inl (by decide +kernel)) | exact Or.inr (Or.inr (by decide +kernel))
theorem vs_49_e : Vis (defScope s49) "e" := by first | exact Or.inl (by decide +kernel) | exact Or.inr (Or.inl (by decide +kernel)) | exact Or.inr (Or.inr (by decide +kernel))
theorem vs_49_ok : Vis (defScope s49) "ok" := by first | exact Or.inl (by decide +kernel) | exact Or.inr (Or.inl (by decide +kernel)) | exact Or.inr (Or.inr (by decide +kernel))
theorem vs_49_which : Vis (defScope s49) "which" := by first | exact Or.inl (by decide +kernel) | exact Or.inr (Or.inl (by decide +kernel)) | exact Or.inr (Or.inr (by decide +kernel))
theorem vs_49_wrong : Vis (defScope s49) "wrong" := by first | exact Or.inl (by decide +kernel) | exact Or.inr (Or.inl (by decide +kernel)) | exact Or.inr (Or.inr (by decide +kernel))
theorem kd_49_bad : (defScope s49).names.lookup ("bad" : Str) = some .local := by decide +kernel
theorem kd_49_e : (defScope s49).names.lookup ("e" : Str) = some .local := by decide +kernel
theorem kd_49_ok : (defScope s49).names.lookup ("ok" : Str) = some .local := by decide +kernel
theorem kd_49_which : (defScope s49).names.lookup ("which" : Str) = some .local := by decide +kernel
theorem kd_49_wrong : (defScope s49).names.lookup ("wrong" : Str) = some .local := by decide +kernel
/- law -/
abbrev s50 : Stmt := top 28
abbrev N50 : List Str := ["script", "draws", "turn", "outcomes", "states", "own", "rows", "due", "one", "least", "most", "enough", "machine", "wrong", "many", "k"]
abbrev P50 : List Str := ["script"]
theorem sc_50 : FnScope N50 P50 (defScope s50) := ⟨rfl, rfl, rfl, by decide +kernel, rfl, by decide +kernel, by decide +kernel⟩
theorem gl_50__law_draw : (defScope s50).names.lookup ("_law_draw" : Str) = some .globalImplicit := by decide +kernel
theorem gl_50__law_draws : (defScope s50).names.lookup ("_law_draws" : Str) = some .globalImplicit := by decide +kernel
theorem gl_50__law_machines : (defScope s50).names.lookup ("_law_machines" : Str) = some .globalImplicit := by decide +kernel
theorem gl_50__law_outcomes : (defScope s50).names.lookup ("_law_outcomes" : Str) = some .globalImplicit := by decide +kernel
theorem gl_50__law_pick : (defScope s50).names.lookup ("_law_pick" : Str) = some .globalImplicit := by decide +kernel
theorem gl_50__law_refusals : (defScope s50).names.lookup ("_law_refusals" : Str) = some .globalImplicit := by decide +kernel
theorem gl_50__law_same : (defScope s50).names.lookup ("_law_same" : Str) = some .globalImplicit := by decide +kernel
theorem gl_50__law_wrong : (defScope s50).names.lookup ("_law_wrong" : Str) = some .globalImplicit := by decide +kernel
theorem gl_50_counts : (defScope s50).names.lookup ("counts" : Str) = some .globalImplicit := by decide +kernel
theorem gl_50_fewest_states : (defScope s50).names.lookup ("fewest_states" : Str) = some .globalImplicit := by decide +kernel
theorem gl_50_least_wrong : (defScope s50).names.lookup ("least_wrong" : Str) = some .globalImplicit := by decide +kernel
theorem gl_50_len : (defScope s50).names.lookup ("len" : Str) = some .globalImplicit := by decide +kernel
theorem gl_50_machines : (defScope s50).names.lookup ("machines" : Str) = some .globalImplicit := by decide +kernel
theorem gl_50_min : (defScope s50).names.lookup ("min" : Str) = some .globalImplicit := by decide +kernel
theorem gl_50_range : (defScope s50).names.lookup ("range" : Str) = some .globalImplicit := by decide +kernel
theorem gl_50_set : (defScope s50).names.lookup ("set" : Str) = some .globalImplicit := by decide +kernel
theorem gl_50_sorted : (defScope s50).names.lookup ("sorted" : Str) = some .globalImplicit := by decide +kernel
theorem gl_50_sum : (defScope s50).names.lookup ("sum" : Str) = some .globalImplicit := by decide +kernel
theorem gl_50_tuple : (defScope s50).names.lookup ("tuple" : Str) = some .globalImplicit := by decide +kernel
theorem gl_50_wrong_of : (defScope s50).names.lookup ("wrong_of" : Str) = some .globalImplicit := by decide +kernel
theorem vs_50_draws : Vis (defScope s50) "draws" := by first | exact Or.inl (by decide +kernel) | exact Or.inr (Or.inl (by decide +kernel)) | exact Or.inr (Or.inr (by decide +kernel))
theorem vs_50_due : Vis (defScope s50) "due" := by first | exact Or.inl (by decide +kernel) | exact Or.inr (Or.inl (by decide +kernel)) | exact Or.inr (Or.inr (by decide +kernel))
theorem vs_50_enough : Vis (defScope s50) "enough" := by first | exact Or.inl (by decide +kernel) | exact Or.inr (Or.inl (by decide +kernel)) | exact Or.inr (Or.inr (by decide +kernel))
theorem vs_50_most : Vis (defScope s50) "most" := by first | exact Or.inl (by decide +kernel) | exact Or.inr (Or.inl (by decide +kernel)) | exact Or.inr (Or.inr (by decide +kernel))
theorem vs_50_one : Vis (defScope s50) "one" := by first | exact Or.inl (by decide +kernel) | exact Or.inr (Or.inl (by decide +kernel)) | exact Or.inr (Or.inr (by decide +kernel))
theorem vs_50_outcomes : Vis (defScope s50) "outcomes" := by first | exact Or.inl (by decide +kernel) | exact Or.inr (Or.inl (by decide +kernel)) | exact Or.inr (Or.inr (by decide +kernel))
theorem vs_50_own : Vis (defScope s50) "own" := by first | exact Or.inl (by decide +kernel) | exact Or.inr (Or.inl (by decide +kernel)) | exact Or.inr (Or.inr (by decide +kernel))
theorem vs_50_rows : Vis (defScope s50) "rows" := by first | exact Or.inl (by decide +kernel) | exact Or.inr (Or.inl (by decide +kernel)) | exact Or.inr (Or.inr (by decide +kernel))
theorem vs_50_script : Vis (defScope s50) "script" := by first | exact Or.inl (by decide +kernel) | exact Or.inr (Or.inl (by decide +kernel)) | exact Or.inr (Or.inr (by decide +kernel))
theorem vs_50_states : Vis (defScope s50) "states" := by first | exact Or.inl (by decide +kernel) | exact Or.inr (Or.inl (by decide +kernel)) | exact Or.inr (Or.inr (by decide +kernel))
theorem kd_50_draws : (defScope s50).names.lookup ("draws" : Str) = some .local := by decide +kernel
theorem kd_50_due : (defScope s50).names.lookup ("due" : Str) = some .local := by decide +kernel
theorem kd_50_enough : (defScope s50).names.lookup ("enough" : Str) = some .local := by decide +kernel
theorem kd_50_least : (defScope s50).names.lookup ("least" : Str) = some .cell := by decide +kernel
theorem kd_50_most : (defScope s50).names.lookup ("most" : Str) = some .cell := by decide +kernel
theorem kd_50_one : (defScope s50).names.lookup ("one" : Str) = some .local := by decide +kernel
theorem kd_50_outcomes : (defScope s50).names.lookup ("outcomes" : Str) = some .cell := by decide +kernel
theorem kd_50_own : (defScope s50).names.lookup ("own" : Str) = some .local := by decide +kernel
theorem kd_50_rows : (defScope s50).names.lookup ("rows" : Str) = some .cell := by decide +kernel
theorem kd_50_states : (defScope s50).names.lookup ("states" : Str) = some .local := by decide +kernel
theorem kd_50_turn : (defScope s50).names.lookup ("turn" : Str) = some .local := by decide +kernel
/- BadPlan.__init__ -/
abbrev s2 : Stmt := inClass (top 2) 0
abbrev N2 : List Str := ["self", "word"]
abbrev P2 : List Str := ["self", "word"]
theorem sc_2 : FnScope N2 P2 (defScope s2) := ⟨rfl, rfl, rfl, by decide +kernel, rfl, by decide +kernel, by decide +kernel⟩
theorem gl_2_AheadError : (defScope s2).names.lookup ("AheadError" : Str) = some .globalImplicit := by decide +kernel
theorem vs_2_self : Vis (defScope s2) "self" := by first | exact Or.inl (by decide +kernel) | exact Or.inr (Or.inl (by decide +kernel)) | exact Or.inr (Or.inr (by decide +kernel))
theorem vs_2_word : Vis (defScope s2) "word" := by first | exact Or.inl (by decide +kernel) | exact Or.inr (Or.inl (by decide +kernel)) | exact Or.inr (Or.inr (by decide +kernel))
/- Refused.__init__ -/
abbrev s35 : Stmt := inClass (top 3) 0
abbrev N35 : List Str := ["self", "word"]
abbrev P35 : List Str := ["self", "word"]
theorem sc_35 : FnScope N35 P35 (defScope s35) := ⟨rfl, rfl, rfl, by decide +kernel, rfl, by decide +kernel, by decide +kernel⟩
theorem gl_35_AheadError : (defScope s35).names.lookup ("AheadError" : Str) = some .globalImplicit := by decide +kernel
theorem vs_35_self : Vis (defScope s35) "self" := by first | exact Or.inl (by decide +kernel) | exact Or.inr (Or.inl (by decide +kernel)) | exact Or.inr (Or.inr (by decide +kernel))
theorem vs_35_word : Vis (defScope s35) "word" := by first | exact Or.inl (by decide +kernel) | exact Or.inr (Or.inl (by decide +kernel)) | exact Or.inr (Or.inr (by decide +kernel))
def tb : Tbl where
  ids := [3, 36, 37, 38, 39, 40, 41, 42, 43, 44, 45, 13, 14, 15, 16, 46, 47, 48, 49, 50]
  xis := [2, 35]
  bass := [(1, "AheadError")]
  clss := []
  fns := [(3, "is_whole"), (40, "walked"), (36, "look_at_outcomes"), (38, "is_machine"), (41, "rows_of"), (37, "look_at_states"), (42, "machines"), (43, "least_wrong"), (15, "_law_same"), (14, "_law_draw"), (39, "wrong_of"), (45, "fewest_states"), (44, "counts"), (49, "_law_refusals"), (46, "_law_machines"), (47, "_law_wrong"), (48, "_law_outcomes"), (16, "_law_pick"), (13, "_law_draws")]
  mks := []
  meths := []
  frees := ["int", "isinstance", "bool", "len", "tuple", "all", "range", "list", "sorted", "str", "ValueError", "min", "sum", "set"]
  intz := [("MOST_OUTCOMES", 200), ("MOST_STATES", 3)]
  strz := []
  cons := []
  excs := [(6, "Refused", 35, ["word"]), (3, "BadPlan", 2, ["word"])]
  trs := [(3, "BadPlan"), (6, "Refused")]
  exis := [3, 6]
  xfs := [(6, "word")]
def cn : Nat → Str
  | 1 => "AheadError"
  | 3 => "BadPlan"
  | 6 => "Refused"
  | _ => Str.empty
def ft : Nat → Str × Option Str
  | 3 => ("is_whole", none)
  | 36 => ("look_at_outcomes", none)
  | 37 => ("look_at_states", none)
  | 38 => ("is_machine", none)
  | 39 => ("wrong_of", none)
  | 40 => ("walked", none)
  | 41 => ("rows_of", none)
  | 42 => ("machines", none)
  | 43 => ("least_wrong", none)
  | 44 => ("counts", none)
  | 45 => ("fewest_states", none)
  | 13 => ("_law_draws", none)
  | 14 => ("_law_draw", none)
  | 15 => ("_law_same", none)
  | 16 => ("_law_pick", none)
  | 46 => ("_law_machines", none)
  | 47 => ("_law_wrong", none)
  | 48 => ("_law_outcomes", none)
  | 49 => ("_law_refusals", none)
  | 50 => ("law", none)
  | 2 => ("BadPlan", some "__init__")
  | 35 => ("Refused", some "__init__")
  | _ => (Str.empty, none)
def pk : Nat → List Str
  | 3 => P3
  | 36 => P36
  | 37 => P37
  | 38 => P38
  | 39 => P39
  | 40 => P40
  | 41 => P41
  | 42 => P42
  | 43 => P43
  | 44 => P44
  | 45 => P45
  | 13 => P13
  | 14 => P14
  | 15 => P15
  | 16 => P16
  | 46 => P46
  | 47 => P47
  | 48 => P48
  | 49 => P49
  | 50 => P50
  | 2 => P2
  | 35 => P35
  | _ => []
def dd3 : DefD := ⟨("is_whole", none), "is_whole", "is_whole", defArgs s3, defBody s3, defScope s3, [], []⟩
def dd36 : DefD := ⟨("look_at_outcomes", none), "look_at_outcomes", "look_at_outcomes", defArgs s36, defBody s36, defScope s36, [], []⟩
def dd37 : DefD := ⟨("look_at_states", none), "look_at_states", "look_at_states", defArgs s37, defBody s37, defScope s37, [], []⟩
def dd38 : DefD := ⟨("is_machine", none), "is_machine", "is_machine", defArgs s38, defBody s38, defScope s38, [], []⟩
def dd39 : DefD := ⟨("wrong_of", none), "wrong_of", "wrong_of", defArgs s39, defBody s39, defScope s39, [], []⟩
def dd40 : DefD := ⟨("walked", none), "walked", "walked", defArgs s40, defBody s40, defScope s40, [], []⟩
def dd41 : DefD := ⟨("rows_of", none), "rows_of", "rows_of", defArgs s41, defBody s41, defScope s41, [], []⟩
def dd42 : DefD := ⟨("machines", none), "machines", "machines", defArgs s42, defBody s42, defScope s42, [], []⟩
def dd43 : DefD := ⟨("least_wrong", none), "least_wrong", "least_wrong", defArgs s43, defBody s43, defScope s43, [], []⟩
def dd44 : DefD := ⟨("counts", none), "counts", "counts", defArgs s44, defBody s44, defScope s44, [], []⟩
def dd45 : DefD := ⟨("fewest_states", none), "fewest_states", "fewest_states", defArgs s45, defBody s45, defScope s45, [], []⟩
def dd13 : DefD := ⟨("_law_draws", none), "_law_draws", "_law_draws", defArgs s13, defBody s13, defScope s13, [], []⟩
def dd14 : DefD := ⟨("_law_draw", none), "_law_draw", "_law_draw", defArgs s14, defBody s14, defScope s14, [], []⟩
def dd15 : DefD := ⟨("_law_same", none), "_law_same", "_law_same", defArgs s15, defBody s15, defScope s15, [], []⟩
def dd16 : DefD := ⟨("_law_pick", none), "_law_pick", "_law_pick", defArgs s16, defBody s16, defScope s16, [], []⟩
def dd46 : DefD := ⟨("_law_machines", none), "_law_machines", "_law_machines", defArgs s46, defBody s46, defScope s46, [], []⟩
def dd47 : DefD := ⟨("_law_wrong", none), "_law_wrong", "_law_wrong", defArgs s47, defBody s47, defScope s47, [], []⟩
def dd48 : DefD := ⟨("_law_outcomes", none), "_law_outcomes", "_law_outcomes", defArgs s48, defBody s48, defScope s48, [], []⟩
def dd49 : DefD := ⟨("_law_refusals", none), "_law_refusals", "_law_refusals", defArgs s49, defBody s49, defScope s49, [], []⟩
def dd50 : DefD := ⟨("law", none), "law", "law", defArgs s50, defBody s50, defScope s50, [], []⟩
def dd2 : DefD := ⟨("BadPlan", some "__init__"), "__init__", "BadPlan.__init__", defArgs s2, defBody s2, defScope s2, [], []⟩
def dd35 : DefD := ⟨("Refused", some "__init__"), "__init__", "Refused.__init__", defArgs s35, defBody s35, defScope s35, [], []⟩
def lay : Lay := ⟨tb, cn, ft, cq, nas, exl, [(3, dd3), (36, dd36), (37, dd37), (38, dd38), (39, dd39), (40, dd40), (41, dd41), (42, dd42), (43, dd43), (44, dd44), (45, dd45), (13, dd13), (14, dd14), (15, dd15), (16, dd16), (46, dd46), (47, dd47), (48, dd48), (49, dd49), (50, dd50), (2, dd2), (35, dd35)]⟩
section
variable {P : Program} {w : World} {K : PySem.W.Frag} {mg : Str → Option Value} {base : Heap} {C F : Nat → Addr} {FD : Nat → FuncData} {cv : Nat → V} {n : Nat}
def idA : List Nat := []
/- is_whole -/
theorem b_3 (Z : Fac K mg (Glb.mk K C F) FD pk cv tb) (IH : ∀ f, tb.ids.contains f = true → FnOk P w K mg base (L2.CX P w) (3 * n) (F f) (FD f) (pk f) (spI (Glb.mk K C F) T n f)) (IHA : ∀ f, idA.contains f = true → FnA P w K mg base (L2.CX P w) (3 * n) (F f) (FD f) (pk f) (spI (Glb.mk K C F) T n f)) (XH : ∀ (i : Nat) (q : Nat × Str × Nat × List Str), tb.excs[i]? = some q → FnOk P w K mg base (L2.CX P w) 1 (F q.2.2.1) (FD q.2.2.1) (pk q.2.2.1) (spXI K (C q.1) q.2.2.2)) {cdv : Value} {A : Around} {outer : List PySem.Env} {s : Shared} {H : Hp} {E : L2.XK} (hr : Room (3 * n + 2) (A.deeper (envOfC "is_whole" (defScope s3) s.heap.objs.size (F 3) cdv))) :
    PSs (cxOf (L2.CX P w) P w K mg base N3 "is_whole" (defScope s3) (F 3) cdv A outer s H E) (defBody s3) (rdSs (Glb.mk K C F) (spI (Glb.mk K C F) T n) cv xi0 (fun cls dd _ H => E cls dd H) t3.body) :=
  (pss_cons (ps_ret (pe_and (pe_callB call_isi gl_3_isinstance (Z.free 1 "isinstance" rfl) bt_isinstance (pa_cons (pe_var (i := 0) rfl vs_3_value nd_value nc_value) (pa_cons (pe_bltn (v := .ty "int") gl_3_int (Z.free 0 "int" rfl) bt_int rfl nn_int nd_int) pa_nil)) nn_isinstance nd_isinstance) (pe_one (pe_notT (pe_callB call_isi gl_3_isinstance (Z.free 1 "isinstance" rfl) bt_isinstance (pa_cons (pe_var (i := 0) rfl vs_3_value nd_value nc_value) (pa_cons (pe_bltn (v := .ty "bool") gl_3_bool (Z.free 2 "bool" rfl) bt_bool rfl nn_bool nd_bool) pa_nil)) nn_isinstance nd_isinstance)))))
 pss_nil)
/- look_at_outcomes -/
theorem b_36 (Z : Fac K mg (Glb.mk K C F) FD pk cv tb) (IH : ∀ f, tb.ids.contains f = true → FnOk P w K mg base (L2.CX P w) (3 * n) (F f) (FD f) (pk f) (spI (Glb.mk K C F) T n f)) (IHA : ∀ f, idA.contains f = true → FnA P w K mg base (L2.CX P w) (3 * n) (F f) (FD f) (pk f) (spI (Glb.mk K C F) T n f)) (XH : ∀ (i : Nat) (q : Nat × Str × Nat × List Str), tb.excs[i]? = some q → FnOk P w K mg base (L2.CX P w) 1 (F q.2.2.1) (FD q.2.2.1) (pk q.2.2.1) (spXI K (C q.1) q.2.2.2)) {cdv : Value} {A : Around} {outer : List PySem.Env} {s : Shared} {H : Hp} {E : L2.XK} (hr : Room (3 * n + 2) (A.deeper (envOfC "look_at_outcomes" (defScope s36) s.heap.objs.size (F 36) cdv))) :
    PSs (cxOf (L2.CX P w) P w K mg base N36 "look_at_outcomes" (defScope s36) (F 36) cdv A outer s H E) (defBody s36) (rdSs (Glb.mk K C F) (spI (Glb.mk K C F) T n) cv xi0 (fun cls dd _ H => E cls dd H) t36.body) :=
  (pss_cons (ps_if (PW.pt (pw_or (pt_not (pt_val (pe_callB call_isi gl_36_isinstance (Z.free 1 "isinstance" rfl) bt_isinstance (pa_cons (pe_var (i := 0) rfl vs_36_value nd_value nc_value) (pa_cons (pe_bltn (v := .ty "tuple") gl_36_tuple (Z.free 4 "tuple" rfl) bt_tuple rfl nn_tuple nd_tuple) pa_nil)) nn_isinstance nd_isinstance))) (pw_or1 (pt_not (pt_truth (pe_callB (cb_all rfl) gl_36_all (Z.free 5 "all" rfl) bt_all (pa_cons (pe_lc (own := [("one", 1)]) rfl sc_36.nd (pi_seq (pi_list (pe_var (i := 0) rfl vs_36_value nd_value nc_value)) (pi_tup (pe_var (i := 0) rfl vs_36_value nd_value nc_value)) (pi_str (pe_var (i := 0) rfl vs_36_value nd_value nc_value))) (blkOk_by (by kernel_rfl)) (fun _ _ _ _ _ => (pg_name (i := 1) sc_36.nd rfl (Or.inl rfl) (.inr rfl))) (fun _ _ _ _ _ => pts_nil) (fun _ _ _ _ _ => (pe_or (pe_cmpR op_cmp_is (pv 1 rfl (by first | exact Or.inl rfl | exact Or.inr (Or.inl rfl) | exact Or.inr (Or.inr rfl)) nd_one nc_one) pe_bl (nomark _)) (pe_one (pe_cmpR op_cmp_is (pv 1 rfl (by first | exact Or.inl rfl | exact Or.inr (Or.inl rfl) | exact Or.inr (Or.inr rfl)) nd_one nc_one) pe_bl (nomark _)))))) pa_nil) nn_all nd_all) (by intro _; rfl)))))) (pss_cons (by exact ps_raiseI rfl (takes_of rfl rfl rfl rfl) (Z.exc 1 (3, "BadPlan", 2, ["word"]) rfl).1 (Z.exc 1 (3, "BadPlan", 2, ["word"]) rfl).2.1 (Z.exc 1 (3, "BadPlan", 2, ["word"]) rfl).2.2.1 (XH 1 (3, "BadPlan", 2, ["word"]) rfl) (hr.mono (by omega)) (Z.bnd 2 (.inr rfl)) (fun _ _ _ _ _ _ _ h => noCX h) (by exact gl_36_BadPlan) (Z.exc 1 (3, "BadPlan", 2, ["word"]) rfl).2.2.2 (pa_cons pe_str pa_nil) (by decide) nd_BadPlan)
 pss_nil) pss_nil)
 (pss_cons (ps_if (pt_cmpR op_cmp_gt (pe_callB cb_len gl_36_len (Z.free 3 "len" rfl) bt_len (pa_cons (pe_var (i := 0) rfl vs_36_value nd_value nc_value) pa_nil) nn_len nd_len) (pe_glob gl_36_MOST_OUTCOMES (Z.int 0 ("MOST_OUTCOMES", 200) rfl).choose_spec ⟨_, rfl⟩ nd_MOST_OUTCOMES) (nomark _)) (pss_cons (by exact ps_raiseI rfl (takes_of rfl rfl rfl rfl) (Z.exc 0 (6, "Refused", 35, ["word"]) rfl).1 (Z.exc 0 (6, "Refused", 35, ["word"]) rfl).2.1 (Z.exc 0 (6, "Refused", 35, ["word"]) rfl).2.2.1 (XH 0 (6, "Refused", 35, ["word"]) rfl) (hr.mono (by omega)) (Z.bnd 35 (.inr rfl)) (fun _ _ _ _ _ _ _ h => noCX h) (by exact gl_36_Refused) (Z.exc 0 (6, "Refused", 35, ["word"]) rfl).2.2.2 (pa_cons pe_str pa_nil) (by decide) nd_Refused)
 pss_nil) pss_nil)
 pss_nil))
/- look_at_states -/
theorem b_37 (Z : Fac K mg (Glb.mk K C F) FD pk cv tb) (IH : ∀ f, tb.ids.contains f = true → FnOk P w K mg base (L2.CX P w) (3 * n) (F f) (FD f) (pk f) (spI (Glb.mk K C F) T n f)) (IHA : ∀ f, idA.contains f = true → FnA P w K mg base (L2.CX P w) (3 * n) (F f) (FD f) (pk f) (spI (Glb.mk K C F) T n f)) (XH : ∀ (i : Nat) (q : Nat × Str × Nat × List Str), tb.excs[i]? = some q → FnOk P w K mg base (L2.CX P w) 1 (F q.2.2.1) (FD q.2.2.1) (pk q.2.2.1) (spXI K (C q.1) q.2.2.2)) {cdv : Value} {A : Around} {outer : List PySem.Env} {s : Shared} {H : Hp} {E : L2.XK} (hr : Room (3 * n + 2) (A.deeper (envOfC "look_at_states" (defScope s37) s.heap.objs.size (F 37) cdv))) :
    PSs (cxOf (L2.CX P w) P w K mg base N37 "look_at_states" (defScope s37) (F 37) cdv A outer s H E) (defBody s37) (rdSs (Glb.mk K C F) (spI (Glb.mk K C F) T n) cv xi0 (fun cls dd _ H => E cls dd H) t37.body) :=
  (pss_cons (ps_if (PW.pt (pw_or (pt_not (pt_truth (pe_callS (IH 3 rfl) (hr.mono (by omega)) gl_37_is_whole (Z.fn 0 (3, "is_whole") rfl) (Z.kp 3 rfl) (Z.bnd 3 (.inl rfl)) (fun σ => passAt (takes_of rfl rfl rfl rfl) σ) (pa_cons (pe_var (i := 0) rfl vs_37_value nd_value nc_value) pa_nil) nd_is_whole) (by intro _; rfl))) (pw_or1 (pt_not (pt_chain op_cmp_le op_cmp_le pe_int (pe_var (i := 0) rfl vs_37_value nd_value nc_value) (pe_glob gl_37_MOST_STATES (Z.int 1 ("MOST_STATES", 3) rfl).choose_spec ⟨_, rfl⟩ nd_MOST_STATES)))))) (pss_cons (by exact ps_raiseI rfl (takes_of rfl rfl rfl rfl) (Z.exc 1 (3, "BadPlan", 2, ["word"]) rfl).1 (Z.exc 1 (3, "BadPlan", 2, ["word"]) rfl).2.1 (Z.exc 1 (3, "BadPlan", 2, ["word"]) rfl).2.2.1 (XH 1 (3, "BadPlan", 2, ["word"]) rfl) (hr.mono (by omega)) (Z.bnd 2 (.inr rfl)) (fun _ _ _ _ _ _ _ h => noCX h) (by exact gl_37_BadPlan) (Z.exc 1 (3, "BadPlan", 2, ["word"]) rfl).2.2.2 (pa_cons pe_str pa_nil) (by decide) nd_BadPlan)
 pss_nil) pss_nil)
 pss_nil)
/- is_machine -/
theorem b_38 (Z : Fac K mg (Glb.mk K C F) FD pk cv tb) (IH : ∀ f, tb.ids.contains f = true → FnOk P w K mg base (L2.CX P w) (3 * n) (F f) (FD f) (pk f) (spI (Glb.mk K C F) T n f)) (IHA : ∀ f, idA.contains f = true → FnA P w K mg base (L2.CX P w) (3 * n) (F f) (FD f) (pk f) (spI (Glb.mk K C F) T n f)) (XH : ∀ (i : Nat) (q : Nat × Str × Nat × List Str), tb.excs[i]? = some q → FnOk P w K mg base (L2.CX P w) 1 (F q.2.2.1) (FD q.2.2.1) (pk q.2.2.1) (spXI K (C q.1) q.2.2.2)) {cdv : Value} {A : Around} {outer : List PySem.Env} {s : Shared} {H : Hp} {E : L2.XK} (hr : Room (3 * n + 2) (A.deeper (envOfC "is_machine" (defScope s38) s.heap.objs.size (F 38) cdv))) :
    PSs (cxOf (L2.CX P w) P w K mg base N38 "is_machine" (defScope s38) (F 38) cdv A outer s H E) (defBody s38) (rdSs (Glb.mk K C F) (spI (Glb.mk K C F) T n) cv xi0 (fun cls dd _ H => E cls dd H) t38.body) :=
  (pss_cons (ps_if (PW.pt (pw_or (pt_not (pt_val (pe_callB call_isi gl_38_isinstance (Z.free 1 "isinstance" rfl) bt_isinstance (pa_cons (pe_var (i := 0) rfl vs_38_value nd_value nc_value) (pa_cons (pe_bltn (v := .ty "tuple") gl_38_tuple (Z.free 4 "tuple" rfl) bt_tuple rfl nn_tuple nd_tuple) pa_nil)) nn_isinstance nd_isinstance))) (pw_or (pt_cmpR (op_cmp_ne (hu64 hr)) (pe_callB cb_len gl_38_len (Z.free 3 "len" rfl) bt_len (pa_cons (pe_var (i := 0) rfl vs_38_value nd_value nc_value) pa_nil) nn_len nd_len) pe_int (nomark _)) (pw_or1 (pt_not (pt_truth (pe_callB (cb_all rfl) gl_38_all (Z.free 5 "all" rfl) bt_all (pa_cons (pe_lc (own := [("part", 4)]) rfl sc_38.nd (pi_seq (pi_list (pe_var (i := 0) rfl vs_38_value nd_value nc_value)) (pi_tup (pe_var (i := 0) rfl vs_38_value nd_value nc_value)) (pi_str (pe_var (i := 0) rfl vs_38_value nd_value nc_value))) (blkOk_by (by kernel_rfl)) (fun _ _ _ _ _ => (pg_name (i := 4) sc_38.nd rfl (Or.inl rfl) (.inr rfl))) (fun _ _ _ _ _ => pts_nil) (fun _ _ _ _ _ => (pe_callB call_isi (by rfl) (Z.free 1 "isinstance" rfl) bt_isinstance (pa_cons (pv 4 rfl (by first | exact Or.inl rfl | exact Or.inr (Or.inl rfl) | exact Or.inr (Or.inr rfl)) nd_part nc_part) (pa_cons (pe_bltn (v := .ty "tuple") (by rfl) (Z.free 4 "tuple" rfl) bt_tuple rfl nn_tuple nd_tuple) pa_nil)) nn_isinstance nd_isinstance))) pa_nil) nn_all nd_all) (by intro _; rfl))))))) (pss_cons (ps_ret pe_bl)
 pss_nil) pss_nil)
 (pss_cons (ps_asg (pe_var (i := 0) rfl vs_38_value nd_value nc_value) (pg_tup rfl (pgs_cons (pg_name (i := 1) sc_38.nd rfl (Or.inr kd_38_told) (.inl rfl)) (pgs_cons (pg_name (i := 2) sc_38.nd rfl (Or.inl kd_38_ways) (.inl rfl)) pgs_nil))))
 (pss_cons (ps_if (PW.pt (pw_or (pt_not (pt_chain op_cmp_le op_cmp_le pe_int (pe_callB cb_len gl_38_len (Z.free 3 "len" rfl) bt_len (pa_cons (pe_var (i := 1) rfl vs_38_told nd_told nc_told) pa_nil) nn_len nd_len) (pe_glob gl_38_MOST_STATES (Z.int 1 ("MOST_STATES", 3) rfl).choose_spec ⟨_, rfl⟩ nd_MOST_STATES))) (pw_or1 (pt_cmpR (op_cmp_ne (hu64 hr)) (pe_callB cb_len gl_38_len (Z.free 3 "len" rfl) bt_len (pa_cons (pe_var (i := 2) rfl vs_38_ways nd_ways nc_ways) pa_nil) nn_len nd_len) (pe_callB cb_len gl_38_len (Z.free 3 "len" rfl) bt_len (pa_cons (pe_var (i := 1) rfl vs_38_told nd_told nc_told) pa_nil) nn_len nd_len) (nomark _))))) (pss_cons (ps_ret pe_bl)
 pss_nil) pss_nil)
 (pss_cons (ps_if (pt_not (pt_truth (pe_callB (cb_all rfl) gl_38_all (Z.free 5 "all" rfl) bt_all (pa_cons (pe_lc (own := [("one", 5)]) rfl sc_38.nd (pi_seq (pi_list (pe_var (i := 1) rfl vs_38_told nd_told nc_told)) (pi_tup (pe_var (i := 1) rfl vs_38_told nd_told nc_told)) (pi_str (pe_var (i := 1) rfl vs_38_told nd_told nc_told))) (blkOk_by (by kernel_rfl)) (fun _ _ _ _ _ => (pg_name (i := 5) sc_38.nd rfl (Or.inl rfl) (.inr rfl))) (fun _ _ _ _ _ => pts_nil) (fun _ _ _ _ _ => (pe_or (pe_cmpR op_cmp_is (pv 5 rfl (by first | exact Or.inl rfl | exact Or.inr (Or.inl rfl) | exact Or.inr (Or.inr rfl)) nd_one nc_one) pe_bl (nomark _)) (pe_one (pe_cmpR op_cmp_is (pv 5 rfl (by first | exact Or.inl rfl | exact Or.inr (Or.inl rfl) | exact Or.inr (Or.inr rfl)) nd_one nc_one) pe_bl (nomark _)))))) pa_nil) nn_all nd_all) (by intro _; rfl))) (pss_cons (ps_ret pe_bl)
 pss_nil) pss_nil)
 (pss_cons (ps_for (passes_of rfl) rfl (pi_seq (pi_list (pe_var (i := 2) rfl vs_38_ways nd_ways nc_ways)) (pi_tup (pe_var (i := 2) rfl vs_38_ways nd_ways nc_ways)) (pi_str (pe_var (i := 2) rfl vs_38_ways nd_ways nc_ways))) (pg_name (i := 3) sc_38.nd rfl (Or.inl kd_38_way) (.inl rfl)) (pss_cons (ps_if (PW.pt (pw_or (pt_not (pt_val (pe_callB call_isi gl_38_isinstance (Z.free 1 "isinstance" rfl) bt_isinstance (pa_cons (pe_var (i := 3) rfl vs_38_way nd_way nc_way) (pa_cons (pe_bltn (v := .ty "tuple") gl_38_tuple (Z.free 4 "tuple" rfl) bt_tuple rfl nn_tuple nd_tuple) pa_nil)) nn_isinstance nd_isinstance))) (pw_or1 (pt_cmpR (op_cmp_ne (hu64 hr)) (pe_callB cb_len gl_38_len (Z.free 3 "len" rfl) bt_len (pa_cons (pe_var (i := 3) rfl vs_38_way nd_way nc_way) pa_nil) nn_len nd_len) pe_int (nomark _))))) (pss_cons (ps_ret pe_bl)
 pss_nil) pss_nil)
 (pss_cons (ps_if (pt_not (pt_truth (pe_callB (cb_all rfl) gl_38_all (Z.free 5 "all" rfl) bt_all (pa_cons (pe_lc (own := [("one", 5)]) rfl sc_38.nd (pi_seq (pi_list (pe_var (i := 3) rfl vs_38_way nd_way nc_way)) (pi_tup (pe_var (i := 3) rfl vs_38_way nd_way nc_way)) (pi_str (pe_var (i := 3) rfl vs_38_way nd_way nc_way))) (blkOk_by (by kernel_rfl)) (fun _ _ _ _ _ => (pg_name (i := 5) sc_38.nd rfl (Or.inl rfl) (.inr rfl))) (fun _ _ _ _ _ => pts_nil) (fun _ _ _ _ _ => (pe_and (pe_callS (IH 3 rfl) (hr.mono (by omega)) (by rfl) (Z.fn 0 (3, "is_whole") rfl) (Z.kp 3 rfl) (Z.bnd 3 (.inl rfl)) (fun σ => passAt takesF σ) (pa_cons (pv 5 rfl (by first | exact Or.inl rfl | exact Or.inr (Or.inl rfl) | exact Or.inr (Or.inr rfl)) nd_one nc_one) pa_nil) nd_is_whole) (pe_one (pe_chain op_cmp_le op_cmp_lt pe_int (pv 5 rfl (by first | exact Or.inl rfl | exact Or.inr (Or.inl rfl) | exact Or.inr (Or.inr rfl)) nd_one nc_one) (pe_callB cb_len (by rfl) (Z.free 3 "len" rfl) bt_len (pa_cons (pv 1 rfl (by first | exact Or.inl rfl | exact Or.inr (Or.inl rfl) | exact Or.inr (Or.inr rfl)) nd_told nc_told) pa_nil) nn_len nd_len)))))) pa_nil) nn_all nd_all) (by intro _; rfl))) (pss_cons (ps_ret pe_bl)
 pss_nil) pss_nil)
 pss_nil)))
 (pss_cons (ps_ret pe_bl)
 pss_nil))))))
/- wrong_of -/
theorem b_39 (Z : Fac K mg (Glb.mk K C F) FD pk cv tb) (IH : ∀ f, tb.ids.contains f = true → FnOk P w K mg base (L2.CX P w) (3 * n) (F f) (FD f) (pk f) (spI (Glb.mk K C F) T n f)) (IHA : ∀ f, idA.contains f = true → FnA P w K mg base (L2.CX P w) (3 * n) (F f) (FD f) (pk f) (spI (Glb.mk K C F) T n f)) (XH : ∀ (i : Nat) (q : Nat × Str × Nat × List Str), tb.excs[i]? = some q → FnOk P w K mg base (L2.CX P w) 1 (F q.2.2.1) (FD q.2.2.1) (pk q.2.2.1) (spXI K (C q.1) q.2.2.2)) {cdv : Value} {A : Around} {outer : List PySem.Env} {s : Shared} {H : Hp} {E : L2.XK} (hr : Room (3 * n + 2) (A.deeper (envOfC "wrong_of" (defScope s39) s.heap.objs.size (F 39) cdv))) :
    PSs (cxOf (L2.CX P w) P w K mg base N39 "wrong_of" (defScope s39) (F 39) cdv A outer s H E) (defBody s39) (rdSs (Glb.mk K C F) (spI (Glb.mk K C F) T n) cv xi0 (fun cls dd _ H => E cls dd H) t39.body) :=
  (pss_cons (ps_if (pt_not (pt_truth (pe_callS (IH 38 rfl) (hr.mono (by omega)) gl_39_is_machine (Z.fn 3 (38, "is_machine") rfl) (Z.kp 38 rfl) (Z.bnd 38 (.inl rfl)) (fun σ => passAt (takes_of rfl rfl rfl rfl) σ) (pa_cons (pe_var (i := 0) rfl vs_39_machine nd_machine nc_machine) pa_nil) nd_is_machine) (by intro _; rfl))) (pss_cons (by exact ps_raiseI rfl (takes_of rfl rfl rfl rfl) (Z.exc 1 (3, "BadPlan", 2, ["word"]) rfl).1 (Z.exc 1 (3, "BadPlan", 2, ["word"]) rfl).2.1 (Z.exc 1 (3, "BadPlan", 2, ["word"]) rfl).2.2.1 (XH 1 (3, "BadPlan", 2, ["word"]) rfl) (hr.mono (by omega)) (Z.bnd 2 (.inr rfl)) (fun _ _ _ _ _ _ _ h => noCX h) (by exact gl_39_BadPlan) (Z.exc 1 (3, "BadPlan", 2, ["word"]) rfl).2.2.2 (pa_cons pe_str pa_nil) (by decide) nd_BadPlan)
 pss_nil) pss_nil)
 (pss_cons (ps_expr (pe_callS (IH 36 rfl) (hr.mono (by omega)) gl_39_look_at_outcomes (Z.fn 2 (36, "look_at_outcomes") rfl) (Z.kp 36 rfl) (Z.bnd 36 (.inl rfl)) (fun σ => passAt (takes_of rfl rfl rfl rfl) σ) (pa_cons (pe_var (i := 1) rfl vs_39_outcomes nd_outcomes nc_outcomes) pa_nil) nd_look_at_outcomes))
 (pss_cons (ps_ret (pe_callS (IH 40 rfl) (hr.mono (by omega)) gl_39_walked (Z.fn 1 (40, "walked") rfl) (Z.kp 40 rfl) (Z.bnd 40 (.inl rfl)) (fun σ => passAt (takes_of rfl rfl rfl rfl) σ) (pa_cons (pe_var (i := 0) rfl vs_39_machine nd_machine nc_machine) (pa_cons (pe_var (i := 1) rfl vs_39_outcomes nd_outcomes nc_outcomes) pa_nil)) nd_walked))
 pss_nil)))
/- walked -/
theorem b_40 (Z : Fac K mg (Glb.mk K C F) FD pk cv tb) (IH : ∀ f, tb.ids.contains f = true → FnOk P w K mg base (L2.CX P w) (3 * n) (F f) (FD f) (pk f) (spI (Glb.mk K C F) T n f)) (IHA : ∀ f, idA.contains f = true → FnA P w K mg base (L2.CX P w) (3 * n) (F f) (FD f) (pk f) (spI (Glb.mk K C F) T n f)) (XH : ∀ (i : Nat) (q : Nat × Str × Nat × List Str), tb.excs[i]? = some q → FnOk P w K mg base (L2.CX P w) 1 (F q.2.2.1) (FD q.2.2.1) (pk q.2.2.1) (spXI K (C q.1) q.2.2.2)) {cdv : Value} {A : Around} {outer : List PySem.Env} {s : Shared} {H : Hp} {E : L2.XK} (hr : Room (3 * n + 2) (A.deeper (envOfC "walked" (defScope s40) s.heap.objs.size (F 40) cdv))) :
    PSs (cxOf (L2.CX P w) P w K mg base N40 "walked" (defScope s40) (F 40) cdv A outer s H E) (defBody s40) (rdSs (Glb.mk K C F) (spI (Glb.mk K C F) T n) cv xi0 (fun cls dd _ H => E cls dd H) t40.body) :=
  (pss_cons (ps_asg (pe_var (i := 0) rfl vs_40_machine nd_machine nc_machine) (pg_tup rfl (pgs_cons (pg_name (i := 2) sc_40.nd rfl (Or.inl kd_40_told) (.inl rfl)) (pgs_cons (pg_name (i := 3) sc_40.nd rfl (Or.inl kd_40_ways) (.inl rfl)) pgs_nil))))
 (pss_cons (ps_asg (pe_tup (pa_cons pe_int (pa_cons pe_int pa_nil))) (pg_tup rfl (pgs_cons (pg_name (i := 4) sc_40.nd rfl (Or.inl kd_40_state) (.inl rfl)) (pgs_cons (pg_name (i := 5) sc_40.nd rfl (Or.inl kd_40_wrong) (.inl rfl)) pgs_nil))))
 (pss_cons (ps_for (passes_of rfl) rfl (pi_seq (pi_list (pe_var (i := 1) rfl vs_40_outcomes nd_outcomes nc_outcomes)) (pi_tup (pe_var (i := 1) rfl vs_40_outcomes nd_outcomes nc_outcomes)) (pi_str (pe_var (i := 1) rfl vs_40_outcomes nd_outcomes nc_outcomes))) (pg_name (i := 6) sc_40.nd rfl (Or.inl kd_40_taken) (.inl rfl)) (pss_cons (ps_aug (i := 5) sc_40.nd rfl (Or.inl kd_40_wrong) (pe_callTy cb_int gl_40_int (Z.free 0 "int" rfl) bt_int (pa_cons (pe_cmpR (op_cmp_ne (hu64 hr)) (pe_ix (ix_X (hu65 hr)) (pe_var (i := 2) rfl vs_40_told nd_told nc_told) (pe_var (i := 4) rfl vs_40_state nd_state nc_state) (fun _ _ => rfl)) (pe_var (i := 6) rfl vs_40_taken nd_taken nc_taken) (nomark _)) pa_nil) nn_int nd_int) aug_add (.inl rfl))
 (pss_cons (ps_set (i := 4) sc_40.nd rfl (Or.inl kd_40_state) (pe_ix (ix_X (hu65 hr)) (pe_ix (ix_X (hu65 hr)) (pe_var (i := 3) rfl vs_40_ways nd_ways nc_ways) (pe_var (i := 4) rfl vs_40_state nd_state nc_state) (fun _ _ => rfl)) (pe_callTy cb_int gl_40_int (Z.free 0 "int" rfl) bt_int (pa_cons (pe_var (i := 6) rfl vs_40_taken nd_taken nc_taken) pa_nil) nn_int nd_int) (fun _ _ => rfl)) (by rfl) (.inl rfl))
 pss_nil)))
 (pss_cons (ps_ret (pe_var (i := 5) rfl vs_40_wrong nd_wrong nc_wrong))
 pss_nil))))
/- rows_of -/
theorem b_41 (Z : Fac K mg (Glb.mk K C F) FD pk cv tb) (IH : ∀ f, tb.ids.contains f = true → FnOk P w K mg base (L2.CX P w) (3 * n) (F f) (FD f) (pk f) (spI (Glb.mk K C F) T n f)) (IHA : ∀ f, idA.contains f = true → FnA P w K mg base (L2.CX P w) (3 * n) (F f) (FD f) (pk f) (spI (Glb.mk K C F) T n f)) (XH : ∀ (i : Nat) (q : Nat × Str × Nat × List Str), tb.excs[i]? = some q → FnOk P w K mg base (L2.CX P w) 1 (F q.2.2.1) (FD q.2.2.1) (pk q.2.2.1) (spXI K (C q.1) q.2.2.2)) {cdv : Value} {A : Around} {outer : List PySem.Env} {s : Shared} {H : Hp} {E : L2.XK} (hr : Room (3 * n + 2) (A.deeper (envOfC "rows_of" (defScope s41) s.heap.objs.size (F 41) cdv))) :
    PSs (cxOf (L2.CX P w) P w K mg base N41 "rows_of" (defScope s41) (F 41) cdv A outer s H E) (defBody s41) (rdSs (Glb.mk K C F) (spI (Glb.mk K C F) T n) cv xi0 (fun cls dd _ H => E cls dd H) t41.body) :=
  (pss_cons (ps_set (i := 2) sc_41.nd rfl (Or.inl kd_41_found) (pe_lst (pa_cons (pe_tup pa_nil) pa_nil)) (by rfl) (.inl rfl))
 (pss_cons (ps_for (passes_of rfl) rfl (pi_range1 gl_41_range (Z.free 6 "range" rfl) (pa_cons (pe_var (i := 1) rfl vs_41_many nd_many nc_many) pa_nil)) (pg_name (i := 3) sc_41.nd rfl (Or.inl kd_41__) (.inl rfl)) (pss_cons (ps_setLc2 (i := 2) (own := [("row", 4), ("one", 5)]) (vs1 := [5]) rfl sc_41.nd rfl kd_41_found (sw_true rfl kd_41_found rfl (by decide +kernel)) (pi_seq (pi_list (pe_var (i := 2) rfl vs_41_found nd_found nc_found)) (pi_tup (pe_var (i := 2) rfl vs_41_found nd_found nc_found)) (pi_str (pe_var (i := 2) rfl vs_41_found nd_found nc_found))) (blkOk_by (by kernel_rfl)) (by decide) (fun _ _ _ _ _ => (pg_name (i := 4) sc_41.nd rfl (Or.inl rfl) (.inr rfl))) (fun _ _ _ _ _ => pts_nil) (fun _ _ _ _ _ => (pi_seq (pi_list (pv 0 rfl (by first | exact Or.inl rfl | exact Or.inr (Or.inl rfl) | exact Or.inr (Or.inr rfl)) nd_things nc_things)) (pi_tup (pv 0 rfl (by first | exact Or.inl rfl | exact Or.inr (Or.inl rfl) | exact Or.inr (Or.inr rfl)) nd_things nc_things)) (pi_str (pv 0 rfl (by first | exact Or.inl rfl | exact Or.inr (Or.inl rfl) | exact Or.inr (Or.inr rfl)) nd_things nc_things)))) (fun _ _ _ _ _ => (pg_name (i := 5) sc_41.nd rfl (Or.inl rfl) (.inr rfl))) (fun _ _ _ _ _ => pts_nil) (fun _ _ _ _ _ => (pe_op op_bin_add (pv 4 rfl (by first | exact Or.inl rfl | exact Or.inr (Or.inl rfl) | exact Or.inr (Or.inr rfl)) nd_row nc_row) (pe_tup (pa_cons (pv 5 rfl (by first | exact Or.inl rfl | exact Or.inr (Or.inl rfl) | exact Or.inr (Or.inr rfl)) nd_one nc_one) pa_nil)))))
 pss_nil))
 (pss_cons (ps_ret (pe_var (i := 2) rfl vs_41_found nd_found nc_found))
 pss_nil)))
/- machines -/
theorem b_42 (Z : Fac K mg (Glb.mk K C F) FD pk cv tb) (IH : ∀ f, tb.ids.contains f = true → FnOk P w K mg base (L2.CX P w) (3 * n) (F f) (FD f) (pk f) (spI (Glb.mk K C F) T n f)) (IHA : ∀ f, idA.contains f = true → FnA P w K mg base (L2.CX P w) (3 * n) (F f) (FD f) (pk f) (spI (Glb.mk K C F) T n f)) (XH : ∀ (i : Nat) (q : Nat × Str × Nat × List Str), tb.excs[i]? = some q → FnOk P w K mg base (L2.CX P w) 1 (F q.2.2.1) (FD q.2.2.1) (pk q.2.2.1) (spXI K (C q.1) q.2.2.2)) {cdv : Value} {A : Around} {outer : List PySem.Env} {s : Shared} {H : Hp} {E : L2.XK} (hr : Room (3 * n + 2) (A.deeper (envOfC "machines" (defScope s42) s.heap.objs.size (F 42) cdv))) :
    PSs (cxOf (L2.CX P w) P w K mg base N42 "machines" (defScope s42) (F 42) cdv A outer s H E) (defBody s42) (rdSs (Glb.mk K C F) (spI (Glb.mk K C F) T n) cv xi0 (fun cls dd _ H => E cls dd H) t42.body) :=
  (pss_cons (ps_expr (pe_callS (IH 37 rfl) (hr.mono (by omega)) gl_42_look_at_states (Z.fn 5 (37, "look_at_states") rfl) (Z.kp 37 rfl) (Z.bnd 37 (.inl rfl)) (fun σ => passAt (takes_of rfl rfl rfl rfl) σ) (pa_cons (pe_var (i := 0) rfl vs_42_states nd_states nc_states) pa_nil) nd_look_at_states))
 (pss_cons (ps_set (i := 1) sc_42.nd rfl (Or.inr kd_42_ways) (pe_callS (IH 41 rfl) (hr.mono (by omega)) gl_42_rows_of (Z.fn 4 (41, "rows_of") rfl) (Z.kp 41 rfl) (Z.bnd 41 (.inl rfl)) (fun σ => passAt (takes_of rfl rfl rfl rfl) σ) (pa_cons (pe_callS (IH 41 rfl) (hr.mono (by omega)) gl_42_rows_of (Z.fn 4 (41, "rows_of") rfl) (Z.kp 41 rfl) (Z.bnd 41 (.inl rfl)) (fun σ => passAt (takes_of rfl rfl rfl rfl) σ) (pa_cons (pe_listRg rfl (by exact gl_42_list) (Z.free 7 "list" rfl) (prg_1 (by exact gl_42_range) (Z.free 6 "range" rfl) (pe_var (i := 0) rfl vs_42_states nd_states nc_states))) (pa_cons pe_int pa_nil)) nd_rows_of) (pa_cons (pe_var (i := 0) rfl vs_42_states nd_states nc_states) pa_nil)) nd_rows_of) (by rfl) (.inl rfl))
 (pss_cons (ps_ret (pe_callTy cb_tuple gl_42_tuple (Z.free 4 "tuple" rfl) bt_tuple (pa_cons (pe_lc2 (own := [("told", 2), ("way", 3)]) (vs1 := [3]) rfl sc_42.nd (pi_seq (pi_list (pe_callS (IH 41 rfl) (hr.mono (by omega)) gl_42_rows_of (Z.fn 4 (41, "rows_of") rfl) (Z.kp 41 rfl) (Z.bnd 41 (.inl rfl)) (fun σ => passAt (takes_of rfl rfl rfl rfl) σ) (pa_cons (pe_tup (pa_cons pe_bl (pa_cons pe_bl pa_nil))) (pa_cons (pe_var (i := 0) rfl vs_42_states nd_states nc_states) pa_nil)) nd_rows_of)) (pi_tup (pe_callS (IH 41 rfl) (hr.mono (by omega)) gl_42_rows_of (Z.fn 4 (41, "rows_of") rfl) (Z.kp 41 rfl) (Z.bnd 41 (.inl rfl)) (fun σ => passAt (takes_of rfl rfl rfl rfl) σ) (pa_cons (pe_tup (pa_cons pe_bl (pa_cons pe_bl pa_nil))) (pa_cons (pe_var (i := 0) rfl vs_42_states nd_states nc_states) pa_nil)) nd_rows_of)) (pi_str (pe_callS (IH 41 rfl) (hr.mono (by omega)) gl_42_rows_of (Z.fn 4 (41, "rows_of") rfl) (Z.kp 41 rfl) (Z.bnd 41 (.inl rfl)) (fun σ => passAt (takes_of rfl rfl rfl rfl) σ) (pa_cons (pe_tup (pa_cons pe_bl (pa_cons pe_bl pa_nil))) (pa_cons (pe_var (i := 0) rfl vs_42_states nd_states nc_states) pa_nil)) nd_rows_of))) (blkOk_by (by kernel_rfl)) (by decide) (fun _ _ _ _ _ => (pg_name (i := 2) sc_42.nd rfl (Or.inl rfl) (.inr rfl))) (fun _ _ _ _ _ => pts_nil) (fun _ _ _ _ _ => (pi_seq (pi_list (pv 1 rfl (by first | exact Or.inl rfl | exact Or.inr (Or.inl rfl) | exact Or.inr (Or.inr rfl)) nd_ways nc_ways)) (pi_tup (pv 1 rfl (by first | exact Or.inl rfl | exact Or.inr (Or.inl rfl) | exact Or.inr (Or.inr rfl)) nd_ways nc_ways)) (pi_str (pv 1 rfl (by first | exact Or.inl rfl | exact Or.inr (Or.inl rfl) | exact Or.inr (Or.inr rfl)) nd_ways nc_ways)))) (fun _ _ _ _ _ => (pg_name (i := 3) sc_42.nd rfl (Or.inl rfl) (.inr rfl))) (fun _ _ _ _ _ => pts_nil) (fun _ _ _ _ _ => (pe_tup (pa_cons (pv 2 rfl (by first | exact Or.inl rfl | exact Or.inr (Or.inl rfl) | exact Or.inr (Or.inr rfl)) nd_told nc_told) (pa_cons (pv 3 rfl (by first | exact Or.inl rfl | exact Or.inr (Or.inl rfl) | exact Or.inr (Or.inr rfl)) nd_way nc_way) pa_nil))))) pa_nil) nn_tuple nd_tuple))
 pss_nil)))
/- least_wrong -/
theorem b_43 (Z : Fac K mg (Glb.mk K C F) FD pk cv tb) (IH : ∀ f, tb.ids.contains f = true → FnOk P w K mg base (L2.CX P w) (3 * n) (F f) (FD f) (pk f) (spI (Glb.mk K C F) T n f)) (IHA : ∀ f, idA.contains f = true → FnA P w K mg base (L2.CX P w) (3 * n) (F f) (FD f) (pk f) (spI (Glb.mk K C F) T n f)) (XH : ∀ (i : Nat) (q : Nat × Str × Nat × List Str), tb.excs[i]? = some q → FnOk P w K mg base (L2.CX P w) 1 (F q.2.2.1) (FD q.2.2.1) (pk q.2.2.1) (spXI K (C q.1) q.2.2.2)) {cdv : Value} {A : Around} {outer : List PySem.Env} {s : Shared} {H : Hp} {E : L2.XK} (hr : Room (3 * n + 2) (A.deeper (envOfC "least_wrong" (defScope s43) s.heap.objs.size (F 43) cdv))) :
    PSs (cxOf (L2.CX P w) P w K mg base N43 "least_wrong" (defScope s43) (F 43) cdv A outer s H E) (defBody s43) (rdSs (Glb.mk K C F) (spI (Glb.mk K C F) T n) cv xi0 (fun cls dd _ H => E cls dd H) t43.body) :=
  (pss_cons (ps_expr (pe_callS (IH 36 rfl) (hr.mono (by omega)) gl_43_look_at_outcomes (Z.fn 2 (36, "look_at_outcomes") rfl) (Z.kp 36 rfl) (Z.bnd 36 (.inl rfl)) (fun σ => passAt (takes_of rfl rfl rfl rfl) σ) (pa_cons (pe_var (i := 0) rfl vs_43_outcomes nd_outcomes nc_outcomes) pa_nil) nd_look_at_outcomes))
 (pss_cons (ps_expr (pe_callS (IH 37 rfl) (hr.mono (by omega)) gl_43_look_at_states (Z.fn 5 (37, "look_at_states") rfl) (Z.kp 37 rfl) (Z.bnd 37 (.inl rfl)) (fun σ => passAt (takes_of rfl rfl rfl rfl) σ) (pa_cons (pe_var (i := 1) rfl vs_43_states nd_states nc_states) pa_nil) nd_look_at_states))
 (pss_cons (ps_set (i := 2) sc_43.nd rfl (Or.inl kd_43_best) pe_non (by rfl) (.inl rfl))
 (pss_cons (ps_for (passes_of rfl) rfl (pi_seq (pi_list (pe_callS (IH 42 rfl) (hr.mono (by omega)) gl_43_machines (Z.fn 6 (42, "machines") rfl) (Z.kp 42 rfl) (Z.bnd 42 (.inl rfl)) (fun σ => passAt (takes_of rfl rfl rfl rfl) σ) (pa_cons (pe_var (i := 1) rfl vs_43_states nd_states nc_states) pa_nil) nd_machines)) (pi_tup (pe_callS (IH 42 rfl) (hr.mono (by omega)) gl_43_machines (Z.fn 6 (42, "machines") rfl) (Z.kp 42 rfl) (Z.bnd 42 (.inl rfl)) (fun σ => passAt (takes_of rfl rfl rfl rfl) σ) (pa_cons (pe_var (i := 1) rfl vs_43_states nd_states nc_states) pa_nil) nd_machines)) (pi_str (pe_callS (IH 42 rfl) (hr.mono (by omega)) gl_43_machines (Z.fn 6 (42, "machines") rfl) (Z.kp 42 rfl) (Z.bnd 42 (.inl rfl)) (fun σ => passAt (takes_of rfl rfl rfl rfl) σ) (pa_cons (pe_var (i := 1) rfl vs_43_states nd_states nc_states) pa_nil) nd_machines))) (pg_name (i := 3) sc_43.nd rfl (Or.inl kd_43_machine) (.inl rfl)) (pss_cons (ps_set (i := 4) sc_43.nd rfl (Or.inl kd_43_wrong) (pe_callS (IH 40 rfl) (hr.mono (by omega)) gl_43_walked (Z.fn 1 (40, "walked") rfl) (Z.kp 40 rfl) (Z.bnd 40 (.inl rfl)) (fun σ => passAt (takes_of rfl rfl rfl rfl) σ) (pa_cons (pe_var (i := 3) rfl vs_43_machine nd_machine nc_machine) (pa_cons (pe_var (i := 0) rfl vs_43_outcomes nd_outcomes nc_outcomes) pa_nil)) nd_walked) (by rfl) (.inl rfl))
 (pss_cons (ps_if (PW.pt (pw_or (pt_cmpR op_cmp_is (pe_var (i := 2) rfl vs_43_best nd_best nc_best) pe_non (nomark _)) (pw_or1 (pt_cmpR op_cmp_lt (pe_var (i := 4) rfl vs_43_wrong nd_wrong nc_wrong) (pe_ix (ix_X (hu65 hr)) (pe_var (i := 2) rfl vs_43_best nd_best nc_best) pe_int (fun _ _ => rfl)) (nomark _))))) (pss_cons (ps_set (i := 2) sc_43.nd rfl (Or.inl kd_43_best) (pe_tup (pa_cons (pe_var (i := 4) rfl vs_43_wrong nd_wrong nc_wrong) (pa_cons (pe_var (i := 3) rfl vs_43_machine nd_machine nc_machine) pa_nil))) (by rfl) (.inl rfl))
 pss_nil) pss_nil)
 pss_nil)))
 (pss_cons (ps_ret (pe_var (i := 2) rfl vs_43_best nd_best nc_best))
 pss_nil)))))
/- counts -/
theorem b_44 (Z : Fac K mg (Glb.mk K C F) FD pk cv tb) (IH : ∀ f, tb.ids.contains f = true → FnOk P w K mg base (L2.CX P w) (3 * n) (F f) (FD f) (pk f) (spI (Glb.mk K C F) T n f)) (IHA : ∀ f, idA.contains f = true → FnA P w K mg base (L2.CX P w) (3 * n) (F f) (FD f) (pk f) (spI (Glb.mk K C F) T n f)) (XH : ∀ (i : Nat) (q : Nat × Str × Nat × List Str), tb.excs[i]? = some q → FnOk P w K mg base (L2.CX P w) 1 (F q.2.2.1) (FD q.2.2.1) (pk q.2.2.1) (spXI K (C q.1) q.2.2.2)) {cdv : Value} {A : Around} {outer : List PySem.Env} {s : Shared} {H : Hp} {E : L2.XK} (hr : Room (3 * n + 2) (A.deeper (envOfC "counts" (defScope s44) s.heap.objs.size (F 44) cdv))) :
    PSs (cxOf (L2.CX P w) P w K mg base N44 "counts" (defScope s44) (F 44) cdv A outer s H E) (defBody s44) (rdSs (Glb.mk K C F) (spI (Glb.mk K C F) T n) cv xi0 (fun cls dd _ H => E cls dd H) t44.body) :=
  (pss_cons (ps_expr (pe_callS (IH 36 rfl) (hr.mono (by omega)) gl_44_look_at_outcomes (Z.fn 2 (36, "look_at_outcomes") rfl) (Z.kp 36 rfl) (Z.bnd 36 (.inl rfl)) (fun σ => passAt (takes_of rfl rfl rfl rfl) σ) (pa_cons (pe_var (i := 0) rfl vs_44_outcomes nd_outcomes nc_outcomes) pa_nil) nd_look_at_outcomes))
 (pss_cons (ps_expr (pe_callS (IH 37 rfl) (hr.mono (by omega)) gl_44_look_at_states (Z.fn 5 (37, "look_at_states") rfl) (Z.kp 37 rfl) (Z.bnd 37 (.inl rfl)) (fun σ => passAt (takes_of rfl rfl rfl rfl) σ) (pa_cons (pe_var (i := 1) rfl vs_44_states nd_states nc_states) pa_nil) nd_look_at_states))
 (pss_cons (ps_set (i := 2) sc_44.nd rfl (Or.inl kd_44_found) pe_dnewK (by rfl) (.inl rfl))
 (pss_cons (ps_for (passes_of rfl) rfl (pi_seq (pi_list (pe_callS (IH 42 rfl) (hr.mono (by omega)) gl_44_machines (Z.fn 6 (42, "machines") rfl) (Z.kp 42 rfl) (Z.bnd 42 (.inl rfl)) (fun σ => passAt (takes_of rfl rfl rfl rfl) σ) (pa_cons (pe_var (i := 1) rfl vs_44_states nd_states nc_states) pa_nil) nd_machines)) (pi_tup (pe_callS (IH 42 rfl) (hr.mono (by omega)) gl_44_machines (Z.fn 6 (42, "machines") rfl) (Z.kp 42 rfl) (Z.bnd 42 (.inl rfl)) (fun σ => passAt (takes_of rfl rfl rfl rfl) σ) (pa_cons (pe_var (i := 1) rfl vs_44_states nd_states nc_states) pa_nil) nd_machines)) (pi_str (pe_callS (IH 42 rfl) (hr.mono (by omega)) gl_44_machines (Z.fn 6 (42, "machines") rfl) (Z.kp 42 rfl) (Z.bnd 42 (.inl rfl)) (fun σ => passAt (takes_of rfl rfl rfl rfl) σ) (pa_cons (pe_var (i := 1) rfl vs_44_states nd_states nc_states) pa_nil) nd_machines))) (pg_name (i := 3) sc_44.nd rfl (Or.inl kd_44_machine) (.inl rfl)) (pss_cons (ps_set (i := 4) sc_44.nd rfl (Or.inl kd_44_wrong) (pe_callS (IH 40 rfl) (hr.mono (by omega)) gl_44_walked (Z.fn 1 (40, "walked") rfl) (Z.kp 40 rfl) (Z.bnd 40 (.inl rfl)) (fun σ => passAt (takes_of rfl rfl rfl rfl) σ) (pa_cons (pe_var (i := 3) rfl vs_44_machine nd_machine nc_machine) (pa_cons (pe_var (i := 0) rfl vs_44_outcomes nd_outcomes nc_outcomes) pa_nil)) nd_walked) (by rfl) (.inl rfl))
 (pss_cons (ps_orT (ps_asg (pe_op op_bin_add (pe_dget2 (h1_of (hu65 hr)) (pe_var (i := 2) rfl vs_44_found nd_found nc_found) (pe_var (i := 4) rfl vs_44_wrong nd_wrong nc_wrong) pe_int (M2.mk rfl rfl rfl rfl)) pe_int) (pg_sub (pe_var (i := 2) rfl vs_44_found nd_found nc_found) (pe_var (i := 4) rfl vs_44_wrong nd_wrong nc_wrong) set_list)) (ps_dput (h1_of (hu65 hr)) (pe_var (i := 2) rfl vs_44_found nd_found nc_found) (pe_var (i := 4) rfl vs_44_wrong nd_wrong nc_wrong) (pe_op op_bin_add (pe_dget2 (h1_of (hu65 hr)) (pe_var (i := 2) rfl vs_44_found nd_found nc_found) (pe_var (i := 4) rfl vs_44_wrong nd_wrong nc_wrong) pe_int (M2.mk rfl rfl rfl rfl)) pe_int) (by rfl)))
 pss_nil)))
 (pss_cons (ps_ret (pe_callTy cb_tuple gl_44_tuple (Z.free 4 "tuple" rfl) bt_tuple (pa_cons (pe_srtItems rfl (pe_var (i := 2) rfl vs_44_found nd_found nc_found) gl_44_sorted (Z.free 8 "sorted" rfl) bt_sorted) pa_nil) nn_tuple nd_tuple))
 pss_nil)))))
/- fewest_states -/
theorem b_45 (Z : Fac K mg (Glb.mk K C F) FD pk cv tb) (IH : ∀ f, tb.ids.contains f = true → FnOk P w K mg base (L2.CX P w) (3 * n) (F f) (FD f) (pk f) (spI (Glb.mk K C F) T n f)) (IHA : ∀ f, idA.contains f = true → FnA P w K mg base (L2.CX P w) (3 * n) (F f) (FD f) (pk f) (spI (Glb.mk K C F) T n f)) (XH : ∀ (i : Nat) (q : Nat × Str × Nat × List Str), tb.excs[i]? = some q → FnOk P w K mg base (L2.CX P w) 1 (F q.2.2.1) (FD q.2.2.1) (pk q.2.2.1) (spXI K (C q.1) q.2.2.2)) {cdv : Value} {A : Around} {outer : List PySem.Env} {s : Shared} {H : Hp} {E : L2.XK} (hr : Room (3 * n + 2) (A.deeper (envOfC "fewest_states" (defScope s45) s.heap.objs.size (F 45) cdv))) :
    PSs (cxOf (L2.CX P w) P w K mg base N45 "fewest_states" (defScope s45) (F 45) cdv A outer s H E) (defBody s45) (rdSs (Glb.mk K C F) (spI (Glb.mk K C F) T n) cv xi0 (fun cls dd _ H => E cls dd H) t45.body) :=
  (pss_cons (ps_if (PW.pt (pw_or (pt_not (pt_truth (pe_callS (IH 3 rfl) (hr.mono (by omega)) gl_45_is_whole (Z.fn 0 (3, "is_whole") rfl) (Z.kp 3 rfl) (Z.bnd 3 (.inl rfl)) (fun σ => passAt (takes_of rfl rfl rfl rfl) σ) (pa_cons (pe_var (i := 1) rfl vs_45_most nd_most nc_most) pa_nil) nd_is_whole) (by intro _; rfl))) (pw_or1 (pt_cmpR op_cmp_lt (pe_var (i := 1) rfl vs_45_most nd_most nc_most) pe_int (nomark _))))) (pss_cons (by exact ps_raiseI rfl (takes_of rfl rfl rfl rfl) (Z.exc 1 (3, "BadPlan", 2, ["word"]) rfl).1 (Z.exc 1 (3, "BadPlan", 2, ["word"]) rfl).2.1 (Z.exc 1 (3, "BadPlan", 2, ["word"]) rfl).2.2.1 (XH 1 (3, "BadPlan", 2, ["word"]) rfl) (hr.mono (by omega)) (Z.bnd 2 (.inr rfl)) (fun _ _ _ _ _ _ _ h => noCX h) (by exact gl_45_BadPlan) (Z.exc 1 (3, "BadPlan", 2, ["word"]) rfl).2.2.2 (pa_cons pe_str pa_nil) (by decide) nd_BadPlan)
 pss_nil) pss_nil)
 (pss_cons (ps_for (passes_of rfl) rfl (pi_range2 gl_45_range (Z.free 6 "range" rfl) (pa_cons pe_int (pa_cons (pe_op op_bin_add (pe_glob gl_45_MOST_STATES (Z.int 1 ("MOST_STATES", 3) rfl).choose_spec ⟨_, rfl⟩ nd_MOST_STATES) pe_int) pa_nil))) (pg_name (i := 2) sc_45.nd rfl (Or.inl kd_45_states) (.inl rfl)) (pss_cons (ps_if (pt_cmpR op_cmp_le (pe_ix (ix_X (hu65 hr)) (pe_callS (IH 43 rfl) (hr.mono (by omega)) gl_45_least_wrong (Z.fn 7 (43, "least_wrong") rfl) (Z.kp 43 rfl) (Z.bnd 43 (.inl rfl)) (fun σ => passAt (takes_of rfl rfl rfl rfl) σ) (pa_cons (pe_var (i := 0) rfl vs_45_outcomes nd_outcomes nc_outcomes) (pa_cons (pe_var (i := 2) rfl vs_45_states nd_states nc_states) pa_nil)) nd_least_wrong) pe_int (fun _ _ => rfl)) (pe_var (i := 1) rfl vs_45_most nd_most nc_most) (nomark _)) (pss_cons (ps_ret (pe_var (i := 2) rfl vs_45_states nd_states nc_states))
 pss_nil) pss_nil)
 pss_nil))
 (pss_cons (ps_ret pe_non)
 pss_nil)))
/- _law_draws -/
theorem b_13 (Z : Fac K mg (Glb.mk K C F) FD pk cv tb) (IH : ∀ f, tb.ids.contains f = true → FnOk P w K mg base (L2.CX P w) (3 * n) (F f) (FD f) (pk f) (spI (Glb.mk K C F) T n f)) (IHA : ∀ f, idA.contains f = true → FnA P w K mg base (L2.CX P w) (3 * n) (F f) (FD f) (pk f) (spI (Glb.mk K C F) T n f)) (XH : ∀ (i : Nat) (q : Nat × Str × Nat × List Str), tb.excs[i]? = some q → FnOk P w K mg base (L2.CX P w) 1 (F q.2.2.1) (FD q.2.2.1) (pk q.2.2.1) (spXI K (C q.1) q.2.2.2)) {cdv : Value} {A : Around} {outer : List PySem.Env} {s : Shared} {H : Hp} {E : L2.XK} (hr : Room (3 * n + 2) (A.deeper (envOfC "_law_draws" (defScope s13) s.heap.objs.size (F 13) cdv))) :
    PSs (cxOf (L2.CX P w) P w K mg base N13 "_law_draws" (defScope s13) (F 13) cdv A outer s H E) (defBody s13) (rdSs (Glb.mk K C F) (spI (Glb.mk K C F) T n) cv xi0 (fun cls dd _ H => E cls dd H) t13.body) :=
  (pss_cons (ps_ret (pe_lst (pa_cons (pe_callTy cb_list gl_13_list (Z.free 7 "list" rfl) bt_list (pa_cons (pe_var (i := 0) rfl vs_13_script nd_script nc_script) pa_nil) nn_list nd_list) (pa_cons pe_int (pa_cons pe_int (pa_cons pe_int pa_nil))))))
 pss_nil)
/- _law_draw -/
theorem b_14 (Z : Fac K mg (Glb.mk K C F) FD pk cv tb) (IH : ∀ f, tb.ids.contains f = true → FnOk P w K mg base (L2.CX P w) (3 * n) (F f) (FD f) (pk f) (spI (Glb.mk K C F) T n f)) (IHA : ∀ f, idA.contains f = true → FnA P w K mg base (L2.CX P w) (3 * n) (F f) (FD f) (pk f) (spI (Glb.mk K C F) T n f)) (XH : ∀ (i : Nat) (q : Nat × Str × Nat × List Str), tb.excs[i]? = some q → FnOk P w K mg base (L2.CX P w) 1 (F q.2.2.1) (FD q.2.2.1) (pk q.2.2.1) (spXI K (C q.1) q.2.2.2)) {cdv : Value} {A : Around} {outer : List PySem.Env} {s : Shared} {H : Hp} {E : L2.XK} (hr : Room (3 * n + 2) (A.deeper (envOfC "_law_draw" (defScope s14) s.heap.objs.size (F 14) cdv))) :
    PSs (cxOf (L2.CX P w) P w K mg base N14 "_law_draw" (defScope s14) (F 14) cdv A outer s H E) (defBody s14) (rdSs (Glb.mk K C F) (spI (Glb.mk K C F) T n) cv xi0 (fun cls dd _ H => E cls dd H) t14.body) :=
  (pss_cons (ps_if (PW.pt (pw_and (pt_cmpR (op_cmp_eq (hu64 hr)) (pe_ix (ix_X (hu65 hr)) (pe_var (i := 0) rfl vs_14_draws nd_draws nc_draws) pe_int (fun _ _ => rfl)) pe_int (nomark _)) (pw_and1 (pt_cmpR op_cmp_lt (pe_ix (ix_X (hu65 hr)) (pe_var (i := 0) rfl vs_14_draws nd_draws nc_draws) pe_int (fun _ _ => rfl)) (pe_callB cb_len gl_14_len (Z.free 3 "len" rfl) bt_len (pa_cons (pe_ix (ix_X (hu65 hr)) (pe_var (i := 0) rfl vs_14_draws nd_draws nc_draws) pe_int (fun _ _ => rfl)) pa_nil) nn_len nd_len) (nomark _))))) (pss_cons (ps_set (i := 2) sc_14.nd rfl (Or.inl kd_14_cell) (pe_ix (ix_X (hu65 hr)) (pe_ix (ix_X (hu65 hr)) (pe_var (i := 0) rfl vs_14_draws nd_draws nc_draws) pe_int (fun _ _ => rfl)) (pe_ix (ix_X (hu65 hr)) (pe_var (i := 0) rfl vs_14_draws nd_draws nc_draws) pe_int (fun _ _ => rfl)) (fun _ _ => rfl)) (by rfl) (.inl rfl))
 (pss_cons (ps_orT (ps_asg (pe_op op_bin_add (pe_ix (ix_X (hu65 hr)) (pe_var (i := 0) rfl vs_14_draws nd_draws nc_draws) pe_int (fun _ _ => rfl)) pe_int) (pg_sub (pe_var (i := 0) rfl vs_14_draws nd_draws nc_draws) pe_int set_list)) (ps_dput (h1_of (hu65 hr)) (pe_var (i := 0) rfl vs_14_draws nd_draws nc_draws) pe_int (pe_op op_bin_add (pe_ix (ix_X (hu65 hr)) (pe_var (i := 0) rfl vs_14_draws nd_draws nc_draws) pe_int (fun _ _ => rfl)) pe_int) (by rfl)))
 (pss_cons (ps_if (pt_cmpR op_cmp_ge (pe_var (i := 2) rfl vs_14_cell nd_cell nc_cell) (pe_op op_bin_pow pe_int pe_int) (nomark _)) (pss_cons (ps_orT (ps_asg (pe_var (i := 2) rfl vs_14_cell nd_cell nc_cell) (pg_sub (pe_var (i := 0) rfl vs_14_draws nd_draws nc_draws) pe_int set_list)) (ps_dput (h1_of (hu65 hr)) (pe_var (i := 0) rfl vs_14_draws nd_draws nc_draws) pe_int (pe_var (i := 2) rfl vs_14_cell nd_cell nc_cell) (by rfl)))
 pss_nil) pss_nil)
 (pss_cons (ps_orT (ps_asg (pe_op op_bin_mod (pe_callTy cb_int gl_14_int (Z.free 0 "int" rfl) bt_int (pa_cons (pe_op op_bin_add (pe_op op_bin_add (pe_op op_bin_mul (pe_ix (ix_X (hu65 hr)) (pe_var (i := 0) rfl vs_14_draws nd_draws nc_draws) pe_int (fun _ _ => rfl)) pe_int) (pe_var (i := 2) rfl vs_14_cell nd_cell nc_cell)) pe_int) pa_nil) nn_int nd_int) pe_int) (pg_sub (pe_var (i := 0) rfl vs_14_draws nd_draws nc_draws) pe_int set_list)) (ps_dput (h1_of (hu65 hr)) (pe_var (i := 0) rfl vs_14_draws nd_draws nc_draws) pe_int (pe_op op_bin_mod (pe_callTy cb_int gl_14_int (Z.free 0 "int" rfl) bt_int (pa_cons (pe_op op_bin_add (pe_op op_bin_add (pe_op op_bin_mul (pe_ix (ix_X (hu65 hr)) (pe_var (i := 0) rfl vs_14_draws nd_draws nc_draws) pe_int (fun _ _ => rfl)) pe_int) (pe_var (i := 2) rfl vs_14_cell nd_cell nc_cell)) pe_int) pa_nil) nn_int nd_int) pe_int) (by rfl)))
 pss_nil)))) pss_nil)
 (pss_cons (ps_if (pt_cmpR op_cmp_gt (pe_ix (ix_X (hu65 hr)) (pe_var (i := 0) rfl vs_14_draws nd_draws nc_draws) pe_int (fun _ _ => rfl)) pe_int (nomark _)) (pss_cons (ps_set (i := 3) sc_14.nd rfl (Or.inl kd_14_value) (pe_op op_bin_mod (pe_callTy cb_int gl_14_int (Z.free 0 "int" rfl) bt_int (pa_cons (pe_ix (ix_X (hu65 hr)) (pe_var (i := 0) rfl vs_14_draws nd_draws nc_draws) pe_int (fun _ _ => rfl)) pa_nil) nn_int nd_int) (pe_var (i := 1) rfl vs_14_limit nd_limit nc_limit)) (by rfl) (.inl rfl))
 (pss_cons (ps_orT (ps_asg (pe_op op_bin_fdiv (pe_ix (ix_X (hu65 hr)) (pe_var (i := 0) rfl vs_14_draws nd_draws nc_draws) pe_int (fun _ _ => rfl)) (pe_var (i := 1) rfl vs_14_limit nd_limit nc_limit)) (pg_sub (pe_var (i := 0) rfl vs_14_draws nd_draws nc_draws) pe_int set_list)) (ps_dput (h1_of (hu65 hr)) (pe_var (i := 0) rfl vs_14_draws nd_draws nc_draws) pe_int (pe_op op_bin_fdiv (pe_ix (ix_X (hu65 hr)) (pe_var (i := 0) rfl vs_14_draws nd_draws nc_draws) pe_int (fun _ _ => rfl)) (pe_var (i := 1) rfl vs_14_limit nd_limit nc_limit)) (by rfl)))
 (pss_cons (ps_ret (pe_var (i := 3) rfl vs_14_value nd_value nc_value))
 pss_nil))) pss_nil)
 (pss_cons (ps_orT (ps_asg (pe_op op_bin_mod (pe_callTy cb_int gl_14_int (Z.free 0 "int" rfl) bt_int (pa_cons (pe_op op_bin_add (pe_op op_bin_mul (pe_ix (ix_X (hu65 hr)) (pe_var (i := 0) rfl vs_14_draws nd_draws nc_draws) pe_int (fun _ _ => rfl)) pe_int) pe_int) pa_nil) nn_int nd_int) pe_int) (pg_sub (pe_var (i := 0) rfl vs_14_draws nd_draws nc_draws) pe_int set_list)) (ps_dput (h1_of (hu65 hr)) (pe_var (i := 0) rfl vs_14_draws nd_draws nc_draws) pe_int (pe_op op_bin_mod (pe_callTy cb_int gl_14_int (Z.free 0 "int" rfl) bt_int (pa_cons (pe_op op_bin_add (pe_op op_bin_mul (pe_ix (ix_X (hu65 hr)) (pe_var (i := 0) rfl vs_14_draws nd_draws nc_draws) pe_int (fun _ _ => rfl)) pe_int) pe_int) pa_nil) nn_int nd_int) pe_int) (by rfl)))
 (pss_cons (ps_ret (pe_op op_bin_mod (pe_callTy cb_int gl_14_int (Z.free 0 "int" rfl) bt_int (pa_cons (pe_op op_bin_fdiv (pe_ix (ix_X (hu65 hr)) (pe_var (i := 0) rfl vs_14_draws nd_draws nc_draws) pe_int (fun _ _ => rfl)) pe_int) pa_nil) nn_int nd_int) (pe_var (i := 1) rfl vs_14_limit nd_limit nc_limit)))
 pss_nil))))
/- _law_same -/
theorem b_15 (Z : Fac K mg (Glb.mk K C F) FD pk cv tb) (IH : ∀ f, tb.ids.contains f = true → FnOk P w K mg base (L2.CX P w) (3 * n) (F f) (FD f) (pk f) (spI (Glb.mk K C F) T n f)) (IHA : ∀ f, idA.contains f = true → FnA P w K mg base (L2.CX P w) (3 * n) (F f) (FD f) (pk f) (spI (Glb.mk K C F) T n f)) (XH : ∀ (i : Nat) (q : Nat × Str × Nat × List Str), tb.excs[i]? = some q → FnOk P w K mg base (L2.CX P w) 1 (F q.2.2.1) (FD q.2.2.1) (pk q.2.2.1) (spXI K (C q.1) q.2.2.2)) {cdv : Value} {A : Around} {outer : List PySem.Env} {s : Shared} {H : Hp} {E : L2.XK} (hr : Room (3 * n + 2) (A.deeper (envOfC "_law_same" (defScope s15) s.heap.objs.size (F 15) cdv))) :
    PSs (cxOf (L2.CX P w) P w K mg base N15 "_law_same" (defScope s15) (F 15) cdv A outer s H E) (defBody s15) (rdSs (Glb.mk K C F) (spI (Glb.mk K C F) T n) cv xi0 (fun cls dd _ H => E cls dd H) t15.body) :=
  (pss_cons (ps_if (PW.pt (pw_or (pt_val (pe_callB call_isi gl_15_isinstance (Z.free 1 "isinstance" rfl) bt_isinstance (pa_cons (pe_var (i := 1) rfl vs_15_expected nd_expected nc_expected) (pa_cons (pe_bltn (v := .ty "tuple") gl_15_tuple (Z.free 4 "tuple" rfl) bt_tuple rfl nn_tuple nd_tuple) pa_nil)) nn_isinstance nd_isinstance)) (pw_or1 (pt_val (pe_callB call_isi gl_15_isinstance (Z.free 1 "isinstance" rfl) bt_isinstance (pa_cons (pe_var (i := 1) rfl vs_15_expected nd_expected nc_expected) (pa_cons (pe_bltn (v := .ty "list") gl_15_list (Z.free 7 "list" rfl) bt_list rfl nn_list nd_list) pa_nil)) nn_isinstance nd_isinstance))))) (pss_cons (ps_if (PW.pt (pw_or (pt_cmpR (op_cmp_ne (hu64 hr)) (pe_callB call_isi gl_15_isinstance (Z.free 1 "isinstance" rfl) bt_isinstance (pa_cons (pe_var (i := 1) rfl vs_15_expected nd_expected nc_expected) (pa_cons (pe_bltn (v := .ty "tuple") gl_15_tuple (Z.free 4 "tuple" rfl) bt_tuple rfl nn_tuple nd_tuple) pa_nil)) nn_isinstance nd_isinstance) (pe_callB call_isi gl_15_isinstance (Z.free 1 "isinstance" rfl) bt_isinstance (pa_cons (pe_var (i := 0) rfl vs_15_actual nd_actual nc_actual) (pa_cons (pe_bltn (v := .ty "tuple") gl_15_tuple (Z.free 4 "tuple" rfl) bt_tuple rfl nn_tuple nd_tuple) pa_nil)) nn_isinstance nd_isinstance) (nomark _)) (pw_or1 (pt_cmpR (op_cmp_ne (hu64 hr)) (pe_callB call_isi gl_15_isinstance (Z.free 1 "isinstance" rfl) bt_isinstance (pa_cons (pe_var (i := 1) rfl vs_15_expected nd_expected nc_expected) (pa_cons (pe_bltn (v := .ty "list") gl_15_list (Z.free 7 "list" rfl) bt_list rfl nn_list nd_list) pa_nil)) nn_isinstance nd_isinstance) (pe_callB call_isi gl_15_isinstance (Z.free 1 "isinstance" rfl) bt_isinstance (pa_cons (pe_var (i := 0) rfl vs_15_actual nd_actual nc_actual) (pa_cons (pe_bltn (v := .ty "list") gl_15_list (Z.free 7 "list" rfl) bt_list rfl nn_list nd_list) pa_nil)) nn_isinstance nd_isinstance) (nomark _))))) (pss_cons (ps_ret pe_bl)
 pss_nil) pss_nil)
 (pss_cons (ps_if (pt_cmpR (op_cmp_ne (hu64 hr)) (pe_callB cb_len gl_15_len (Z.free 3 "len" rfl) bt_len (pa_cons (pe_var (i := 0) rfl vs_15_actual nd_actual nc_actual) pa_nil) nn_len nd_len) (pe_callB cb_len gl_15_len (Z.free 3 "len" rfl) bt_len (pa_cons (pe_var (i := 1) rfl vs_15_expected nd_expected nc_expected) pa_nil) nn_len nd_len) (nomark _)) (pss_cons (ps_ret pe_bl)
 pss_nil) pss_nil)
 (pss_cons (ps_ret (pe_cmpR (op_cmp_eq (hu64 hr)) (pe_callB cb_len gl_15_len (Z.free 3 "len" rfl) bt_len (pa_cons (pe_lc (own := [("k", 2)]) rfl sc_15.nd (pi_range1 gl_15_range (Z.free 6 "range" rfl) (pa_cons (pe_callB cb_len gl_15_len (Z.free 3 "len" rfl) bt_len (pa_cons (pe_var (i := 1) rfl vs_15_expected nd_expected nc_expected) pa_nil) nn_len nd_len) pa_nil)) (blkOk_by (by kernel_rfl)) (fun _ _ _ _ _ => (pg_name (i := 2) sc_15.nd rfl (Or.inl rfl) (.inr rfl))) (fun _ _ _ _ _ => (pts_one (pt_not (pt_truth (pe_callS (IH 15 rfl) (hr.mono (by omega)) (by rfl) (Z.fn 8 (15, "_law_same") rfl) (Z.kp 15 rfl) (Z.bnd 15 (.inl rfl)) (fun σ => passAt takesF σ) (pa_cons (pe_ix (ix_X (hu65 hr)) (pv 0 rfl (by first | exact Or.inl rfl | exact Or.inr (Or.inl rfl) | exact Or.inr (Or.inr rfl)) nd_actual nc_actual) (pv 2 rfl (by first | exact Or.inl rfl | exact Or.inr (Or.inl rfl) | exact Or.inr (Or.inr rfl)) nd_k nc_k) (fun _ _ => rfl)) (pa_cons (pe_ix (ix_X (hu65 hr)) (pv 1 rfl (by first | exact Or.inl rfl | exact Or.inr (Or.inl rfl) | exact Or.inr (Or.inr rfl)) nd_expected nc_expected) (pv 2 rfl (by first | exact Or.inl rfl | exact Or.inr (Or.inl rfl) | exact Or.inr (Or.inr rfl)) nd_k nc_k) (fun _ _ => rfl)) pa_nil)) nd__law_same) (by intro _; rfl))))) (fun _ _ _ _ _ => (pv 2 rfl (by first | exact Or.inl rfl | exact Or.inr (Or.inl rfl) | exact Or.inr (Or.inr rfl)) nd_k nc_k))) pa_nil) nn_len nd_len) pe_int (nomark _)))
 pss_nil))) pss_nil)
 (pss_cons (ps_if (pt_val (pe_callB call_isi gl_15_isinstance (Z.free 1 "isinstance" rfl) bt_isinstance (pa_cons (pe_var (i := 1) rfl vs_15_expected nd_expected nc_expected) (pa_cons (pe_bltn (v := .ty "str") gl_15_str (Z.free 9 "str" rfl) bt_str rfl nn_str nd_str) pa_nil)) nn_isinstance nd_isinstance)) (pss_cons (ps_ret (pe_and (pe_callB call_isi gl_15_isinstance (Z.free 1 "isinstance" rfl) bt_isinstance (pa_cons (pe_var (i := 0) rfl vs_15_actual nd_actual nc_actual) (pa_cons (pe_bltn (v := .ty "str") gl_15_str (Z.free 9 "str" rfl) bt_str rfl nn_str nd_str) pa_nil)) nn_isinstance nd_isinstance) (pe_one (pe_cmpR (op_cmp_eq (hu64 hr)) (pe_var (i := 0) rfl vs_15_actual nd_actual nc_actual) (pe_var (i := 1) rfl vs_15_expected nd_expected nc_expected) (nomark _)))))
 pss_nil) pss_nil)
 (pss_cons (ps_if (pt_cmpR op_cmp_is (pe_var (i := 1) rfl vs_15_expected nd_expected nc_expected) pe_non (nomark _)) (pss_cons (ps_ret (pe_cmpR op_cmp_is (pe_var (i := 0) rfl vs_15_actual nd_actual nc_actual) pe_non (nomark _)))
 pss_nil) pss_nil)
 (pss_cons (ps_if (PW.pt (pw_or (pt_val (pe_callB call_isi gl_15_isinstance (Z.free 1 "isinstance" rfl) bt_isinstance (pa_cons (pe_var (i := 1) rfl vs_15_expected nd_expected nc_expected) (pa_cons (pe_bltn (v := .ty "bool") gl_15_bool (Z.free 2 "bool" rfl) bt_bool rfl nn_bool nd_bool) pa_nil)) nn_isinstance nd_isinstance)) (pw_or1 (pt_val (pe_callB call_isi gl_15_isinstance (Z.free 1 "isinstance" rfl) bt_isinstance (pa_cons (pe_var (i := 0) rfl vs_15_actual nd_actual nc_actual) (pa_cons (pe_bltn (v := .ty "bool") gl_15_bool (Z.free 2 "bool" rfl) bt_bool rfl nn_bool nd_bool) pa_nil)) nn_isinstance nd_isinstance))))) (pss_cons (ps_ret (pe_and (pe_callB call_isi gl_15_isinstance (Z.free 1 "isinstance" rfl) bt_isinstance (pa_cons (pe_var (i := 1) rfl vs_15_expected nd_expected nc_expected) (pa_cons (pe_bltn (v := .ty "bool") gl_15_bool (Z.free 2 "bool" rfl) bt_bool rfl nn_bool nd_bool) pa_nil)) nn_isinstance nd_isinstance) (pe_and (pe_callB call_isi gl_15_isinstance (Z.free 1 "isinstance" rfl) bt_isinstance (pa_cons (pe_var (i := 0) rfl vs_15_actual nd_actual nc_actual) (pa_cons (pe_bltn (v := .ty "bool") gl_15_bool (Z.free 2 "bool" rfl) bt_bool rfl nn_bool nd_bool) pa_nil)) nn_isinstance nd_isinstance) (pe_one (pe_cmpR (op_cmp_eq (hu64 hr)) (pe_var (i := 0) rfl vs_15_actual nd_actual nc_actual) (pe_var (i := 1) rfl vs_15_expected nd_expected nc_expected) (nomark _))))))
 pss_nil) pss_nil)
 (pss_cons (ps_ret (pe_and (pe_callB call_isi gl_15_isinstance (Z.free 1 "isinstance" rfl) bt_isinstance (pa_cons (pe_var (i := 0) rfl vs_15_actual nd_actual nc_actual) (pa_cons (pe_bltn (v := .ty "int") gl_15_int (Z.free 0 "int" rfl) bt_int rfl nn_int nd_int) pa_nil)) nn_isinstance nd_isinstance) (pe_and (pe_callB call_isi gl_15_isinstance (Z.free 1 "isinstance" rfl) bt_isinstance (pa_cons (pe_var (i := 1) rfl vs_15_expected nd_expected nc_expected) (pa_cons (pe_bltn (v := .ty "int") gl_15_int (Z.free 0 "int" rfl) bt_int rfl nn_int nd_int) pa_nil)) nn_isinstance nd_isinstance) (pe_one (pe_cmpR (op_cmp_eq (hu64 hr)) (pe_var (i := 0) rfl vs_15_actual nd_actual nc_actual) (pe_var (i := 1) rfl vs_15_expected nd_expected nc_expected) (nomark _))))))
 pss_nil)))))
/- _law_pick -/
theorem b_16 (Z : Fac K mg (Glb.mk K C F) FD pk cv tb) (IH : ∀ f, tb.ids.contains f = true → FnOk P w K mg base (L2.CX P w) (3 * n) (F f) (FD f) (pk f) (spI (Glb.mk K C F) T n f)) (IHA : ∀ f, idA.contains f = true → FnA P w K mg base (L2.CX P w) (3 * n) (F f) (FD f) (pk f) (spI (Glb.mk K C F) T n f)) (XH : ∀ (i : Nat) (q : Nat × Str × Nat × List Str), tb.excs[i]? = some q → FnOk P w K mg base (L2.CX P w) 1 (F q.2.2.1) (FD q.2.2.1) (pk q.2.2.1) (spXI K (C q.1) q.2.2.2)) {cdv : Value} {A : Around} {outer : List PySem.Env} {s : Shared} {H : Hp} {E : L2.XK} (hr : Room (3 * n + 2) (A.deeper (envOfC "_law_pick" (defScope s16) s.heap.objs.size (F 16) cdv))) :
    PSs (cxOf (L2.CX P w) P w K mg base N16 "_law_pick" (defScope s16) (F 16) cdv A outer s H E) (defBody s16) (rdSs (Glb.mk K C F) (spI (Glb.mk K C F) T n) cv xi0 (fun cls dd _ H => E cls dd H) t16.body) :=
  (pss_cons (ps_ret (pe_ix (ix_X (hu65 hr)) (pe_var (i := 1) rfl vs_16_row nd_row nc_row) (pe_callS (IH 14 rfl) (hr.mono (by omega)) gl_16__law_draw (Z.fn 9 (14, "_law_draw") rfl) (Z.kp 14 rfl) (Z.bnd 14 (.inl rfl)) (fun σ => passAt (takes_of rfl rfl rfl rfl) σ) (pa_cons (pe_var (i := 0) rfl vs_16_draws nd_draws nc_draws) (pa_cons (pe_callB cb_len gl_16_len (Z.free 3 "len" rfl) bt_len (pa_cons (pe_var (i := 1) rfl vs_16_row nd_row nc_row) pa_nil) nn_len nd_len) pa_nil)) nd__law_draw) (fun _ _ => rfl)))
 pss_nil)
/- _law_machines -/
theorem b_46 (Z : Fac K mg (Glb.mk K C F) FD pk cv tb) (IH : ∀ f, tb.ids.contains f = true → FnOk P w K mg base (L2.CX P w) (3 * n) (F f) (FD f) (pk f) (spI (Glb.mk K C F) T n f)) (IHA : ∀ f, idA.contains f = true → FnA P w K mg base (L2.CX P w) (3 * n) (F f) (FD f) (pk f) (spI (Glb.mk K C F) T n f)) (XH : ∀ (i : Nat) (q : Nat × Str × Nat × List Str), tb.excs[i]? = some q → FnOk P w K mg base (L2.CX P w) 1 (F q.2.2.1) (FD q.2.2.1) (pk q.2.2.1) (spXI K (C q.1) q.2.2.2)) {cdv : Value} {A : Around} {outer : List PySem.Env} {s : Shared} {H : Hp} {E : L2.XK} (hr : Room (3 * n + 2) (A.deeper (envOfC "_law_machines" (defScope s46) s.heap.objs.size (F 46) cdv))) :
    PSs (cxOf (L2.CX P w) P w K mg base N46 "_law_machines" (defScope s46) (F 46) cdv A outer s H E) (defBody s46) (rdSs (Glb.mk K C F) (spI (Glb.mk K C F) T n) cv xi0 (fun cls dd _ H => E cls dd H) t46.body) :=
  (pss_cons (ps_par rfl sc_46.nd rfl rfl (by decide) kd_46_guesses kd_46_ways (pa_cons (pe_lst (pa_cons (pe_tup pa_nil) pa_nil)) (pa_cons (pe_lst (pa_cons (pe_tup pa_nil) pa_nil)) pa_nil)) (by rfl))
 (pss_cons (ps_set (i := 3) sc_46.nd rfl (Or.inl kd_46_pairs) (pe_lst pa_nil) (by rfl) (.inl rfl))
 (pss_cons (ps_for (passes_of rfl) rfl (pi_range1 gl_46_range (Z.free 6 "range" rfl) (pa_cons (pe_var (i := 0) rfl vs_46_states nd_states nc_states) pa_nil)) (pg_name (i := 4) sc_46.nd rfl (Or.inr kd_46_one) (.inl rfl)) (pss_cons (ps_set (i := 3) sc_46.nd rfl (Or.inl kd_46_pairs) (pe_op op_bin_add (pe_var (i := 3) rfl vs_46_pairs nd_pairs nc_pairs) (pe_lc (own := [("two", 10)]) rfl sc_46.nd (pi_range1 gl_46_range (Z.free 6 "range" rfl) (pa_cons (pe_var (i := 0) rfl vs_46_states nd_states nc_states) pa_nil)) (blkOk_by (by kernel_rfl)) (fun _ _ _ _ _ => (pg_name (i := 10) sc_46.nd rfl (Or.inl rfl) (.inr rfl))) (fun _ _ _ _ _ => pts_nil) (fun _ _ _ _ _ => (pe_tup (pa_cons (pv 4 rfl (by first | exact Or.inl rfl | exact Or.inr (Or.inl rfl) | exact Or.inr (Or.inr rfl)) nd_one nc_one) (pa_cons (pv 10 rfl (by first | exact Or.inl rfl | exact Or.inr (Or.inl rfl) | exact Or.inr (Or.inr rfl)) nd_two nc_two) pa_nil)))))) (by rfl) (.inl rfl))
 pss_nil))
 (pss_cons (ps_for (passes_of rfl) rfl (pi_range1 gl_46_range (Z.free 6 "range" rfl) (pa_cons (pe_var (i := 0) rfl vs_46_states nd_states nc_states) pa_nil)) (pg_name (i := 5) sc_46.nd rfl (Or.inl kd_46_k) (.inl rfl)) (pss_cons (ps_par rfl sc_46.nd rfl rfl (by decide) kd_46_more kd_46_far (pa_cons (pe_lst pa_nil) (pa_cons (pe_lst pa_nil) pa_nil)) (by rfl))
 (pss_cons (ps_for (passes_of rfl) rfl (pi_seq (pi_list (pe_var (i := 1) rfl vs_46_guesses nd_guesses nc_guesses)) (pi_tup (pe_var (i := 1) rfl vs_46_guesses nd_guesses nc_guesses)) (pi_str (pe_var (i := 1) rfl vs_46_guesses nd_guesses nc_guesses))) (pg_name (i := 8) sc_46.nd rfl (Or.inr kd_46_row) (.inl rfl)) (pss_cons (ps_set (i := 6) sc_46.nd rfl (Or.inl kd_46_more) (pe_op op_bin_add (pe_var (i := 6) rfl vs_46_more nd_more nc_more) (pe_lst (pa_cons (pe_op op_bin_add (pe_var (i := 8) rfl vs_46_row nd_row nc_row) (pe_tup (pa_cons pe_bl pa_nil))) (pa_cons (pe_op op_bin_add (pe_var (i := 8) rfl vs_46_row nd_row nc_row) (pe_tup (pa_cons pe_bl pa_nil))) pa_nil)))) (by rfl) (.inl rfl))
 pss_nil))
 (pss_cons (ps_for (passes_of rfl) rfl (pi_seq (pi_list (pe_var (i := 2) rfl vs_46_ways nd_ways nc_ways)) (pi_tup (pe_var (i := 2) rfl vs_46_ways nd_ways nc_ways)) (pi_str (pe_var (i := 2) rfl vs_46_ways nd_ways nc_ways))) (pg_name (i := 8) sc_46.nd rfl (Or.inr kd_46_row) (.inl rfl)) (pss_cons (ps_set (i := 7) sc_46.nd rfl (Or.inl kd_46_far) (pe_op op_bin_add (pe_var (i := 7) rfl vs_46_far nd_far nc_far) (pe_lc (own := [("pair", 11)]) rfl sc_46.nd (pi_seq (pi_list (pe_var (i := 3) rfl vs_46_pairs nd_pairs nc_pairs)) (pi_tup (pe_var (i := 3) rfl vs_46_pairs nd_pairs nc_pairs)) (pi_str (pe_var (i := 3) rfl vs_46_pairs nd_pairs nc_pairs))) (blkOk_by (by kernel_rfl)) (fun _ _ _ _ _ => (pg_name (i := 11) sc_46.nd rfl (Or.inl rfl) (.inr rfl))) (fun _ _ _ _ _ => pts_nil) (fun _ _ _ _ _ => (pe_op op_bin_add (pv 8 rfl (by first | exact Or.inl rfl | exact Or.inr (Or.inl rfl) | exact Or.inr (Or.inr rfl)) nd_row nc_row) (pe_tup (pa_cons (pv 11 rfl (by first | exact Or.inl rfl | exact Or.inr (Or.inl rfl) | exact Or.inr (Or.inr rfl)) nd_pair nc_pair) pa_nil)))))) (by rfl) (.inl rfl))
 pss_nil))
 (pss_cons (ps_par rfl sc_46.nd rfl rfl (by decide) kd_46_guesses kd_46_ways (pa_cons (pe_var (i := 6) rfl vs_46_more nd_more nc_more) (pa_cons (pe_var (i := 7) rfl vs_46_far nd_far nc_far) pa_nil)) (by rfl))
 pss_nil)))))
 (pss_cons (ps_set (i := 9) sc_46.nd rfl (Or.inl kd_46_found) (pe_lst pa_nil) (by rfl) (.inl rfl))
 (pss_cons (ps_for (passes_of rfl) rfl (pi_seq (pi_list (pe_var (i := 1) rfl vs_46_guesses nd_guesses nc_guesses)) (pi_tup (pe_var (i := 1) rfl vs_46_guesses nd_guesses nc_guesses)) (pi_str (pe_var (i := 1) rfl vs_46_guesses nd_guesses nc_guesses))) (pg_name (i := 8) sc_46.nd rfl (Or.inr kd_46_row) (.inl rfl)) (pss_cons (ps_set (i := 9) sc_46.nd rfl (Or.inl kd_46_found) (pe_op op_bin_add (pe_var (i := 9) rfl vs_46_found nd_found nc_found) (pe_lc (own := [("way", 12)]) rfl sc_46.nd (pi_seq (pi_list (pe_var (i := 2) rfl vs_46_ways nd_ways nc_ways)) (pi_tup (pe_var (i := 2) rfl vs_46_ways nd_ways nc_ways)) (pi_str (pe_var (i := 2) rfl vs_46_ways nd_ways nc_ways))) (blkOk_by (by kernel_rfl)) (fun _ _ _ _ _ => (pg_name (i := 12) sc_46.nd rfl (Or.inl rfl) (.inr rfl))) (fun _ _ _ _ _ => pts_nil) (fun _ _ _ _ _ => (pe_tup (pa_cons (pv 8 rfl (by first | exact Or.inl rfl | exact Or.inr (Or.inl rfl) | exact Or.inr (Or.inr rfl)) nd_row nc_row) (pa_cons (pv 12 rfl (by first | exact Or.inl rfl | exact Or.inr (Or.inl rfl) | exact Or.inr (Or.inr rfl)) nd_way nc_way) pa_nil)))))) (by rfl) (.inl rfl))
 pss_nil))
 (pss_cons (ps_ret (pe_var (i := 9) rfl vs_46_found nd_found nc_found))
 pss_nil)))))))
/- _law_wrong -/
theorem b_47 (Z : Fac K mg (Glb.mk K C F) FD pk cv tb) (IH : ∀ f, tb.ids.contains f = true → FnOk P w K mg base (L2.CX P w) (3 * n) (F f) (FD f) (pk f) (spI (Glb.mk K C F) T n f)) (IHA : ∀ f, idA.contains f = true → FnA P w K mg base (L2.CX P w) (3 * n) (F f) (FD f) (pk f) (spI (Glb.mk K C F) T n f)) (XH : ∀ (i : Nat) (q : Nat × Str × Nat × List Str), tb.excs[i]? = some q → FnOk P w K mg base (L2.CX P w) 1 (F q.2.2.1) (FD q.2.2.1) (pk q.2.2.1) (spXI K (C q.1) q.2.2.2)) {cdv : Value} {A : Around} {outer : List PySem.Env} {s : Shared} {H : Hp} {E : L2.XK} (hr : Room (3 * n + 2) (A.deeper (envOfC "_law_wrong" (defScope s47) s.heap.objs.size (F 47) cdv))) :
    PSs (cxOf (L2.CX P w) P w K mg base N47 "_law_wrong" (defScope s47) (F 47) cdv A outer s H E) (defBody s47) (rdSs (Glb.mk K C F) (spI (Glb.mk K C F) T n) cv xi0 (fun cls dd _ H => E cls dd H) t47.body) :=
  (pss_cons (ps_asg (pe_tup (pa_cons pe_int (pa_cons pe_int pa_nil))) (pg_tup rfl (pgs_cons (pg_name (i := 2) sc_47.nd rfl (Or.inl kd_47_state) (.inl rfl)) (pgs_cons (pg_name (i := 3) sc_47.nd rfl (Or.inl kd_47_wrong) (.inl rfl)) pgs_nil))))
 (pss_cons (ps_for (passes_of rfl) rfl (pi_seq (pi_list (pe_var (i := 1) rfl vs_47_outcomes nd_outcomes nc_outcomes)) (pi_tup (pe_var (i := 1) rfl vs_47_outcomes nd_outcomes nc_outcomes)) (pi_str (pe_var (i := 1) rfl vs_47_outcomes nd_outcomes nc_outcomes))) (pg_name (i := 4) sc_47.nd rfl (Or.inl kd_47_taken) (.inl rfl)) (pss_cons (ps_set (i := 3) sc_47.nd rfl (Or.inl kd_47_wrong) (pe_op op_bin_add (pe_var (i := 3) rfl vs_47_wrong nd_wrong nc_wrong) (pe_ifExp (pt_cmpR (op_cmp_ne (hu64 hr)) (pe_ix (ix_X (hu65 hr)) (pe_ix (ix_X (hu65 hr)) (pe_var (i := 0) rfl vs_47_machine nd_machine nc_machine) pe_int (fun _ _ => rfl)) (pe_var (i := 2) rfl vs_47_state nd_state nc_state) (fun _ _ => rfl)) (pe_var (i := 4) rfl vs_47_taken nd_taken nc_taken) (nomark _)) pe_int pe_int)) (by rfl) (.inl rfl))
 (pss_cons (ps_set (i := 2) sc_47.nd rfl (Or.inl kd_47_state) (pe_ix (ix_X (hu65 hr)) (pe_ix (ix_X (hu65 hr)) (pe_ix (ix_X (hu65 hr)) (pe_var (i := 0) rfl vs_47_machine nd_machine nc_machine) pe_int (fun _ _ => rfl)) (pe_var (i := 2) rfl vs_47_state nd_state nc_state) (fun _ _ => rfl)) (pe_ifExp (pt_truth (pe_var (i := 4) rfl vs_47_taken nd_taken nc_taken) (by intro _; rfl)) pe_int pe_int) (fun _ _ => rfl)) (by rfl) (.inl rfl))
 pss_nil)))
 (pss_cons (ps_ret (pe_var (i := 3) rfl vs_47_wrong nd_wrong nc_wrong))
 pss_nil)))
/- _law_outcomes -/
theorem b_48 (Z : Fac K mg (Glb.mk K C F) FD pk cv tb) (IH : ∀ f, tb.ids.contains f = true → FnOk P w K mg base (L2.CX P w) (3 * n) (F f) (FD f) (pk f) (spI (Glb.mk K C F) T n f)) (IHA : ∀ f, idA.contains f = true → FnA P w K mg base (L2.CX P w) (3 * n) (F f) (FD f) (pk f) (spI (Glb.mk K C F) T n f)) (XH : ∀ (i : Nat) (q : Nat × Str × Nat × List Str), tb.excs[i]? = some q → FnOk P w K mg base (L2.CX P w) 1 (F q.2.2.1) (FD q.2.2.1) (pk q.2.2.1) (spXI K (C q.1) q.2.2.2)) {cdv : Value} {A : Around} {outer : List PySem.Env} {s : Shared} {H : Hp} {E : L2.XK} (hr : Room (3 * n + 2) (A.deeper (envOfC "_law_outcomes" (defScope s48) s.heap.objs.size (F 48) cdv))) :
    PSs (cxOf (L2.CX P w) P w K mg base N48 "_law_outcomes" (defScope s48) (F 48) cdv A outer s H E) (defBody s48) (rdSs (Glb.mk K C F) (spI (Glb.mk K C F) T n) cv xi0 (fun cls dd _ H => E cls dd H) t48.body) :=
  (pss_cons (ps_if (pt_cmpR op_cmp_gt (pe_callS (IH 14 rfl) (hr.mono (by omega)) gl_48__law_draw (Z.fn 9 (14, "_law_draw") rfl) (Z.kp 14 rfl) (Z.bnd 14 (.inl rfl)) (fun σ => passAt (takes_of rfl rfl rfl rfl) σ) (pa_cons (pe_var (i := 0) rfl vs_48_draws nd_draws nc_draws) (pa_cons pe_int pa_nil)) nd__law_draw) pe_int (nomark _)) (pss_cons (ps_ret (pe_callTy cb_tuple gl_48_tuple (Z.free 4 "tuple" rfl) bt_tuple (pa_cons (pe_lc (own := [("k", 2)]) rfl sc_48.nd (pi_range1 gl_48_range (Z.free 6 "range" rfl) (pa_cons (pe_callS (IH 14 rfl) (hr.mono (by omega)) gl_48__law_draw (Z.fn 9 (14, "_law_draw") rfl) (Z.kp 14 rfl) (Z.bnd 14 (.inl rfl)) (fun σ => passAt (takes_of rfl rfl rfl rfl) σ) (pa_cons (pe_var (i := 0) rfl vs_48_draws nd_draws nc_draws) (pa_cons pe_int pa_nil)) nd__law_draw) pa_nil)) (blkOk_by (by kernel_rfl)) (fun _ _ _ _ _ => (pg_name (i := 2) sc_48.nd rfl (Or.inl rfl) (.inr rfl))) (fun _ _ _ _ _ => pts_nil) (fun _ _ _ _ _ => (pe_cmpR op_cmp_gt (pe_callS (IH 14 rfl) (hr.mono (by omega)) (by rfl) (Z.fn 9 (14, "_law_draw") rfl) (Z.kp 14 rfl) (Z.bnd 14 (.inl rfl)) (fun σ => passAt takesF σ) (pa_cons (pv 0 rfl (by first | exact Or.inl rfl | exact Or.inr (Or.inl rfl) | exact Or.inr (Or.inr rfl)) nd_draws nc_draws) (pa_cons pe_int pa_nil)) nd__law_draw) pe_int (nomark _)))) pa_nil) nn_tuple nd_tuple))
 pss_nil) pss_nil)
 (pss_cons (ps_setLc (i := 1) (own := [("k", 2)]) rfl sc_48.nd rfl kd_48_row (sw_true rfl kd_48_row rfl (by decide +kernel)) (pi_range1 gl_48_range (Z.free 6 "range" rfl) (pa_cons (pe_op op_bin_add pe_int (pe_callS (IH 14 rfl) (hr.mono (by omega)) gl_48__law_draw (Z.fn 9 (14, "_law_draw") rfl) (Z.kp 14 rfl) (Z.bnd 14 (.inl rfl)) (fun σ => passAt (takes_of rfl rfl rfl rfl) σ) (pa_cons (pe_var (i := 0) rfl vs_48_draws nd_draws nc_draws) (pa_cons pe_int pa_nil)) nd__law_draw)) pa_nil)) (blkOk_by (by kernel_rfl)) (fun _ _ _ _ _ => (pg_name (i := 2) sc_48.nd rfl (Or.inl rfl) (.inr rfl))) (fun _ _ _ _ _ => pts_nil) (fun _ _ _ _ _ => (pe_cmpR (op_cmp_eq (hu64 hr)) (pe_callS (IH 14 rfl) (hr.mono (by omega)) (by rfl) (Z.fn 9 (14, "_law_draw") rfl) (Z.kp 14 rfl) (Z.bnd 14 (.inl rfl)) (fun σ => passAt takesF σ) (pa_cons (pv 0 rfl (by first | exact Or.inl rfl | exact Or.inr (Or.inl rfl) | exact Or.inr (Or.inr rfl)) nd_draws nc_draws) (pa_cons pe_int pa_nil)) nd__law_draw) pe_int (nomark _))))
 (pss_cons (ps_ret (pe_callTy cb_tuple gl_48_tuple (Z.free 4 "tuple" rfl) bt_tuple (pa_cons (pe_op op_bin_mul (pe_var (i := 1) rfl vs_48_row nd_row nc_row) (pe_callS (IH 14 rfl) (hr.mono (by omega)) gl_48__law_draw (Z.fn 9 (14, "_law_draw") rfl) (Z.kp 14 rfl) (Z.bnd 14 (.inl rfl)) (fun σ => passAt (takes_of rfl rfl rfl rfl) σ) (pa_cons (pe_var (i := 0) rfl vs_48_draws nd_draws nc_draws) (pa_cons pe_int pa_nil)) nd__law_draw)) pa_nil) nn_tuple nd_tuple))
 pss_nil)))
/- _law_refusals -/
theorem b_49 (Z : Fac K mg (Glb.mk K C F) FD pk cv tb) (IH : ∀ f, tb.ids.contains f = true → FnOk P w K mg base (L2.CX P w) (3 * n) (F f) (FD f) (pk f) (spI (Glb.mk K C F) T n f)) (IHA : ∀ f, idA.contains f = true → FnA P w K mg base (L2.CX P w) (3 * n) (F f) (FD f) (pk f) (spI (Glb.mk K C F) T n f)) (XH : ∀ (i : Nat) (q : Nat × Str × Nat × List Str), tb.excs[i]? = some q → FnOk P w K mg base (L2.CX P w) 1 (F q.2.2.1) (FD q.2.2.1) (pk q.2.2.1) (spXI K (C q.1) q.2.2.2)) {cdv : Value} {A : Around} {outer : List PySem.Env} {s : Shared} {H : Hp} {E : L2.XK} (hr : Room (3 * n + 2) (A.deeper (envOfC "_law_refusals" (defScope s49) s.heap.objs.size (F 49) cdv))) :
    PSs (cxOf (L2.CX P w) P w K mg base N49 "_law_refusals" (defScope s49) (F 49) cdv A outer s H E) (defBody s49) (rdSs (Glb.mk K C F) (spI (Glb.mk K C F) T n) cv xi0 (fun cls dd _ H => E cls dd H) t49.body) :=
  (pss_cons (ps_set (i := 0) sc_49.nd rfl (Or.inl kd_49_ok) (pe_tup (pa_cons (pe_tup (pa_cons pe_bl pa_nil)) (pa_cons (pe_tup (pa_cons (pe_tup (pa_cons pe_int (pa_cons pe_int pa_nil))) pa_nil)) pa_nil))) (by rfl) (.inl rfl))
 (pss_cons (ps_set (i := 1) sc_49.nd rfl (Or.inl kd_49_wrong) (pe_lst (pa_cons pe_non (pa_cons (pe_tup pa_nil) (pa_cons (pe_slice sl_X (pe_var (i := 0) rfl vs_49_ok nd_ok nc_ok) po_none (po_some pe_int)) (pa_cons (pe_lst (pa_cons (pe_tup (pa_cons pe_bl pa_nil)) (pa_cons (pe_tup (pa_cons (pe_tup (pa_cons pe_int (pa_cons pe_int pa_nil))) pa_nil)) pa_nil))) (pa_cons (pe_tup (pa_cons (pe_tup (pa_cons pe_int pa_nil)) (pa_cons (pe_tup (pa_cons (pe_tup (pa_cons pe_int (pa_cons pe_int pa_nil))) pa_nil)) pa_nil))) (pa_cons (pe_tup (pa_cons (pe_tup (pa_cons pe_bl pa_nil)) (pa_cons (pe_tup (pa_cons (pe_tup (pa_cons pe_int (pa_cons pe_int pa_nil))) pa_nil)) pa_nil))) pa_nil))))))) (by rfl) (.inl rfl))
 (pss_cons (ps_set (i := 1) sc_49.nd rfl (Or.inl kd_49_wrong) (pe_op op_bin_add (pe_var (i := 1) rfl vs_49_wrong nd_wrong nc_wrong) (pe_lst (pa_cons (pe_tup (pa_cons (pe_tup (pa_cons pe_bl pa_nil)) (pa_cons (pe_tup (pa_cons (pe_tup (pa_cons pe_int pa_nil)) pa_nil)) pa_nil))) (pa_cons (pe_tup (pa_cons (pe_tup (pa_cons pe_bl pa_nil)) (pa_cons (pe_tup pa_nil) pa_nil))) (pa_cons (pe_tup (pa_cons (pe_tup pa_nil) (pa_cons (pe_tup pa_nil) pa_nil))) (pa_cons (pe_tup (pa_cons (pe_op op_bin_mul (pe_tup (pa_cons pe_bl pa_nil)) pe_int) (pa_cons (pe_op op_bin_mul (pe_tup (pa_cons (pe_tup (pa_cons pe_int (pa_cons pe_int pa_nil))) pa_nil)) pe_int) pa_nil))) (pa_cons (pe_tup (pa_cons (pe_tup (pa_cons pe_bl pa_nil)) (pa_cons (pe_tup (pa_cons (pe_lst (pa_cons pe_int (pa_cons pe_int pa_nil))) pa_nil)) pa_nil))) (pa_cons (pe_tup (pa_cons (pe_tup (pa_cons pe_bl pa_nil)) (pa_cons (pe_tup (pa_cons (pe_tup (pa_cons pe_bl (pa_cons pe_int pa_nil))) pa_nil)) pa_nil))) pa_nil)))))))) (by rfl) (.inl rfl))
 (pss_cons (ps_for (passes_of rfl) rfl (pi_seq (pi_list (pe_var (i := 1) rfl vs_49_wrong nd_wrong nc_wrong)) (pi_tup (pe_var (i := 1) rfl vs_49_wrong nd_wrong nc_wrong)) (pi_str (pe_var (i := 1) rfl vs_49_wrong nd_wrong nc_wrong))) (pg_name (i := 2) sc_49.nd rfl (Or.inl kd_49_bad) (.inl rfl)) (pss_cons (ps_if (pt_cmpR op_cmp_isn (pe_callS (IH 38 rfl) (hr.mono (by omega)) gl_49_is_machine (Z.fn 3 (38, "is_machine") rfl) (Z.kp 38 rfl) (Z.bnd 38 (.inl rfl)) (fun σ => passAt (takes_of rfl rfl rfl rfl) σ) (pa_cons (pe_var (i := 2) rfl vs_49_bad nd_bad nc_bad) pa_nil) nd_is_machine) pe_bl (nomark _)) (pss_cons (ps_ret pe_bl)
 pss_nil) pss_nil)
 (pss_cons (ps_tryX (g := Glb.mk K C F) rfl rfl rfl sc_49.nd (takes_of rfl rfl rfl rfl) (fun W pn xe tk po => (pss_cons (ps_expr (pe_callS (IH 39 rfl) (hr.mono (by omega)) gl_49_wrong_of (Z.fn 10 (39, "wrong_of") rfl) (Z.kp 39 rfl) (Z.bnd 39 (.inl rfl)) (fun σ => passAt tk σ) (pa_cons (pe_var (i := 2) rfl vs_49_bad nd_bad nc_bad) (pa_cons (pe_tup (pa_cons pe_bl pa_nil)) pa_nil)) nd_wrong_of))
 (pss_cons (ps_ret pe_bl)
 pss_nil)))
 (.as_ (i := 3) rfl kd_49_e ⟨gl_49_BadPlan, nd_BadPlan, .inl (Z.tr 0 (3, "BadPlan") rfl)⟩ (fun a oe cls d pn hz hf => (pss_cons (ps_if (pt_not (pt_val (by exact pe_exIs (.type "ValueError") rfl rfl vs_49_e hz hf (xi_of Z.xi (by decide)) (pe_bltn (v := .ty "ValueError") (by exact gl_49_ValueError) (Z.free 10 "ValueError" rfl) bt_ValueError rfl nn_ValueError nd_ValueError) (fun u h => h) (by exact gl_49_isinstance) (by exact (Z.free 1 "isinstance" rfl)) nd_e nc_e))) (pss_cons (ps_ret pe_bl)
 pss_nil) pss_nil)
 pss_nil)) .nil))
 pss_nil)))
 (pss_cons (ps_for (passes_of rfl) rfl (pi_seq (pi_list (pe_lst (pa_cons pe_non (pa_cons (pe_lst (pa_cons pe_bl pa_nil)) (pa_cons (pe_tup (pa_cons pe_int pa_nil)) (pa_cons (pe_tup (pa_cons pe_non pa_nil)) (pa_cons pe_str (pa_cons (pe_tup (pa_cons pe_bl (pa_cons pe_int pa_nil))) pa_nil)))))))) (pi_tup (pe_lst (pa_cons pe_non (pa_cons (pe_lst (pa_cons pe_bl pa_nil)) (pa_cons (pe_tup (pa_cons pe_int pa_nil)) (pa_cons (pe_tup (pa_cons pe_non pa_nil)) (pa_cons pe_str (pa_cons (pe_tup (pa_cons pe_bl (pa_cons pe_int pa_nil))) pa_nil)))))))) (pi_str (pe_lst (pa_cons pe_non (pa_cons (pe_lst (pa_cons pe_bl pa_nil)) (pa_cons (pe_tup (pa_cons pe_int pa_nil)) (pa_cons (pe_tup (pa_cons pe_non pa_nil)) (pa_cons pe_str (pa_cons (pe_tup (pa_cons pe_bl (pa_cons pe_int pa_nil))) pa_nil))))))))) (pg_name (i := 2) sc_49.nd rfl (Or.inl kd_49_bad) (.inl rfl)) (pss_cons (ps_for (passes_of rfl) rfl (pi_range1 gl_49_range (Z.free 6 "range" rfl) (pa_cons pe_int pa_nil)) (pg_name (i := 4) sc_49.nd rfl (Or.inl kd_49_which) (.inl rfl)) (pss_cons (ps_tryX (g := Glb.mk K C F) rfl rfl rfl sc_49.nd (takes_of rfl rfl rfl rfl) (fun W pn xe tk po => (pss_cons (ps_if (pt_cmpR (op_cmp_eq (hu64 hr)) (pe_var (i := 4) rfl vs_49_which nd_which nc_which) pe_int (nomark _)) (pss_cons (ps_expr (pe_callS (IH 39 rfl) (hr.mono (by omega)) gl_49_wrong_of (Z.fn 10 (39, "wrong_of") rfl) (Z.kp 39 rfl) (Z.bnd 39 (.inl rfl)) (fun σ => passAt tk σ) (pa_cons (pe_var (i := 0) rfl vs_49_ok nd_ok nc_ok) (pa_cons (pe_var (i := 2) rfl vs_49_bad nd_bad nc_bad) pa_nil)) nd_wrong_of))
 pss_nil) (pss_cons (ps_if (pt_cmpR (op_cmp_eq (hu64 hr)) (pe_var (i := 4) rfl vs_49_which nd_which nc_which) pe_int (nomark _)) (pss_cons (ps_expr (pe_callS (IH 45 rfl) (hr.mono (by omega)) gl_49_fewest_states (Z.fn 11 (45, "fewest_states") rfl) (Z.kp 45 rfl) (Z.bnd 45 (.inl rfl)) (fun σ => passAt tk σ) (pa_cons (pe_var (i := 2) rfl vs_49_bad nd_bad nc_bad) (pa_cons pe_int pa_nil)) nd_fewest_states))
 pss_nil) (pss_cons (ps_expr (pe_ec (pe_callE1 (by exact (pe_ix (ix_X (hu65 hr)) (pe_lst (pa_cons (pe_glob gl_49_least_wrong (Z.fn 7 (43, "least_wrong") rfl) rfl nd_least_wrong) (pa_cons (pe_glob gl_49_counts (Z.fn 12 (44, "counts") rfl) rfl nd_counts) pa_nil))) (pe_op op_bin_sub (pe_var (i := 4) rfl vs_49_which nd_which nc_which) pe_int) (fun _ _ => rfl))) (IH 43 rfl) (hr.mono (by omega)) (Z.kp 43 rfl) (Z.bnd 43 (.inl rfl)) (fun σ => passAt tk σ) (pa_cons (pe_var (i := 2) rfl vs_49_bad nd_bad nc_bad) (pa_cons pe_int pa_nil))) (pe_ec (pe_callE1 (by exact (pe_ix (ix_X (hu65 hr)) (pe_lst (pa_cons (pe_glob gl_49_least_wrong (Z.fn 7 (43, "least_wrong") rfl) rfl nd_least_wrong) (pa_cons (pe_glob gl_49_counts (Z.fn 12 (44, "counts") rfl) rfl nd_counts) pa_nil))) (pe_op op_bin_sub (pe_var (i := 4) rfl vs_49_which nd_which nc_which) pe_int) (fun _ _ => rfl))) (IH 44 rfl) (hr.mono (by omega)) (Z.kp 44 rfl) (Z.bnd 44 (.inl rfl)) (fun σ => passAt tk σ) (pa_cons (pe_var (i := 2) rfl vs_49_bad nd_bad nc_bad) (pa_cons pe_int pa_nil))) pe_en)))
 pss_nil))
 pss_nil))
 (pss_cons (ps_ret pe_bl)
 pss_nil)))
 (.as_ (i := 3) rfl kd_49_e ⟨gl_49_BadPlan, nd_BadPlan, .inl (Z.tr 0 (3, "BadPlan") rfl)⟩ (fun a oe cls d pn hz hf => (pss_cons (ps_if (pt_not (pt_val (by exact pe_exIs (.type "ValueError") rfl rfl vs_49_e hz hf (xi_of Z.xi (by decide)) (pe_bltn (v := .ty "ValueError") (by exact gl_49_ValueError) (Z.free 10 "ValueError" rfl) bt_ValueError rfl nn_ValueError nd_ValueError) (fun u h => h) (by exact gl_49_isinstance) (by exact (Z.free 1 "isinstance" rfl)) nd_e nc_e))) (pss_cons (ps_ret pe_bl)
 pss_nil) pss_nil)
 pss_nil)) .nil))
 pss_nil))
 pss_nil))
 (pss_cons (ps_for (passes_of rfl) rfl (pi_seq (pi_list (pe_lst (pa_cons pe_int (pa_cons pe_int (pa_cons pe_non (pa_cons pe_bl (pa_cons (pe_un un_neg pe_int) pa_nil))))))) (pi_tup (pe_lst (pa_cons pe_int (pa_cons pe_int (pa_cons pe_non (pa_cons pe_bl (pa_cons (pe_un un_neg pe_int) pa_nil))))))) (pi_str (pe_lst (pa_cons pe_int (pa_cons pe_int (pa_cons pe_non (pa_cons pe_bl (pa_cons (pe_un un_neg pe_int) pa_nil)))))))) (pg_name (i := 2) sc_49.nd rfl (Or.inl kd_49_bad) (.inl rfl)) (pss_cons (ps_for (passes_of rfl) rfl (pi_range1 gl_49_range (Z.free 6 "range" rfl) (pa_cons pe_int pa_nil)) (pg_name (i := 4) sc_49.nd rfl (Or.inl kd_49_which) (.inl rfl)) (pss_cons (ps_tryX (g := Glb.mk K C F) rfl rfl rfl sc_49.nd (takes_of rfl rfl rfl rfl) (fun W pn xe tk po => (pss_cons (ps_if (pt_cmpR (op_cmp_eq (hu64 hr)) (pe_var (i := 4) rfl vs_49_which nd_which nc_which) pe_int (nomark _)) (pss_cons (ps_expr (pe_callS (IH 42 rfl) (hr.mono (by omega)) gl_49_machines (Z.fn 6 (42, "machines") rfl) (Z.kp 42 rfl) (Z.bnd 42 (.inl rfl)) (fun σ => passAt tk σ) (pa_cons (pe_var (i := 2) rfl vs_49_bad nd_bad nc_bad) pa_nil) nd_machines))
 pss_nil) (pss_cons (ps_expr (pe_ec (pe_callE1 (by exact (pe_ix (ix_X (hu65 hr)) (pe_lst (pa_cons (pe_glob gl_49_least_wrong (Z.fn 7 (43, "least_wrong") rfl) rfl nd_least_wrong) (pa_cons (pe_glob gl_49_counts (Z.fn 12 (44, "counts") rfl) rfl nd_counts) pa_nil))) (pe_op op_bin_sub (pe_var (i := 4) rfl vs_49_which nd_which nc_which) pe_int) (fun _ _ => rfl))) (IH 43 rfl) (hr.mono (by omega)) (Z.kp 43 rfl) (Z.bnd 43 (.inl rfl)) (fun σ => passAt tk σ) (pa_cons (pe_tup (pa_cons pe_bl pa_nil)) (pa_cons (pe_var (i := 2) rfl vs_49_bad nd_bad nc_bad) pa_nil))) (pe_ec (pe_callE1 (by exact (pe_ix (ix_X (hu65 hr)) (pe_lst (pa_cons (pe_glob gl_49_least_wrong (Z.fn 7 (43, "least_wrong") rfl) rfl nd_least_wrong) (pa_cons (pe_glob gl_49_counts (Z.fn 12 (44, "counts") rfl) rfl nd_counts) pa_nil))) (pe_op op_bin_sub (pe_var (i := 4) rfl vs_49_which nd_which nc_which) pe_int) (fun _ _ => rfl))) (IH 44 rfl) (hr.mono (by omega)) (Z.kp 44 rfl) (Z.bnd 44 (.inl rfl)) (fun σ => passAt tk σ) (pa_cons (pe_tup (pa_cons pe_bl pa_nil)) (pa_cons (pe_var (i := 2) rfl vs_49_bad nd_bad nc_bad) pa_nil))) pe_en)))
 pss_nil))
 (pss_cons (ps_ret pe_bl)
 pss_nil)))
 (.as_ (i := 3) rfl kd_49_e ⟨gl_49_BadPlan, nd_BadPlan, .inl (Z.tr 0 (3, "BadPlan") rfl)⟩ (fun a oe cls d pn hz hf => (pss_cons (ps_if (pt_not (pt_val (by exact pe_exIs (.type "ValueError") rfl rfl vs_49_e hz hf (xi_of Z.xi (by decide)) (pe_bltn (v := .ty "ValueError") (by exact gl_49_ValueError) (Z.free 10 "ValueError" rfl) bt_ValueError rfl nn_ValueError nd_ValueError) (fun u h => h) (by exact gl_49_isinstance) (by exact (Z.free 1 "isinstance" rfl)) nd_e nc_e))) (pss_cons (ps_ret pe_bl)
 pss_nil) pss_nil)
 pss_nil)) .nil))
 pss_nil))
 pss_nil))
 (pss_cons (ps_for (passes_of rfl) rfl (pi_range1 gl_49_range (Z.free 6 "range" rfl) (pa_cons pe_int pa_nil)) (pg_name (i := 4) sc_49.nd rfl (Or.inl kd_49_which) (.inl rfl)) (pss_cons (ps_tryX (g := Glb.mk K C F) rfl rfl rfl sc_49.nd (takes_of rfl rfl rfl rfl) (fun W pn xe tk po => (pss_cons (ps_if (pt_cmpR (op_cmp_eq (hu64 hr)) (pe_var (i := 4) rfl vs_49_which nd_which nc_which) pe_int (nomark _)) (pss_cons (ps_expr (pe_callS (IH 43 rfl) (hr.mono (by omega)) gl_49_least_wrong (Z.fn 7 (43, "least_wrong") rfl) (Z.kp 43 rfl) (Z.bnd 43 (.inl rfl)) (fun σ => passAt tk σ) (pa_cons (pe_op op_bin_mul (pe_tup (pa_cons pe_bl pa_nil)) pe_int) (pa_cons pe_int pa_nil)) nd_least_wrong))
 pss_nil) (pss_cons (ps_expr (pe_callS (IH 45 rfl) (hr.mono (by omega)) gl_49_fewest_states (Z.fn 11 (45, "fewest_states") rfl) (Z.kp 45 rfl) (Z.bnd 45 (.inl rfl)) (fun σ => passAt tk σ) (pa_cons (pe_tup (pa_cons pe_bl pa_nil)) (pa_cons (pe_un un_neg pe_int) pa_nil)) nd_fewest_states))
 pss_nil))
 (pss_cons (ps_ret pe_bl)
 pss_nil)))
 (.as_ (i := 3) rfl kd_49_e ⟨gl_49_Refused, nd_Refused, .inl (Z.tr 1 (6, "Refused") rfl)⟩ (fun a oe cls d pn hz hf => (pss_cons (ps_if (PW.pt (pw_or (pt_not (pt_val (by exact pe_exIs (.type "ValueError") rfl rfl vs_49_e hz hf (xi_of Z.xi (by decide)) (pe_bltn (v := .ty "ValueError") (by exact gl_49_ValueError) (Z.free 10 "ValueError" rfl) bt_ValueError rfl nn_ValueError nd_ValueError) (fun u h => h) (by exact gl_49_isinstance) (by exact (Z.free 1 "isinstance" rfl)) nd_e nc_e))) (pw_or (pt_cmpR (op_cmp_eq (hu64 hr)) (pe_var (i := 4) rfl vs_49_which nd_which nc_which) pe_int (nomark _)) (pw_or1 (pt_cmpR (op_cmp_ne (hu64 hr)) (by exact pe_exFld rfl vs_49_e hz hf (xf_of Z.xf (by decide +kernel)) nd_e nc_e) pe_str (nomark _)))))) (pss_cons (ps_ret pe_bl)
 pss_nil) pss_nil)
 pss_nil)) (.as_ (i := 3) rfl kd_49_e ⟨gl_49_BadPlan, nd_BadPlan, .inl (Z.tr 0 (3, "BadPlan") rfl)⟩ (fun a oe cls d pn hz hf => (pss_cons (ps_if (PW.pt (pw_or (pt_not (pt_val (by exact pe_exIs (.type "ValueError") rfl rfl vs_49_e hz hf (xi_of Z.xi (by decide)) (pe_bltn (v := .ty "ValueError") (by exact gl_49_ValueError) (Z.free 10 "ValueError" rfl) bt_ValueError rfl nn_ValueError nd_ValueError) (fun u h => h) (by exact gl_49_isinstance) (by exact (Z.free 1 "isinstance" rfl)) nd_e nc_e))) (pw_or1 (pt_cmpR (op_cmp_eq (hu64 hr)) (pe_var (i := 4) rfl vs_49_which nd_which nc_which) pe_int (nomark _))))) (pss_cons (ps_ret pe_bl)
 pss_nil) pss_nil)
 pss_nil)) .nil)))
 pss_nil))
 (pss_cons (ps_ret (pe_and (pe_cmpR op_cmp_is (pe_callS (IH 38 rfl) (hr.mono (by omega)) gl_49_is_machine (Z.fn 3 (38, "is_machine") rfl) (Z.kp 38 rfl) (Z.bnd 38 (.inl rfl)) (fun σ => passAt (takes_of rfl rfl rfl rfl) σ) (pa_cons (pe_var (i := 0) rfl vs_49_ok nd_ok nc_ok) pa_nil) nd_is_machine) pe_bl (nomark _)) (pe_one (pe_cmpR (op_cmp_eq (hu64 hr)) (pe_callS (IH 39 rfl) (hr.mono (by omega)) gl_49_wrong_of (Z.fn 10 (39, "wrong_of") rfl) (Z.kp 39 rfl) (Z.bnd 39 (.inl rfl)) (fun σ => passAt (takes_of rfl rfl rfl rfl) σ) (pa_cons (pe_var (i := 0) rfl vs_49_ok nd_ok nc_ok) (pa_cons (pe_tup pa_nil) pa_nil)) nd_wrong_of) pe_int (nomark _)))))
 pss_nil))))))))
/- law -/
theorem b_50 (Z : Fac K mg (Glb.mk K C F) FD pk cv tb) (IH : ∀ f, tb.ids.contains f = true → FnOk P w K mg base (L2.CX P w) (3 * n) (F f) (FD f) (pk f) (spI (Glb.mk K C F) T n f)) (IHA : ∀ f, idA.contains f = true → FnA P w K mg base (L2.CX P w) (3 * n) (F f) (FD f) (pk f) (spI (Glb.mk K C F) T n f)) (XH : ∀ (i : Nat) (q : Nat × Str × Nat × List Str), tb.excs[i]? = some q → FnOk P w K mg base (L2.CX P w) 1 (F q.2.2.1) (FD q.2.2.1) (pk q.2.2.1) (spXI K (C q.1) q.2.2.2)) {cdv : Value} {A : Around} {outer : List PySem.Env} {s : Shared} {H : Hp} {E : L2.XK} (hr : Room (3 * n + 2) (A.deeper (envOfC "law" (defScope s50) s.heap.objs.size (F 50) cdv))) :
    PSs (cxOf (L2.CX P w) P w K mg base N50 "law" (defScope s50) (F 50) cdv A outer s H E) (defBody s50) (rdSs (Glb.mk K C F) (spI (Glb.mk K C F) T n) cv xi0 (fun cls dd _ H => E cls dd H) t50.body) :=
  (pss_cons (ps_set (i := 1) sc_50.nd rfl (Or.inl kd_50_draws) (pe_callS (IH 13 rfl) (hr.mono (by omega)) gl_50__law_draws (Z.fn 18 (13, "_law_draws") rfl) (Z.kp 13 rfl) (Z.bnd 13 (.inl rfl)) (fun σ => passAt (takes_of rfl rfl rfl rfl) σ) (pa_cons (pe_var (i := 0) rfl vs_50_script nd_script nc_script) pa_nil) nd__law_draws) (by rfl) (.inl rfl))
 (pss_cons (ps_for (passes_of rfl) rfl (pi_range1 gl_50_range (Z.free 6 "range" rfl) (pa_cons pe_int pa_nil)) (pg_name (i := 2) sc_50.nd rfl (Or.inl kd_50_turn) (.inl rfl)) (pss_cons (ps_asg (pe_tup (pa_cons (pe_callS (IH 48 rfl) (hr.mono (by omega)) gl_50__law_outcomes (Z.fn 16 (48, "_law_outcomes") rfl) (Z.kp 48 rfl) (Z.bnd 48 (.inl rfl)) (fun σ => passAt (takes_of rfl rfl rfl rfl) σ) (pa_cons (pe_var (i := 1) rfl vs_50_draws nd_draws nc_draws) pa_nil) nd__law_outcomes) (pa_cons (pe_op op_bin_add pe_int (pe_callS (IH 14 rfl) (hr.mono (by omega)) gl_50__law_draw (Z.fn 9 (14, "_law_draw") rfl) (Z.kp 14 rfl) (Z.bnd 14 (.inl rfl)) (fun σ => passAt (takes_of rfl rfl rfl rfl) σ) (pa_cons (pe_var (i := 1) rfl vs_50_draws nd_draws nc_draws) (pa_cons pe_int pa_nil)) nd__law_draw)) pa_nil))) (pg_tup rfl (pgs_cons (pg_name (i := 3) sc_50.nd rfl (Or.inr kd_50_outcomes) (.inl rfl)) (pgs_cons (pg_name (i := 4) sc_50.nd rfl (Or.inl kd_50_states) (.inl rfl)) pgs_nil))))
 (pss_cons (ps_set (i := 5) sc_50.nd rfl (Or.inl kd_50_own) (pe_callS (IH 46 rfl) (hr.mono (by omega)) gl_50__law_machines (Z.fn 14 (46, "_law_machines") rfl) (Z.kp 46 rfl) (Z.bnd 46 (.inl rfl)) (fun σ => passAt (takes_of rfl rfl rfl rfl) σ) (pa_cons (pe_var (i := 4) rfl vs_50_states nd_states nc_states) pa_nil) nd__law_machines) (by rfl) (.inl rfl))
 (pss_cons (ps_set (i := 6) sc_50.nd rfl (Or.inr kd_50_rows) (pe_lc (own := [("machine", 12)]) rfl sc_50.nd (pi_seq (pi_list (pe_var (i := 5) rfl vs_50_own nd_own nc_own)) (pi_tup (pe_var (i := 5) rfl vs_50_own nd_own nc_own)) (pi_str (pe_var (i := 5) rfl vs_50_own nd_own nc_own))) (blkOk_by (by kernel_rfl)) (fun _ _ _ _ _ => (pg_name (i := 12) sc_50.nd rfl (Or.inl rfl) (.inr rfl))) (fun _ _ _ _ _ => pts_nil) (fun _ _ _ _ _ => (pe_callS (IH 47 rfl) (hr.mono (by omega)) (by rfl) (Z.fn 15 (47, "_law_wrong") rfl) (Z.kp 47 rfl) (Z.bnd 47 (.inl rfl)) (fun σ => passAt takesF σ) (pa_cons (pv 12 rfl (by first | exact Or.inl rfl | exact Or.inr (Or.inl rfl) | exact Or.inr (Or.inr rfl)) nd_machine nc_machine) (pa_cons (pv 3 rfl (by first | exact Or.inl rfl | exact Or.inr (Or.inl rfl) | exact Or.inr (Or.inr rfl)) nd_outcomes nc_outcomes) pa_nil)) nd__law_wrong))) (by rfl) (.inl rfl))
 (pss_cons (ps_if (pt_not (pt_truth (pe_callS (IH 15 rfl) (hr.mono (by omega)) gl_50__law_same (Z.fn 8 (15, "_law_same") rfl) (Z.kp 15 rfl) (Z.bnd 15 (.inl rfl)) (fun σ => passAt (takes_of rfl rfl rfl rfl) σ) (pa_cons (pe_callS (IH 42 rfl) (hr.mono (by omega)) gl_50_machines (Z.fn 6 (42, "machines") rfl) (Z.kp 42 rfl) (Z.bnd 42 (.inl rfl)) (fun σ => passAt (takes_of rfl rfl rfl rfl) σ) (pa_cons (pe_var (i := 4) rfl vs_50_states nd_states nc_states) pa_nil) nd_machines) (pa_cons (pe_callTy cb_tuple gl_50_tuple (Z.free 4 "tuple" rfl) bt_tuple (pa_cons (pe_var (i := 5) rfl vs_50_own nd_own nc_own) pa_nil) nn_tuple nd_tuple) pa_nil)) nd__law_same) (by intro _; rfl))) (pss_cons (ps_ret pe_bl)
 pss_nil) pss_nil)
 (pss_cons (ps_set (i := 7) sc_50.nd rfl (Or.inl kd_50_due) (pe_callTy cb_tuple gl_50_tuple (Z.free 4 "tuple" rfl) bt_tuple (pa_cons (pe_lc (own := [("wrong", 13)]) rfl sc_50.nd (pi_seq (pi_list (pe_srtSet rfl gl_50_sorted (Z.free 8 "sorted" rfl) bt_sorted gl_50_set (Z.free 13 "set" rfl) (pe_var (i := 6) rfl vs_50_rows nd_rows nc_rows))) (pi_tup (pe_srtSet rfl gl_50_sorted (Z.free 8 "sorted" rfl) bt_sorted gl_50_set (Z.free 13 "set" rfl) (pe_var (i := 6) rfl vs_50_rows nd_rows nc_rows))) (pi_str (pe_srtSet rfl gl_50_sorted (Z.free 8 "sorted" rfl) bt_sorted gl_50_set (Z.free 13 "set" rfl) (pe_var (i := 6) rfl vs_50_rows nd_rows nc_rows)))) (blkOk_by (by kernel_rfl)) (fun _ _ _ _ _ => (pg_name (i := 13) sc_50.nd rfl (Or.inl rfl) (.inr rfl))) (fun _ _ _ _ _ => pts_nil) (fun _ _ _ _ _ => (pe_tup (pa_cons (pv 13 rfl (by first | exact Or.inl rfl | exact Or.inr (Or.inl rfl) | exact Or.inr (Or.inr rfl)) nd_wrong nc_wrong) (pa_cons (pe_bm PySem.F.plainAttrs_list PySem.F.slot_list_count PySem.F.type_list_count mt_lcount (pv 6 rfl (by first | exact Or.inl rfl | exact Or.inr (Or.inl rfl) | exact Or.inr (Or.inr rfl)) nd_rows nc_rows) (pa_cons (pv 13 rfl (by first | exact Or.inl rfl | exact Or.inr (Or.inl rfl) | exact Or.inr (Or.inr rfl)) nd_wrong nc_wrong) pa_nil)) pa_nil))))) pa_nil) nn_tuple nd_tuple) (by rfl) (.inl rfl))
 (pss_cons (ps_if (pt_not (pt_truth (pe_callS (IH 15 rfl) (hr.mono (by omega)) gl_50__law_same (Z.fn 8 (15, "_law_same") rfl) (Z.kp 15 rfl) (Z.bnd 15 (.inl rfl)) (fun σ => passAt (takes_of rfl rfl rfl rfl) σ) (pa_cons (pe_lst (pa_cons (pe_callS (IH 43 rfl) (hr.mono (by omega)) gl_50_least_wrong (Z.fn 7 (43, "least_wrong") rfl) (Z.kp 43 rfl) (Z.bnd 43 (.inl rfl)) (fun σ => passAt (takes_of rfl rfl rfl rfl) σ) (pa_cons (pe_var (i := 3) rfl vs_50_outcomes nd_outcomes nc_outcomes) (pa_cons (pe_var (i := 4) rfl vs_50_states nd_states nc_states) pa_nil)) nd_least_wrong) (pa_cons (pe_callS (IH 44 rfl) (hr.mono (by omega)) gl_50_counts (Z.fn 12 (44, "counts") rfl) (Z.kp 44 rfl) (Z.bnd 44 (.inl rfl)) (fun σ => passAt (takes_of rfl rfl rfl rfl) σ) (pa_cons (pe_var (i := 3) rfl vs_50_outcomes nd_outcomes nc_outcomes) (pa_cons (pe_var (i := 4) rfl vs_50_states nd_states nc_states) pa_nil)) nd_counts) pa_nil))) (pa_cons (pe_lst (pa_cons (pe_tup (pa_cons (pe_callB (cb_min rfl) gl_50_min (Z.free 11 "min" rfl) bt_min (pa_cons (pe_var (i := 6) rfl vs_50_rows nd_rows nc_rows) pa_nil) nn_min nd_min) (pa_cons (pe_ix (ix_X (hu65 hr)) (pe_var (i := 5) rfl vs_50_own nd_own nc_own) (pe_bm PySem.F.plainAttrs_list PySem.F.slot_list_index PySem.F.type_list_index mt_index (pe_var (i := 6) rfl vs_50_rows nd_rows nc_rows) (pa_cons (pe_callB (cb_min rfl) gl_50_min (Z.free 11 "min" rfl) bt_min (pa_cons (pe_var (i := 6) rfl vs_50_rows nd_rows nc_rows) pa_nil) nn_min nd_min) pa_nil)) (fun _ _ => rfl)) pa_nil))) (pa_cons (pe_var (i := 7) rfl vs_50_due nd_due nc_due) pa_nil))) pa_nil)) nd__law_same) (by intro _; rfl))) (pss_cons (ps_ret pe_bl)
 pss_nil) pss_nil)
 (pss_cons (ps_set (i := 8) sc_50.nd rfl (Or.inl kd_50_one) (pe_callS (IH 16 rfl) (hr.mono (by omega)) gl_50__law_pick (Z.fn 17 (16, "_law_pick") rfl) (Z.kp 16 rfl) (Z.bnd 16 (.inl rfl)) (fun σ => passAt (takes_of rfl rfl rfl rfl) σ) (pa_cons (pe_var (i := 1) rfl vs_50_draws nd_draws nc_draws) (pa_cons (pe_var (i := 5) rfl vs_50_own nd_own nc_own) pa_nil)) nd__law_pick) (by rfl) (.inl rfl))
 (pss_cons (ps_if (pt_not (pt_truth (pe_callS (IH 15 rfl) (hr.mono (by omega)) gl_50__law_same (Z.fn 8 (15, "_law_same") rfl) (Z.kp 15 rfl) (Z.bnd 15 (.inl rfl)) (fun σ => passAt (takes_of rfl rfl rfl rfl) σ) (pa_cons (pe_callS (IH 39 rfl) (hr.mono (by omega)) gl_50_wrong_of (Z.fn 10 (39, "wrong_of") rfl) (Z.kp 39 rfl) (Z.bnd 39 (.inl rfl)) (fun σ => passAt (takes_of rfl rfl rfl rfl) σ) (pa_cons (pe_var (i := 8) rfl vs_50_one nd_one nc_one) (pa_cons (pe_var (i := 3) rfl vs_50_outcomes nd_outcomes nc_outcomes) pa_nil)) nd_wrong_of) (pa_cons (pe_callS (IH 47 rfl) (hr.mono (by omega)) gl_50__law_wrong (Z.fn 15 (47, "_law_wrong") rfl) (Z.kp 47 rfl) (Z.bnd 47 (.inl rfl)) (fun σ => passAt (takes_of rfl rfl rfl rfl) σ) (pa_cons (pe_var (i := 8) rfl vs_50_one nd_one nc_one) (pa_cons (pe_var (i := 3) rfl vs_50_outcomes nd_outcomes nc_outcomes) pa_nil)) nd__law_wrong) pa_nil)) nd__law_same) (by intro _; rfl))) (pss_cons (ps_ret pe_bl)
 pss_nil) pss_nil)
 pss_nil)))))))))
 (pss_cons (ps_set (i := 3) sc_50.nd rfl (Or.inr kd_50_outcomes) (pe_slice sl_X (pe_callS (IH 48 rfl) (hr.mono (by omega)) gl_50__law_outcomes (Z.fn 16 (48, "_law_outcomes") rfl) (Z.kp 48 rfl) (Z.bnd 48 (.inl rfl)) (fun σ => passAt (takes_of rfl rfl rfl rfl) σ) (pa_cons (pe_var (i := 1) rfl vs_50_draws nd_draws nc_draws) pa_nil) nd__law_outcomes) po_none (po_some pe_int)) (by rfl) (.inl rfl))
 (pss_cons (ps_set (i := 5) sc_50.nd rfl (Or.inl kd_50_own) (pe_callS (IH 46 rfl) (hr.mono (by omega)) gl_50__law_machines (Z.fn 14 (46, "_law_machines") rfl) (Z.kp 46 rfl) (Z.bnd 46 (.inl rfl)) (fun σ => passAt (takes_of rfl rfl rfl rfl) σ) (pa_cons pe_int pa_nil) nd__law_machines) (by rfl) (.inl rfl))
 (pss_cons (ps_set (i := 6) sc_50.nd rfl (Or.inr kd_50_rows) (pe_lc (own := [("machine", 12)]) rfl sc_50.nd (pi_seq (pi_list (pe_var (i := 5) rfl vs_50_own nd_own nc_own)) (pi_tup (pe_var (i := 5) rfl vs_50_own nd_own nc_own)) (pi_str (pe_var (i := 5) rfl vs_50_own nd_own nc_own))) (blkOk_by (by kernel_rfl)) (fun _ _ _ _ _ => (pg_name (i := 12) sc_50.nd rfl (Or.inl rfl) (.inr rfl))) (fun _ _ _ _ _ => pts_nil) (fun _ _ _ _ _ => (pe_callS (IH 47 rfl) (hr.mono (by omega)) (by rfl) (Z.fn 15 (47, "_law_wrong") rfl) (Z.kp 47 rfl) (Z.bnd 47 (.inl rfl)) (fun σ => passAt takesF σ) (pa_cons (pv 12 rfl (by first | exact Or.inl rfl | exact Or.inr (Or.inl rfl) | exact Or.inr (Or.inr rfl)) nd_machine nc_machine) (pa_cons (pv 3 rfl (by first | exact Or.inl rfl | exact Or.inr (Or.inl rfl) | exact Or.inr (Or.inr rfl)) nd_outcomes nc_outcomes) pa_nil)) nd__law_wrong))) (by rfl) (.inl rfl))
 (pss_cons (ps_set (i := 9) sc_50.nd rfl (Or.inr kd_50_least) (pe_op op_bin_add (pe_lc (own := [("states", 4)]) rfl sc_50.nd (pi_seq (pi_list (pe_tup (pa_cons pe_int (pa_cons pe_int pa_nil)))) (pi_tup (pe_tup (pa_cons pe_int (pa_cons pe_int pa_nil)))) (pi_str (pe_tup (pa_cons pe_int (pa_cons pe_int pa_nil))))) (blkOk_by (by kernel_rfl)) (fun _ _ _ _ _ => (pg_name (i := 4) sc_50.nd rfl (Or.inl rfl) (.inr rfl))) (fun _ _ _ _ _ => pts_nil) (fun _ _ _ _ _ => (pe_callB (cb_min rfl) (by rfl) (Z.free 11 "min" rfl) bt_min (pa_cons (pe_lc (own := [("machine", 12)]) rfl sc_50.nd (pi_seq (pi_list (pe_callS (IH 46 rfl) (hr.mono (by omega)) (by rfl) (Z.fn 14 (46, "_law_machines") rfl) (Z.kp 46 rfl) (Z.bnd 46 (.inl rfl)) (fun σ => passAt takesF σ) (pa_cons (pv 4 rfl (by first | exact Or.inl rfl | exact Or.inr (Or.inl rfl) | exact Or.inr (Or.inr rfl)) nd_states nc_states) pa_nil) nd__law_machines)) (pi_tup (pe_callS (IH 46 rfl) (hr.mono (by omega)) (by rfl) (Z.fn 14 (46, "_law_machines") rfl) (Z.kp 46 rfl) (Z.bnd 46 (.inl rfl)) (fun σ => passAt takesF σ) (pa_cons (pv 4 rfl (by first | exact Or.inl rfl | exact Or.inr (Or.inl rfl) | exact Or.inr (Or.inr rfl)) nd_states nc_states) pa_nil) nd__law_machines)) (pi_str (pe_callS (IH 46 rfl) (hr.mono (by omega)) (by rfl) (Z.fn 14 (46, "_law_machines") rfl) (Z.kp 46 rfl) (Z.bnd 46 (.inl rfl)) (fun σ => passAt takesF σ) (pa_cons (pv 4 rfl (by first | exact Or.inl rfl | exact Or.inr (Or.inl rfl) | exact Or.inr (Or.inr rfl)) nd_states nc_states) pa_nil) nd__law_machines))) (blkOk_by (by kernel_rfl)) (fun _ _ _ _ _ => (pg_name (i := 12) sc_50.nd rfl (Or.inl rfl) (.inr rfl))) (fun _ _ _ _ _ => pts_nil) (fun _ _ _ _ _ => (pe_callS (IH 47 rfl) (hr.mono (by omega)) (by rfl) (Z.fn 15 (47, "_law_wrong") rfl) (Z.kp 47 rfl) (Z.bnd 47 (.inl rfl)) (fun σ => passAt takesF σ) (pa_cons (pv 12 rfl (by first | exact Or.inl rfl | exact Or.inr (Or.inl rfl) | exact Or.inr (Or.inr rfl)) nd_machine nc_machine) (pa_cons (pv 3 rfl (by first | exact Or.inl rfl | exact Or.inr (Or.inl rfl) | exact Or.inr (Or.inr rfl)) nd_outcomes nc_outcomes) pa_nil)) nd__law_wrong))) pa_nil) nn_min nd_min))) (pe_lst (pa_cons (pe_callB (cb_min rfl) gl_50_min (Z.free 11 "min" rfl) bt_min (pa_cons (pe_var (i := 6) rfl vs_50_rows nd_rows nc_rows) pa_nil) nn_min nd_min) pa_nil))) (by rfl) (.inl rfl))
 (pss_cons (ps_if (PW.pt (pw_or (pt_not (pt_truth (pe_callS (IH 15 rfl) (hr.mono (by omega)) gl_50__law_same (Z.fn 8 (15, "_law_same") rfl) (Z.kp 15 rfl) (Z.bnd 15 (.inl rfl)) (fun σ => passAt (takes_of rfl rfl rfl rfl) σ) (pa_cons (pe_callS (IH 43 rfl) (hr.mono (by omega)) gl_50_least_wrong (Z.fn 7 (43, "least_wrong") rfl) (Z.kp 43 rfl) (Z.bnd 43 (.inl rfl)) (fun σ => passAt (takes_of rfl rfl rfl rfl) σ) (pa_cons (pe_var (i := 3) rfl vs_50_outcomes nd_outcomes nc_outcomes) (pa_cons pe_int pa_nil)) nd_least_wrong) (pa_cons (pe_tup (pa_cons (pe_callB (cb_min rfl) gl_50_min (Z.free 11 "min" rfl) bt_min (pa_cons (pe_var (i := 6) rfl vs_50_rows nd_rows nc_rows) pa_nil) nn_min nd_min) (pa_cons (pe_ix (ix_X (hu65 hr)) (pe_var (i := 5) rfl vs_50_own nd_own nc_own) (pe_bm PySem.F.plainAttrs_list PySem.F.slot_list_index PySem.F.type_list_index mt_index (pe_var (i := 6) rfl vs_50_rows nd_rows nc_rows) (pa_cons (pe_callB (cb_min rfl) gl_50_min (Z.free 11 "min" rfl) bt_min (pa_cons (pe_var (i := 6) rfl vs_50_rows nd_rows nc_rows) pa_nil) nn_min nd_min) pa_nil)) (fun _ _ => rfl)) pa_nil))) pa_nil)) nd__law_same) (by intro _; rfl))) (pw_or1 (pt_cmpR (op_cmp_ne (hu64 hr)) (pe_callB (cb_sum rfl) gl_50_sum (Z.free 12 "sum" rfl) bt_sum (pa_cons (pe_lc (own := [("wrong", 13), ("many", 14)]) rfl sc_50.nd (pi_seq (pi_list (pe_callS (IH 44 rfl) (hr.mono (by omega)) gl_50_counts (Z.fn 12 (44, "counts") rfl) (Z.kp 44 rfl) (Z.bnd 44 (.inl rfl)) (fun σ => passAt (takes_of rfl rfl rfl rfl) σ) (pa_cons (pe_var (i := 3) rfl vs_50_outcomes nd_outcomes nc_outcomes) (pa_cons pe_int pa_nil)) nd_counts)) (pi_tup (pe_callS (IH 44 rfl) (hr.mono (by omega)) gl_50_counts (Z.fn 12 (44, "counts") rfl) (Z.kp 44 rfl) (Z.bnd 44 (.inl rfl)) (fun σ => passAt (takes_of rfl rfl rfl rfl) σ) (pa_cons (pe_var (i := 3) rfl vs_50_outcomes nd_outcomes nc_outcomes) (pa_cons pe_int pa_nil)) nd_counts)) (pi_str (pe_callS (IH 44 rfl) (hr.mono (by omega)) gl_50_counts (Z.fn 12 (44, "counts") rfl) (Z.kp 44 rfl) (Z.bnd 44 (.inl rfl)) (fun σ => passAt (takes_of rfl rfl rfl rfl) σ) (pa_cons (pe_var (i := 3) rfl vs_50_outcomes nd_outcomes nc_outcomes) (pa_cons pe_int pa_nil)) nd_counts))) (blkOk_by (by kernel_rfl)) (fun _ _ _ _ _ => (pg_tup rfl (pgs_cons (pg_name (i := 13) sc_50.nd rfl (Or.inl rfl) (.inr rfl)) (pgs_cons (pg_name (i := 14) sc_50.nd rfl (Or.inl rfl) (.inr rfl)) pgs_nil)))) (fun _ _ _ _ _ => pts_nil) (fun _ _ _ _ _ => (pv 14 rfl (by first | exact Or.inl rfl | exact Or.inr (Or.inl rfl) | exact Or.inr (Or.inr rfl)) nd_many nc_many))) pa_nil) nn_sum nd_sum) pe_int (nomark _))))) (pss_cons (ps_ret pe_bl)
 pss_nil) pss_nil)
 (pss_cons (ps_set (i := 10) sc_50.nd rfl (Or.inr kd_50_most) (pe_callS (IH 14 rfl) (hr.mono (by omega)) gl_50__law_draw (Z.fn 9 (14, "_law_draw") rfl) (Z.kp 14 rfl) (Z.bnd 14 (.inl rfl)) (fun σ => passAt (takes_of rfl rfl rfl rfl) σ) (pa_cons (pe_var (i := 1) rfl vs_50_draws nd_draws nc_draws) (pa_cons pe_int pa_nil)) nd__law_draw) (by rfl) (.inl rfl))
 (pss_cons (ps_setLc (i := 11) (own := [("k", 15)]) rfl sc_50.nd rfl kd_50_enough (sw_true rfl kd_50_enough rfl (by decide +kernel)) (pi_range1 gl_50_range (Z.free 6 "range" rfl) (pa_cons pe_int pa_nil)) (blkOk_by (by kernel_rfl)) (fun _ _ _ _ _ => (pg_name (i := 15) sc_50.nd rfl (Or.inl rfl) (.inr rfl))) (fun _ _ _ _ _ => (pts_one (pt_cmpR op_cmp_le (pe_ix (ix_X (hu65 hr)) (pv 9 rfl (by first | exact Or.inl rfl | exact Or.inr (Or.inl rfl) | exact Or.inr (Or.inr rfl)) nd_least nc_least) (pv 15 rfl (by first | exact Or.inl rfl | exact Or.inr (Or.inl rfl) | exact Or.inr (Or.inr rfl)) nd_k nc_k) (fun _ _ => rfl)) (pv 10 rfl (by first | exact Or.inl rfl | exact Or.inr (Or.inl rfl) | exact Or.inr (Or.inr rfl)) nd_most nc_most) (nomark _)))) (fun _ _ _ _ _ => (pe_op op_bin_add (pv 15 rfl (by first | exact Or.inl rfl | exact Or.inr (Or.inl rfl) | exact Or.inr (Or.inr rfl)) nd_k nc_k) pe_int)))
 (pss_cons (ps_ret (pe_and (pe_callS (IH 15 rfl) (hr.mono (by omega)) gl_50__law_same (Z.fn 8 (15, "_law_same") rfl) (Z.kp 15 rfl) (Z.bnd 15 (.inl rfl)) (fun σ => passAt (takes_of rfl rfl rfl rfl) σ) (pa_cons (pe_callS (IH 45 rfl) (hr.mono (by omega)) gl_50_fewest_states (Z.fn 11 (45, "fewest_states") rfl) (Z.kp 45 rfl) (Z.bnd 45 (.inl rfl)) (fun σ => passAt (takes_of rfl rfl rfl rfl) σ) (pa_cons (pe_var (i := 3) rfl vs_50_outcomes nd_outcomes nc_outcomes) (pa_cons (pe_var (i := 10) rfl vs_50_most nd_most nc_most) pa_nil)) nd_fewest_states) (pa_cons (pe_ifExp (pt_cmpR op_cmp_gt (pe_callB cb_len gl_50_len (Z.free 3 "len" rfl) bt_len (pa_cons (pe_var (i := 11) rfl vs_50_enough nd_enough nc_enough) pa_nil) nn_len nd_len) pe_int (nomark _)) (pe_ix (ix_X (hu65 hr)) (pe_var (i := 11) rfl vs_50_enough nd_enough nc_enough) pe_int (fun _ _ => rfl)) pe_non) pa_nil)) nd__law_same) (pe_one (pe_callS0 (IH 49 rfl) (hr.mono (by omega)) gl_50__law_refusals (Z.fn 13 (49, "_law_refusals") rfl) (Z.kp 49 rfl) (Z.bnd 49 (.inl rfl)) (fun σ => passAt (takes_of rfl rfl rfl rfl) σ) nd__law_refusals))))
 pss_nil))))))))))
/- BadPlan.__init__ -/
theorem x_2 (Z : Fac K mg (Glb.mk K C F) FD pk cv tb) (FF : FunD K dd2.name dd2.qual dd2.params dd2.body dd2.scope [] [] (F 2) (FD 2)) (hx : ∀ x ∈ (["word"] : List Str), PySem.W.findIn K (.ref (C 3)) x = some none) : FnOk P w K mg base (L2.CX P w) 1 (F 2) (FD 2) (pk 2) (spXI K (C 3) ["word"]) := by
  refine FunD.ok (k := 0) FF sc_2 (fun vs H Q E h => ?_) (fun cdv A outer s H vs Q E hr h => ⟨_, (pss_cons (ps_expr (pe_baseinit gl_2_AheadError (Z.bas 0 (1, "AheadError") rfl).2 (Z.bas 0 (1, "AheadError") rfl).1 (pa_cons (pe_var (i := 0) rfl vs_2_self nd_self nc_self) (pa_cons (pe_var (i := 1) rfl vs_2_word nd_word nc_word) pa_nil)) nd_AheadError)) (pss_cons (ps_ost (pe_var (i := 0) rfl vs_2_self nd_self nc_self) (pe_var (i := 1) rfl vs_2_word nd_word nc_word)) pss_nil)), xinit1 (hx _ List.mem_cons_self) h N2 rfl⟩)
  obtain ⟨a, ws, rfl, hl, _⟩ := h
  show ws.length + 1 = _
  rw [hl]
  rfl
/- Refused.__init__ -/
theorem x_35 (Z : Fac K mg (Glb.mk K C F) FD pk cv tb) (FF : FunD K dd35.name dd35.qual dd35.params dd35.body dd35.scope [] [] (F 35) (FD 35)) (hx : ∀ x ∈ (["word"] : List Str), PySem.W.findIn K (.ref (C 6)) x = some none) : FnOk P w K mg base (L2.CX P w) 1 (F 35) (FD 35) (pk 35) (spXI K (C 6) ["word"]) := by
  refine FunD.ok (k := 0) FF sc_35 (fun vs H Q E h => ?_) (fun cdv A outer s H vs Q E hr h => ⟨_, (pss_cons (ps_expr (pe_baseinit gl_35_AheadError (Z.bas 0 (1, "AheadError") rfl).2 (Z.bas 0 (1, "AheadError") rfl).1 (pa_cons (pe_var (i := 0) rfl vs_35_self nd_self nc_self) (pa_cons (pe_var (i := 1) rfl vs_35_word nd_word nc_word) pa_nil)) nd_AheadError)) (pss_cons (ps_ost (pe_var (i := 0) rfl vs_35_self nd_self nc_self) (pe_var (i := 1) rfl vs_35_word nd_word nc_word)) pss_nil)), xinit1 (hx _ List.mem_cons_self) h N35 rfl⟩)
  obtain ⟨a, ws, rfl, hl, _⟩ := h
  show ws.length + 1 = _
  rw [hl]
  rfl
theorem lvA (Z : Fac K mg (Glb.mk K C F) FD pk cv tb) (t : TabOk (Glb.mk K C F) T cv) (FF : ∀ i d, lay.dd.lookup i = some d → FunD K d.name d.qual d.params d.body d.scope (d.dvs K) (d.kws K) (F i) (FD i)) : ∀ (n : Nat) (f : Nat), idA.contains f = true → FnA P w K mg base (L2.CX P w) (3 * n) (F f) (FD f) (pk f) (spI (Glb.mk K C F) T n f)
  | 0 => fun f hf => def_okA0 (g := Glb.mk K C F)
  | n + 1 => of_contains (l := idA)
    all_nil
theorem lv (Z : Fac K mg (Glb.mk K C F) FD pk cv tb) (t : TabOk (Glb.mk K C F) T cv) (FF : ∀ i d, lay.dd.lookup i = some d → FunD K d.name d.qual d.params d.body d.scope (d.dvs K) (d.kws K) (F i) (FD i)) (XH : ∀ (i : Nat) (q : Nat × Str × Nat × List Str), tb.excs[i]? = some q → FnOk P w K mg base (L2.CX P w) 1 (F q.2.2.1) (FD q.2.2.1) (pk q.2.2.1) (spXI K (C q.1) q.2.2.2)) : ∀ (n : Nat) (f : Nat), tb.ids.contains f = true → FnOk P w K mg base (L2.CX P w) (3 * n) (F f) (FD f) (pk f) (spI (Glb.mk K C F) T n f)
  | 0 => fun f hf => def_ok0 (g := Glb.mk K C F)
  | n + 1 => of_contains (l := tb.ids)
    (all_cons (def_ok t (d := t3) rfl (FF 3 dd3 rfl) sc_3 rfl rfl (fun cdv A outer s H E hr => b_3 Z (lv Z t FF XH n) (lvA Z t FF n) XH hr))
    (all_cons (def_ok t (d := t36) rfl (FF 36 dd36 rfl) sc_36 rfl rfl (fun cdv A outer s H E hr => b_36 Z (lv Z t FF XH n) (lvA Z t FF n) XH hr))
    (all_cons (def_ok t (d := t37) rfl (FF 37 dd37 rfl) sc_37 rfl rfl (fun cdv A outer s H E hr => b_37 Z (lv Z t FF XH n) (lvA Z t FF n) XH hr))
    (all_cons (def_ok t (d := t38) rfl (FF 38 dd38 rfl) sc_38 rfl rfl (fun cdv A outer s H E hr => b_38 Z (lv Z t FF XH n) (lvA Z t FF n) XH hr))
    (all_cons (def_ok t (d := t39) rfl (FF 39 dd39 rfl) sc_39 rfl rfl (fun cdv A outer s H E hr => b_39 Z (lv Z t FF XH n) (lvA Z t FF n) XH hr))
    (all_cons (def_ok t (d := t40) rfl (FF 40 dd40 rfl) sc_40 rfl rfl (fun cdv A outer s H E hr => b_40 Z (lv Z t FF XH n) (lvA Z t FF n) XH hr))
    (all_cons (def_ok t (d := t41) rfl (FF 41 dd41 rfl) sc_41 rfl rfl (fun cdv A outer s H E hr => b_41 Z (lv Z t FF XH n) (lvA Z t FF n) XH hr))
    (all_cons (def_ok t (d := t42) rfl (FF 42 dd42 rfl) sc_42 rfl rfl (fun cdv A outer s H E hr => b_42 Z (lv Z t FF XH n) (lvA Z t FF n) XH hr))
    (all_cons (def_ok t (d := t43) rfl (FF 43 dd43 rfl) sc_43 rfl rfl (fun cdv A outer s H E hr => b_43 Z (lv Z t FF XH n) (lvA Z t FF n) XH hr))
    (all_cons (def_ok t (d := t44) rfl (FF 44 dd44 rfl) sc_44 rfl rfl (fun cdv A outer s H E hr => b_44 Z (lv Z t FF XH n) (lvA Z t FF n) XH hr))
    (all_cons (def_ok t (d := t45) rfl (FF 45 dd45 rfl) sc_45 rfl rfl (fun cdv A outer s H E hr => b_45 Z (lv Z t FF XH n) (lvA Z t FF n) XH hr))
    (all_cons (def_ok t (d := t13) rfl (FF 13 dd13 rfl) sc_13 rfl rfl (fun cdv A outer s H E hr => b_13 Z (lv Z t FF XH n) (lvA Z t FF n) XH hr))
    (all_cons (def_ok t (d := t14) rfl (FF 14 dd14 rfl) sc_14 rfl rfl (fun cdv A outer s H E hr => b_14 Z (lv Z t FF XH n) (lvA Z t FF n) XH hr))
    (all_cons (def_ok t (d := t15) rfl (FF 15 dd15 rfl) sc_15 rfl rfl (fun cdv A outer s H E hr => b_15 Z (lv Z t FF XH n) (lvA Z t FF n) XH hr))
    (all_cons (def_ok t (d := t16) rfl (FF 16 dd16 rfl) sc_16 rfl rfl (fun cdv A outer s H E hr => b_16 Z (lv Z t FF XH n) (lvA Z t FF n) XH hr))
    (all_cons (def_ok t (d := t46) rfl (FF 46 dd46 rfl) sc_46 rfl rfl (fun cdv A outer s H E hr => b_46 Z (lv Z t FF XH n) (lvA Z t FF n) XH hr))
    (all_cons (def_ok t (d := t47) rfl (FF 47 dd47 rfl) sc_47 rfl rfl (fun cdv A outer s H E hr => b_47 Z (lv Z t FF XH n) (lvA Z t FF n) XH hr))
    (all_cons (def_ok t (d := t48) rfl (FF 48 dd48 rfl) sc_48 rfl rfl (fun cdv A outer s H E hr => b_48 Z (lv Z t FF XH n) (lvA Z t FF n) XH hr))
    (all_cons (def_ok t (d := t49) rfl (FF 49 dd49 rfl) sc_49 rfl rfl (fun cdv A outer s H E hr => b_49 Z (lv Z t FF XH n) (lvA Z t FF n) XH hr))
    (all_cons (def_ok t (d := t50) rfl (FF 50 dd50 rfl) sc_50 rfl rfl (fun cdv A outer s H E hr => b_50 Z (lv Z t FF XH n) (lvA Z t FF n) XH hr))
    all_nil))))))))))))))))))))
end
theorem bnds {K : PySem.W.Frag} {FD : Nat → FuncData} (FF : ∀ i d, lay.dd.lookup i = some d → FunD K d.name d.qual d.params d.body d.scope (d.dvs K) (d.kws K) (fAd K (ft i)) (FD i)) : ∀ i, tb.ids.contains i = true ∨ tb.xis.contains i = true → Binds K (FD i) (pk i) [] := fun i h => h.elim
  (of_contains (l := tb.ids) (Φ := fun i => Binds K (FD i) (pk i) [])
    (all_cons (FunD.bindsN (FF 3 dd3 rfl) (fun _ _ _ _ _ _ us hl => match us, hl with | [_], _ => rfl))
    (all_cons (FunD.bindsN (FF 36 dd36 rfl) (fun _ _ _ _ _ _ us hl => match us, hl with | [_], _ => rfl))
    (all_cons (FunD.bindsN (FF 37 dd37 rfl) (fun _ _ _ _ _ _ us hl => match us, hl with | [_], _ => rfl))
    (all_cons (FunD.bindsN (FF 38 dd38 rfl) (fun _ _ _ _ _ _ us hl => match us, hl with | [_], _ => rfl))
    (all_cons (FunD.bindsN (FF 39 dd39 rfl) (fun _ _ _ _ _ _ us hl => match us, hl with | [_, _], _ => rfl))
    (all_cons (FunD.bindsN (FF 40 dd40 rfl) (fun _ _ _ _ _ _ us hl => match us, hl with | [_, _], _ => rfl))
    (all_cons (FunD.bindsN (FF 41 dd41 rfl) (fun _ _ _ _ _ _ us hl => match us, hl with | [_, _], _ => rfl))
    (all_cons (FunD.bindsN (FF 42 dd42 rfl) (fun _ _ _ _ _ _ us hl => match us, hl with | [_], _ => rfl))
    (all_cons (FunD.bindsN (FF 43 dd43 rfl) (fun _ _ _ _ _ _ us hl => match us, hl with | [_, _], _ => rfl))
    (all_cons (FunD.bindsN (FF 44 dd44 rfl) (fun _ _ _ _ _ _ us hl => match us, hl with | [_, _], _ => rfl))
    (all_cons (FunD.bindsN (FF 45 dd45 rfl) (fun _ _ _ _ _ _ us hl => match us, hl with | [_, _], _ => rfl))
    (all_cons (FunD.bindsN (FF 13 dd13 rfl) (fun _ _ _ _ _ _ us hl => match us, hl with | [_], _ => rfl))
    (all_cons (FunD.bindsN (FF 14 dd14 rfl) (fun _ _ _ _ _ _ us hl => match us, hl with | [_, _], _ => rfl))
    (all_cons (FunD.bindsN (FF 15 dd15 rfl) (fun _ _ _ _ _ _ us hl => match us, hl with | [_, _], _ => rfl))
    (all_cons (FunD.bindsN (FF 16 dd16 rfl) (fun _ _ _ _ _ _ us hl => match us, hl with | [_, _], _ => rfl))
    (all_cons (FunD.bindsN (FF 46 dd46 rfl) (fun _ _ _ _ _ _ us hl => match us, hl with | [_], _ => rfl))
    (all_cons (FunD.bindsN (FF 47 dd47 rfl) (fun _ _ _ _ _ _ us hl => match us, hl with | [_, _], _ => rfl))
    (all_cons (FunD.bindsN (FF 48 dd48 rfl) (fun _ _ _ _ _ _ us hl => match us, hl with | [_], _ => rfl))
    (all_cons (FunD.bindsN (FF 49 dd49 rfl) (fun _ _ _ _ _ _ us hl => match us, hl with | [], _ => rfl))
    (all_cons (FunD.bindsN (FF 50 dd50 rfl) (fun _ _ _ _ _ _ us hl => match us, hl with | [_], _ => rfl))
    all_nil)))))))))))))))))))) i)
  (of_contains (l := tb.xis) (Φ := fun i => Binds K (FD i) (pk i) [])
    (all_cons (FunD.bindsN (FF 2 dd2 rfl) (fun _ _ _ _ _ _ us hl => match us, hl with | [_, _], _ => rfl))
    (all_cons (FunD.bindsN (FF 35 dd35 rfl) (fun _ _ _ _ _ _ us hl => match us, hl with | [_, _], _ => rfl))
    all_nil)) i)
theorem xhs {P : Program} {w : World} {K : PySem.W.Frag} {mg : Str → Option Value} {base : Heap} {FD : Nat → FuncData} (c : SaysV lay K) (Z : Fac K mg (lay.g K) FD pk (cvOf K cq) tb) (FF : ∀ i d, lay.dd.lookup i = some d → FunD K d.name d.qual d.params d.body d.scope (d.dvs K) (d.kws K) (fAd K (ft i)) (FD i)) :
    ∀ (i : Nat) (q : Nat × Str × Nat × List Str), tb.excs[i]? = some q → FnOk P w K mg base (L2.CX P w) 1 (fAd K (ft q.2.2.1)) (FD q.2.2.1) (pk q.2.2.1) (spXI K (ga K (cn q.1)) q.2.2.2)
  | 0, q, h => by cases h; exact x_35 Z (FF 35 dd35 rfl) (exc_flds c (i := 0) rfl)
  | 1, q, h => by cases h; exact x_2 Z (FF 2 dd2 rfl) (exc_flds c (i := 1) rfl)
  | _ + 2, q, h => by cases h
abbrev R : PySem.W.OpenRow := PySem.W.OpenLaw.row PySem.Challenge.rw_aheadright_k09_whole_least_wrong_machine
abbrev hk : PySem.W.Hook := hookV 5 lay
def ob (s : PySem.W.SharedT) : AlD := obsVG 5 lay (HandSHeadRun.getT s)
theorem ob_eq (s : PySem.W.SharedT) : ob s = hk.obs s.abs := obsVG_eq (HandSHeadRun.getT_eq s)
def loose0 : List Str := ["AheadError", "BadPlan", "Refused", "is_whole", "MOST_STATES", "MOST_OUTCOMES", "look_at_outcomes", "look_at_states", "is_machine", "wrong_of", "walked", "rows_of"]
def loose1 : List Str := ["machines", "least_wrong", "counts", "fewest_states", "_law_draws", "_law_draw", "_law_same", "_law_pick", "_law_machines", "_law_wrong", "_law_outcomes", "_law_refusals"]
def loose : List Str := loose0 ++ (loose1)
theorem run (w : World) : HandSHeadRun.RunEq R (PySem.W.view R.prog [28]) hk ob 8000 loose w := by
  intro os
  kernel_rfl
theorem facts {P : Program} {w : World} {K : PySem.W.Frag} {h : Heap} {mg : Str → Option Value} {f : Addr} (X : K.In h) (G : h.Ns mainGlobals mg) (hfa : mg ("law" : Str) = some (.ref f)) (c : SaysV lay K) :
    ∃ fd : FuncData, (∀ (s : Shared) (v : Value), BindsTo s fd ⟨[v], []⟩ [("script", v)]) ∧ ∀ base : Heap, K.In base → base.Ns mainGlobals mg → FnOk P w K mg base (L2.CX P w) (3 * 14) f fd ["script"] (spI (lay.g K) T 14 50) := by
  obtain ⟨FD, FF⟩ := c.defs
  have e := hfa.symm.trans (glo_ok X G c.law)
  cases e
  have b := FunD.bindsA (ps := ["script"]) (FF 50 dd50 rfl) fun _ _ _ _ _ _ us hl => match us, hl with | [_], _ => rfl
  have Z := fac_of X G c FF (bnds FF)
  exact ⟨FD 50, fun s v => b s [v] rfl, fun base _ _ => lv (C := fun c => ga K (cn c)) (F := fun f => fAd K (ft f)) Z (tabOk_of c) FF (xhs c Z FF) 14 50 rfl⟩
/-- the law's end, once its run is known -/
theorem ends_of (hM : ∀ ns : List Int, ns.length ≤ 63 → ∃ S', VI.run T 14 50 [.rol (ns.map .int)] [] = .ok (.bl true) S') : PySem.W.WalkO (PySem.W.view R.prog [28]) loose (PySem.W.XL (PySem.W.view R.prog [28]) []) hk.says R.toRowW (HandSHeadRun.topDef R.prog 28) [] (fun f vs => PySem.call f vs) := by
  refine VI.walk_ofX (l := PySem.Challenge.rw_aheadright_k09_whole_least_wrong_machine) (n := 63) (k := 3 * 14) (x := "script") rfl (by decide) (by kernel_rfl) ⟨rfl, by decide, by decide⟩ ?F
  intro w mg fa h Y G hmg0
  obtain ⟨K, KX, c⟩ := Y
  have hmg : mg ("law" : PySem.Str) = some (.ref fa) := by
    have e : (HandSHeadRun.topDef R.prog 28).name = ("law" : PySem.Str) := by kernel_rfl
    rw [← e]
    exact hmg0
  obtain ⟨fd, hb, hF⟩ := facts (P := (PySem.Challenge.rw_aheadright_k09_whole_least_wrong_machine).prog) (w := w) KX G hmg c
  exact ⟨K, fd, spI (lay.g K) T 14 50, KX, hb, fun H a ns hl hO hS => spLaw_of (g := lay.g K) (d := t50) rfl rfl hM H a ns hl hO hS, hF⟩
end VI.K09

set_option Elab.async false
set_option linter.all false
set_option maxRecDepth 100000
set_option maxHeartbeats 0
open PySem PySem.W PySem.Calls PyProof.Rows
theorem PySem.Challenge.cw_aheadright_k09_whole_least_wrong_machine_holds : PySem.Challenge.rw_aheadright_k09_whole_least_wrong_machine.Holds := by
  w_on; o_law
  refine HandSHeadRun.head_any (r := OpenLaw.row PySem.Challenge.rw_aheadright_k09_whole_least_wrong_machine) (q := view (OpenLaw.row PySem.Challenge.rw_aheadright_k09_whole_least_wrong_machine).prog [28]) (H := VI.K09.hk) (ob := VI.K09.ob) (M := 8000) (loose := VI.K09.loose) (d := HandSHeadRun.topDef (OpenLaw.row PySem.Challenge.rw_aheadright_k09_whole_least_wrong_machine).prog 28) (kwd := []) VI.K09.ob_eq
    (by kernel_rfl) (fun s => by kernel_rfl) VI.K09.run (by kernel_rfl) (by kernel_rfl) (by kernel_rfl) (by rfl) (by first | assumption | decide +kernel) (by decide +kernel) ⟨rfl, rfl, rfl, rfl, rfl, by decide +kernel⟩ ?hw ?hc
  case hw => w_witness2
  case hc => exact VI.K09.ends_of VI.K09.law_runs
