import PyProof.Rows.All
import Wide.All
import OpenK.AllK
import Wide.FinOn
import HandS.ForMost
import HandS.ForExc
import HandS.CallSlots
import HandS.Wide
import HandS.Gcd
import HandS.Zip
import HandS.Deep
import HandS.DictComp
import HandS.IsInst
import HandS.Conv
import HandS.Flow
import KE.DataEq
import KE.GoesMore
import KE.GoesZip
import HandS.TupSets
import HandS.SortInts
import HandS.WordsExc
import HandS.ClsMeth
import HandS.EndBits
import HandS.DictTup
import KE.KDictCopyH
import HandS.ExcInit
import KE.KExcLine
import HandS.Head0
import HandS.Head1
import HandS.Head2
import HandS.Head3
import HandS.HeadHook1
import HandS.HeadHook2
import HandS.HeadNt
import PySem.Challenge.RW_actsapart_k76_whole_greatest_safe_part
set_option Elab.async false
set_option linter.all false
set_option maxRecDepth 100000
set_option maxHeartbeats 4000000
set_option autoImplicit false
/-! Y: a layer over L2: data (tuples are values), a store of cells by address, and what must hold (weakest preconditions). -/
namespace Y
open PySem PySem.Spec PyProof.Rows L2

inductive Val where
  | non | bl (b : Bool) | int (i : Int) | str (s : Str) | tup (xs : List Val) | ref (a : Addr) | scr (xs : List Val) | ty (n : String)

inductive Ob where
  | lst (xs : List Val) | dic (t : Nat) (kvs : List (Val × Val)) | ins (C : Addr) (fs : List (Str × Val))

abbrev Store := Addr → Option Ob
abbrev Env := List (Option Val)
structure Exn where
  cls : Addr
  fs : List (Str × Val)

/-- a list that nobody writes: the script -/
def SqF (K : PySem.W.Frag) (H : Hp) (a : Addr) (xs : List V) : Prop :=
  (∃ o, H a = some (.frz o (.lst xs))) ∨
    ∃ (o : Obj) (its : Array Value) (n : Nat), K.lookup a = some o ∧ o.cls = .type "list" ∧ o.dict = none ∧ o.data = .seq its n ∧ its.size ≤ sizeLine ∧ Vals xs its.toList
theorem SqF.seq {K : PySem.W.Frag} {H : Hp} {a : Addr} {xs : List V} (h : SqF K H a xs) : SqL K H a xs := by
  rcases h with h | h
  · exact .inl (.inr h)
  · exact .inr h
mutual
def RV (K : PySem.W.Frag) (H : Hp) : Val → V → Prop
  | .non, v => v = .non
  | .bl b, v => v = .bl b
  | .int i, v => v = .int i
  | .str s, v => v = .str s
  | .ref a, v => v = .ref a
  | .ty n, v => v = .ty n
  | .tup xs, v => ∃ a vs, v = .ref a ∧ H a = some (.tup vs) ∧ RVs K H xs vs
  | .scr xs, v => ∃ a vs, v = .ref a ∧ SqF K H a vs ∧ RVs K H xs vs
def RVs (K : PySem.W.Frag) (H : Hp) : List Val → List V → Prop
  | [], vs => vs = []
  | x :: xs, vs => ∃ v r, vs = v :: r ∧ RV K H x v ∧ RVs K H xs r
end

/-- tuples and the script stay -/
structure Keep (H H' : Hp) : Prop where
  tup : ∀ b vs, H b = some (.tup vs) → H' b = some (.tup vs)
  frz : ∀ b o u, H b = some (.frz o u) → H' b = some (.frz o u)
theorem Keep.refl (H : Hp) : Keep H H := ⟨fun _ _ h => h, fun _ _ _ h => h⟩
theorem Keep.trans {H H1 H2 : Hp} (a : Keep H H1) (b : Keep H1 H2) : Keep H H2 := ⟨fun c o h => b.tup c o (a.tup c o h), fun c o u h => b.frz c o u (a.frz c o u h)⟩
theorem Keep.fresh {H : Hp} {p : Addr} {o : HO} (h : H p = none) : Keep H (upd H p o) :=
  ⟨fun b vs e => by rw [upd_ne (ne_of_none e h)]; exact e, fun b ob u e => by rw [upd_ne (ne_of_none e h)]; exact e⟩
theorem Keep.at {H : Hp} {p : Addr} {o u : HO} (h : H p = some u) (hu : (∀ vs, u ≠ .tup vs) ∧ ∀ ob w, u ≠ .frz ob w) : Keep H (upd H p o) :=
  ⟨fun b vs e => by rw [upd_ne (ne_of e h (fun z => hu.1 vs z.symm))]; exact e, fun b ob w e => by rw [upd_ne (ne_of e h (fun z => hu.2 ob w z.symm))]; exact e⟩
theorem SqF.keep {K : PySem.W.Frag} {H H' : Hp} {a : Addr} {xs : List V} (k : Keep H H') (h : SqF K H a xs) : SqF K H' a xs := by
  rcases h with ⟨o, h⟩ | h
  · exact .inl ⟨o, k.frz _ _ _ h⟩
  · exact .inr h

mutual
theorem RV.keep {K : PySem.W.Frag} {H H' : Hp} (k : Keep H H') : ∀ {x : Val} {v : V}, RV K H x v → RV K H' x v
  | .non, _, h => by simpa [RV] using h
  | .bl _, _, h => by simpa [RV] using h
  | .int _, _, h => by simpa [RV] using h
  | .str _, _, h => by simpa [RV] using h
  | .ref _, _, h => by simpa [RV] using h
  | .ty _, _, h => by simpa [RV] using h
  | .tup xs, v, h => by
    rw [RV] at h ⊢
    obtain ⟨a, vs, e, ha, r⟩ := h
    exact ⟨a, vs, e, k.tup _ _ ha, RVs.keep k r⟩
  | .scr xs, v, h => by
    rw [RV] at h ⊢
    obtain ⟨a, vs, e, ha, r⟩ := h
    exact ⟨a, vs, e, ha.keep k, RVs.keep k r⟩
theorem RVs.keep {K : PySem.W.Frag} {H H' : Hp} (k : Keep H H') : ∀ {xs : List Val} {vs : List V}, RVs K H xs vs → RVs K H' xs vs
  | [], _, h => by simpa [RVs] using h
  | x :: xs, vs, h => by
    rw [RVs] at h ⊢
    obtain ⟨v, r, e, h1, h2⟩ := h
    exact ⟨v, r, e, RV.keep k h1, RVs.keep k h2⟩
end
section
variable {K : PySem.W.Frag} {H : Hp}
theorem RVs.nil : RVs K H [] [] := by rw [RVs]
theorem RVs.cons {x : Val} {v : V} {xs : List Val} {vs : List V} (h : RV K H x v) (t : RVs K H xs vs) : RVs K H (x :: xs) (v :: vs) := by
  rw [RVs]; exact ⟨v, vs, rfl, h, t⟩
theorem RVs.length : ∀ {xs : List Val} {vs : List V}, RVs K H xs vs → xs.length = vs.length
  | [], _, h => by rw [RVs] at h; subst h; rfl
  | x :: xs, vs, h => by
    rw [RVs] at h
    obtain ⟨v, r, e, _, h2⟩ := h
    subst e
    rw [List.length_cons, List.length_cons, RVs.length h2]
theorem RVs.get : ∀ {xs : List Val} {vs : List V} {i : Nat} {x : Val}, RVs K H xs vs → xs[i]? = some x → ∃ v, vs[i]? = some v ∧ RV K H x v
  | [], _, _, _, _, e => by simp at e
  | y :: xs, vs, 0, x, h, e => by
    rw [RVs] at h
    obtain ⟨v, r, e1, h1, h2⟩ := h
    simp at e; subst e; subst e1
    exact ⟨v, rfl, h1⟩
  | y :: xs, vs, i + 1, x, h, e => by
    rw [RVs] at h
    obtain ⟨v, r, e1, h1, h2⟩ := h
    subst e1
    obtain ⟨u, h3, h4⟩ := RVs.get (i := i) (x := x) h2 (by simpa using e)
    exact ⟨u, by simpa using h3, h4⟩
theorem RVs.append : ∀ {xs ys : List Val} {vs ws : List V}, RVs K H xs vs → RVs K H ys ws → RVs K H (xs ++ ys) (vs ++ ws)
  | [], _, _, _, h, t => by rw [RVs] at h; subst h; exact t
  | x :: xs, ys, vs, ws, h, t => by
    rw [RVs] at h
    obtain ⟨v, r, e1, h1, h2⟩ := h
    subst e1
    exact RVs.cons h1 (RVs.append h2 t)
theorem RVs.set {y : Val} {w : V} (hy : RV K H y w) : ∀ {xs : List Val} {vs : List V} (i : Nat), RVs K H xs vs → RVs K H (xs.set i y) (vs.set i w)
  | [], _, _, h => by rw [RVs] at h; subst h; exact RVs.nil
  | x :: xs, vs, 0, h => by
    rw [RVs] at h
    obtain ⟨v, r, e1, h1, h2⟩ := h
    subst e1
    exact RVs.cons hy h2
  | x :: xs, vs, i + 1, h => by
    rw [RVs] at h
    obtain ⟨v, r, e1, h1, h2⟩ := h
    subst e1
    exact RVs.cons h1 (RVs.set hy i h2)
theorem RVs.take : ∀ {xs : List Val} {vs : List V} (n : Nat), RVs K H xs vs → RVs K H (xs.take n) (vs.take n)
  | _, _, 0, _ => RVs.nil
  | [], _, n + 1, h => by rw [RVs] at h; subst h; exact RVs.nil
  | x :: xs, vs, n + 1, h => by
    rw [RVs] at h
    obtain ⟨v, r, e1, h1, h2⟩ := h
    subst e1
    exact RVs.cons h1 (RVs.take n h2)
theorem RVs.drop : ∀ {xs : List Val} {vs : List V} (n : Nat), RVs K H xs vs → RVs K H (xs.drop n) (vs.drop n)
  | _, _, 0, h => h
  | [], _, n + 1, h => by rw [RVs] at h; subst h; exact RVs.nil
  | x :: xs, vs, n + 1, h => by
    rw [RVs] at h
    obtain ⟨v, r, e1, h1, h2⟩ := h
    subst e1
    exact RVs.drop n h2
theorem RVs.eraseIdx : ∀ {xs : List Val} {vs : List V} (n : Nat), RVs K H xs vs → RVs K H (xs.eraseIdx n) (vs.eraseIdx n)
  | [], _, n, h => by rw [RVs] at h; subst h; exact RVs.nil
  | x :: xs, vs, 0, h => by
    rw [RVs] at h
    obtain ⟨v, r, e1, h1, h2⟩ := h
    subst e1
    exact h2
  | x :: xs, vs, n + 1, h => by
    rw [RVs] at h
    obtain ⟨v, r, e1, h1, h2⟩ := h
    subst e1
    exact RVs.cons h1 (RVs.eraseIdx n h2)
theorem RVs.dropLast {xs : List Val} {vs : List V} (h : RVs K H xs vs) : RVs K H xs.dropLast vs.dropLast := by
  rw [List.dropLast_eq_take, List.dropLast_eq_take, h.length]
  exact h.take _
theorem RVs.reverse : ∀ {xs : List Val} {vs : List V}, RVs K H xs vs → RVs K H xs.reverse vs.reverse
  | [], _, h => by rw [RVs] at h; subst h; exact RVs.nil
  | x :: xs, vs, h => by
    rw [RVs] at h
    obtain ⟨v, r, e1, h1, h2⟩ := h
    subst e1
    rw [List.reverse_cons, List.reverse_cons]
    exact (RVs.reverse h2).append (RVs.cons h1 RVs.nil)
theorem RVs.ints : ∀ {ns : List Int} {vs : List V}, RVs K H (ns.map Val.int) vs → vs = ns.map V.int
  | [], _, h => by rw [List.map_nil, RVs] at h; exact h
  | n :: ns, vs, h => by
    rw [List.map_cons, RVs] at h
    obtain ⟨v, r, e1, h1, h2⟩ := h
    rw [RV] at h1
    rw [e1, h1, List.map_cons, RVs.ints h2]
theorem RVs.of_ints : ∀ (ns : List Int), RVs K H (ns.map Val.int) (ns.map V.int)
  | [] => RVs.nil
  | n :: ns => RVs.cons (by rw [RV]) (RVs.of_ints ns)
theorem RVs.bls : ∀ {ns : List Bool} {vs : List V}, RVs K H (ns.map Val.bl) vs → vs = ns.map V.bl
  | [], _, h => by rw [List.map_nil, RVs] at h; exact h
  | n :: ns, vs, h => by
    rw [List.map_cons, RVs] at h
    obtain ⟨v, r, e1, h1, h2⟩ := h
    rw [RV] at h1
    rw [e1, h1, List.map_cons, RVs.bls h2]
end

def kVal : Key → Val
  | .inl i => .int i
  | .inr s => .str s
abbrev RKs (K : PySem.W.Frag) (H : Hp) : List (Val × Val) → List (Key × V) → Prop := Paired fun p q => p.1 = kVal q.1 ∧ RV K H p.2 q.2
abbrev RTs (K : PySem.W.Frag) (H : Hp) : List (Val × Val) → List (List Key × V) → Prop := Paired fun p q => p.1 = .tup (q.1.map kVal) ∧ RV K H p.2 q.2
abbrev RFs (K : PySem.W.Frag) (H : Hp) : List (Str × Val) → List (Str × V) → Prop := Paired fun p q => p.1 = q.1 ∧ RV K H p.2 q.2

def ROb (K : PySem.W.Frag) (H : Hp) (a : Addr) : Ob → Prop
  | .lst xs => ∃ vs, H a = some (.lst vs) ∧ RVs K H xs vs
  | .ins C fs => ∃ dx fs', H a = some (.ins C dx fs') ∧ RFs K H fs fs'
  | .dic t kvs => (t = 0 ∧ ∃ ks, H a = some (.dK ks) ∧ RKs K H kvs ks) ∨ (t = 1 ∧ ∃ ks, H a = some (.dT ks) ∧ RTs K H kvs ks)
def RSt (K : PySem.W.Frag) (H : Hp) (s : Store) : Prop := ∀ a o, s a = some o → ROb K H a o
structure REnv (K : PySem.W.Frag) (H : Hp) (env : Env) (σ : List (Option V)) : Prop where
  len : env.length = σ.length
  get : ∀ (i : Nat) (v : Val), env[i]? = some (some v) → ∃ u : V, σ[i]? = some (some u) ∧ RV K H v u
theorem REnv.keep {K : PySem.W.Frag} {H H' : Hp} {env : Env} {σ : List (Option V)} (k : Keep H H') (r : REnv K H env σ) : REnv K H' env σ :=
  ⟨r.len, fun i v e => let ⟨u, h1, h2⟩ := r.get i v e; ⟨u, h1, h2.keep k⟩⟩
theorem REnv.set {K : PySem.W.Frag} {H : Hp} {env : Env} {σ : List (Option V)} (r : REnv K H env σ) (i : Nat) {v : Val} {u : V} (h : RV K H v u) : REnv K H (env.set i (some v)) (σ.set i (some u)) := by
  refine ⟨by simpa using r.len, fun j w e => ?_⟩
  by_cases hj : i = j
  · subst hj
    by_cases hi : i < env.length
    · rw [List.getElem?_set_self hi] at e
      cases e
      rw [List.getElem?_set_self (by rw [← r.len]; exact hi)]
      exact ⟨u, rfl, h⟩
    · rw [List.getElem?_eq_none (by simpa using hi)] at e
      cases e
  · rw [List.getElem?_set_ne hj] at e
    obtain ⟨z, h1, h2⟩ := r.get j w e
    exact ⟨z, by rw [List.getElem?_set_ne hj]; exact h1, h2⟩
def wipeE (env : Env) : List Nat → Env
  | [] => env
  | v :: vs => (wipeE env vs).set v none
theorem REnv.none {K : PySem.W.Frag} {H : Hp} {env : Env} {σ : List (Option V)} (r : REnv K H env σ) (i : Nat) : REnv K H (env.set i none) (σ.set i none) := by
  refine ⟨by simpa using r.len, fun j w e => ?_⟩
  by_cases hj : i = j
  · subst hj
    by_cases hi : i < env.length
    · rw [List.getElem?_set_self hi] at e
      cases e
    · rw [List.getElem?_eq_none (by simpa using hi)] at e
      cases e
  · rw [List.getElem?_set_ne hj] at e
    obtain ⟨z, h1, h2⟩ := r.get j w e
    exact ⟨z, by rw [List.getElem?_set_ne hj]; exact h1, h2⟩
theorem REnv.wipe {K : PySem.W.Frag} {H : Hp} {env : Env} {σ : List (Option V)} (r : REnv K H env σ) : ∀ vs, REnv K H (wipeE env vs) (L2.wipe σ vs)
  | [] => r
  | v :: vs => (REnv.wipe r vs).none v

theorem Paired.imp {α β : Type} {F G : α → β → Prop} {l₁ : List α} {l₂ : List β} (h : Paired F l₁ l₂) (f : ∀ a b, F a b → G a b) : Paired G l₁ l₂ := L2.Paired.mapP h f

/-- an object not touched -/
theorem ROb.same {K : PySem.W.Frag} {H H' : Hp} {a : Addr} {o : Ob} (k : Keep H H') (e : H' a = H a) (r : ROb K H a o) : ROb K H' a o := by
  cases o with
  | lst xs =>
    obtain ⟨vs, h1, h2⟩ := r
    exact ⟨vs, e.trans h1, h2.keep k⟩
  | ins C fs =>
    obtain ⟨dx, fs', h1, h2⟩ := r
    exact ⟨dx, fs', e.trans h1, Paired.imp h2 fun p q z => ⟨z.1, z.2.keep k⟩⟩
  | dic t kvs =>
    rcases r with ⟨z, ks, h1, h2⟩ | ⟨z, ks, h1, h2⟩
    · exact .inl ⟨z, ks, e.trans h1, Paired.imp h2 fun p q z => ⟨z.1, z.2.keep k⟩⟩
    · exact .inr ⟨z, ks, e.trans h1, Paired.imp h2 fun p q z => ⟨z.1, z.2.keep k⟩⟩
def updS (s : Store) (a : Addr) (o : Ob) : Store := fun b => if b = a then some o else s b
theorem updS_same {s : Store} {a : Addr} {o : Ob} : updS s a o a = some o := by unfold updS; rw [if_pos rfl]
theorem updS_ne {s : Store} {a b : Addr} {o : Ob} (h : b ≠ a) : updS s a o b = s b := by unfold updS; rw [if_neg h]
/-- what is tracked is there -/
theorem ROb.some {K : PySem.W.Frag} {H : Hp} {a : Addr} {o : Ob} (r : ROb K H a o) : ∃ u, H a = some u ∧ (∀ vs, u ≠ .tup vs) ∧ ∀ ob w, u ≠ .frz ob w := by
  cases o with
  | lst xs => obtain ⟨_, h1, _⟩ := r; exact ⟨_, h1, (fun _ z => nomatch z), fun _ _ z => nomatch z⟩
  | ins C fs => obtain ⟨_, _, h1, _⟩ := r; exact ⟨_, h1, (fun _ z => nomatch z), fun _ _ z => nomatch z⟩
  | dic t kvs => rcases r with ⟨_, ks, h1, h2⟩ | ⟨_, ks, h1, h2⟩ <;> exact ⟨_, h1, (fun _ z => nomatch z), fun _ _ z => nomatch z⟩
theorem RSt.free {K : PySem.W.Frag} {H : Hp} {s : Store} {p : Addr} (rs : RSt K H s) (hp : H p = none) : s p = none := by
  cases e : s p with
  | none => rfl
  | some o =>
    obtain ⟨u, h, _⟩ := (rs p o e).some
    rw [hp] at h; cases h

/-! ### the readings -/
abbrev QV := Val → Store → Prop
abbrev QE := Exn → Store → Prop
abbrev WE := Env → Store → QV → QE → Prop
abbrev WB := Env → Store → (Bool → Store → Prop) → QE → Prop
abbrev WA := Env → Store → (List Val → Store → Prop) → QE → Prop
/-- an exception's dict -/
def RX (K : PySem.W.Frag) (H : Hp) (x : Exn) (d : Option Addr) : Prop := (x.fs = [] ∧ d = none) ∨ ∃ dd fs', d = some dd ∧ H dd = some (.xd fs') ∧ RFs K H x.fs fs'
def ClE (K : PySem.W.Frag) (W : WX) (σ : List (Option V)) (H : Hp) (E0 : QE) : Prop := ∀ x s', E0 x s' → ∀ H' d, Keep H H' → RSt K H' s' → RX K H' x d → W (.ref x.cls) d σ H'
theorem ClE.keep {K : PySem.W.Frag} {W : WX} {σ : List (Option V)} {H H1 : Hp} {E0 : QE} (c : ClE K W σ H E0) (k : Keep H H1) : ClE K W σ H1 E0 :=
  fun x s' h H' d k' => c x s' h H' d (k.trans k')
/-- an expression -/
def tW (K : PySem.W.Frag) (W : WX) (w : WE) : TE := fun σ H Q => ∃ env s Q0 E0, REnv K H env σ ∧ RSt K H s ∧ w env s Q0 E0 ∧
  (∀ v s', Q0 v s' → ∀ H' u, Keep H H' → RSt K H' s' → RV K H' v u → Q u H') ∧ ClE K W σ H E0
/-- a test -/
def tWB (K : PySem.W.Frag) (W : WX) (w : WB) : TT := fun σ H Q => ∃ env s Q0 E0, REnv K H env σ ∧ RSt K H s ∧ w env s Q0 E0 ∧
  (∀ b s', Q0 b s' → ∀ H', Keep H H' → RSt K H' s' → Q b H') ∧ ClE K W σ H E0
def tWA (K : PySem.W.Frag) (W : WX) (w : WA) : TA := fun σ H Q => ∃ env s Q0 E0, REnv K H env σ ∧ RSt K H s ∧ w env s Q0 E0 ∧
  (∀ vs s', Q0 vs s' → ∀ H' us, Keep H H' → RSt K H' s' → RVs K H' vs us → Q us H') ∧ ClE K W σ H E0
abbrev JE (X : Cx) (W : WX) (e : Expr) (w : WE) : Prop := PE X e (tW X.K W w)
abbrev JT (X : Cx) (W : WX) (e : Expr) (w : WB) : Prop := PT X e (tWB X.K W w)
abbrev JA (X : Cx) (W : WX) (es : List Expr) (w : WA) : Prop := PA X es (tWA X.K W w)
theorem PE.imp {X : Cx} {e : Expr} {t t' : TE} (h : PE X e t) (i : ∀ σ H Q, t' σ H Q → t σ H Q) : PE X e t' := ⟨fun pins s σ H Q I q => h.run pins s σ H Q I (i σ H Q q)⟩
theorem PT.imp {X : Cx} {e : Expr} {t t' : TT} (h : PT X e t) (i : ∀ σ H Q, t' σ H Q → t σ H Q) : PT X e t' := ⟨fun pins s σ H Q I q => h.run pins s σ H Q I (i σ H Q q)⟩
theorem PA.imp {X : Cx} {e : List Expr} {t t' : TA} (h : PA X e t) (i : ∀ σ H Q, t' σ H Q → t σ H Q) : PA X e t' := ⟨fun pos pins s σ H Q I q => h.run pos pins s σ H Q I (i σ H Q q)⟩

section
variable {X : Cx} {W : WX}
/-! ### names, constants -/
def wVar (i : Nat) : WE := fun env s Q _ => ∃ v, env[i]? = some (some v) ∧ Q v s
def wC (v : Val) : WE := fun _ s Q _ => Q v s
theorem je_var {i : Nat} {e : Expr} (h : PE X e (tVar i)) : JE X W e (wVar i) := PE.imp h fun σ H Q h => by
  obtain ⟨env, s, Q0, E0, re, rs, ⟨v, hv, q⟩, cl, _⟩ := h
  obtain ⟨u, h1, h2⟩ := re.get i v hv
  exact ⟨u, h1, cl v s q H u (Keep.refl H) rs h2⟩
theorem je_const {e : Expr} {v : Val} {u : V} (h : PE X e (tC u)) (r : ∀ H, RV X.K H v u) : JE X W e (wC v) := PE.imp h fun σ H Q h => by
  obtain ⟨env, s, Q0, E0, re, rs, q, cl, _⟩ := h
  exact cl v s q H u (Keep.refl H) rs (r H)
theorem je_int {i j pos} : JE X W (.Constant (.int i) j pos) (wC (.int i)) := je_const pe_int fun H => by rw [RV]
theorem je_bl {b j pos} : JE X W (.Constant (.bool b) j pos) (wC (.bl b)) := je_const pe_bl fun H => by rw [RV]
theorem je_non {j pos} : JE X W (.Constant .none j pos) (wC .non) := je_const pe_non fun H => by rw [RV]
theorem je_str {x j pos} : JE X W (.Constant (.str x) j pos) (wC (.str x)) := je_const pe_str fun H => by rw [RV]

/-! ### argument lists -/
def waNil : WA := fun _ s Q _ => Q [] s
def waCons (a : WE) (r : WA) : WA := fun env s Q E => a env s (fun x s1 => r env s1 (fun xs s2 => Q (x :: xs) s2) E) E
theorem ja_nil : JA X W [] waNil := PA.imp pa_nil fun σ H Q h => by
  obtain ⟨env, s, Q0, E0, re, rs, q, cl, _⟩ := h
  exact cl [] s q H [] (Keep.refl H) rs RVs.nil
theorem ja_cons {e : Expr} {es : List Expr} {a : WE} {r : WA} (ha : JE X W e a) (hr : JA X W es r) (hs : starEach (e :: es) X.env = (false, eval e X.env) :: starEach es X.env := by rfl) : JA X W (e :: es) (waCons a r) :=
  PA.imp (pa_cons ha hr hs) fun σ H Q h => by
    obtain ⟨env, s, Q0, E0, re, rs, q, cl, ce⟩ := h
    refine ⟨env, s, _, E0, re, rs, q, fun x s1 q1 H1 u k1 rs1 rx => ?_, ce⟩
    refine ⟨env, s1, _, E0, re.keep k1, rs1, q1, fun xs s2 q2 H2 us k2 rs2 rxs => ?_, ce.keep k1⟩
    exact cl _ _ q2 H2 _ (k1.trans k2) rs2 (RVs.cons (rx.keep k2) rxs)

/-! ### operators by values -/
abbrev O2 := Val → Val → Store → QV → Prop
def wOp (o : O2) (a b : WE) : WE := fun env s Q E => a env s (fun x s1 => b env s1 (fun y s2 => o x y s2 Q) E) E
/-- what the store's object at an address was, is still so elsewhere; how a value's end is handed on -/
def Cl (K : PySem.W.Frag) (H : Hp) (Q0 : QV) (Q : VK) : Prop := ∀ v s', Q0 v s' → ∀ H' u, Keep H H' → RSt K H' s' → RV K H' v u → Q u H'
theorem Cl.keep {K : PySem.W.Frag} {H H1 : Hp} {Q0 : QV} {Q : VK} (c : Cl K H Q0 Q) (k : Keep H H1) : Cl K H1 Q0 Q := fun v s' h H' u k' => c v s' h H' u (k.trans k')
def OpS (K : PySem.W.Frag) (r : R2) (o : O2) : Prop := ∀ x y s H vx vy Q0 Q, RSt K H s → RV K H x vx → RV K H y vy → o x y s Q0 → Cl K H Q0 Q → r vx vy H Q
theorem op_of {r : R2} {o : O2} (hs : OpS X.K r o) {a b : WE} {σ : List (Option V)} {H : Hp} {Q : VK} (h : tW X.K W (wOp o a b) σ H Q) :
    tW X.K W a σ H fun x H1 => tW X.K W b σ H1 fun y H2 => r x y H2 Q := by
  obtain ⟨env, s, Q0, E0, re, rs, q, cl, ce⟩ := h
  refine ⟨env, s, _, E0, re, rs, q, fun x s1 q1 H1 u k1 rs1 rx => ?_, ce⟩
  refine ⟨env, s1, _, E0, re.keep k1, rs1, q1, fun y s2 q2 H2 u2 k2 rs2 ry => ?_, ce.keep k1⟩
  exact hs x y s2 H2 u u2 Q0 Q rs2 (rx.keep k2) ry q2 (Cl.keep (Cl.keep cl k1) k2)
theorem je_bin {e1 e2 : Expr} {op : Operator} {r : R2} {o : O2} {a b : WE} {pos : Pos} (ho : OpR X (binaryOp op) r) (hs : OpS X.K r o) (ha : JE X W e1 a) (hb : JE X W e2 b) : JE X W (.BinOp e1 op e2 pos) (wOp o a b) :=
  PE.imp (pe_op ho ha hb) fun σ H Q h => op_of hs h
theorem je_cmp {e1 e2 : Expr} {op : CmpOp} {r : R2} {o : O2} {a b : WE} {pos : Pos} (ho : OpR X (compareOp op) r) (hs : OpS X.K r o) (hm : behindInMarks op e2 = false) (ha : JE X W e1 a) (hb : JE X W e2 b) : JE X W (.Compare e1 [op] [e2] pos) (wOp o a b) :=
  PE.imp (pe_cmpR ho ha hb hm) fun σ H Q h => op_of hs h
/-- a comparison as a test -/
def wTest (a : WE) : WB := fun env s Q E => a env s (fun x s1 => ∃ c, x = .bl c ∧ Q c s1) E
theorem jt_cmp {e1 e2 : Expr} {op : CmpOp} {r : R2} {o : O2} {a b : WE} {pos : Pos} (ho : OpR X (compareOp op) r) (hs : OpS X.K r o) (hm : behindInMarks op e2 = false) (ha : JE X W e1 a) (hb : JE X W e2 b) : JT X W (.Compare e1 [op] [e2] pos) (wTest (wOp o a b)) :=
  PT.imp (pt_cmpR ho ha hb hm) fun σ H Q h => by
    obtain ⟨env, s, Q0, E0, re, rs, q, cl, ce⟩ := h
    refine op_of (W := W) hs ⟨env, s, _, E0, re, rs, q, fun v s' q' H' u k rs' rv => ?_, ce⟩
    obtain ⟨c, rfl, q'⟩ := q'
    rw [RV] at rv
    exact ⟨c, rv, cl c s' q' H' k rs'⟩
/-- any expression that gives a bool, as a test -/
theorem jt_val {e : Expr} {a : WE} (h : JE X W e a) (he : ∀ whole, isTrue e X.env whole = (do let v ← whole; standAt e.pos; holding [v] (truthy v)) := by intro _; rfl) : JT X W e (wTest a) :=
  PT.imp (pt_val h he) fun σ H Q h => by
    obtain ⟨env, s, Q0, E0, re, rs, q, cl, ce⟩ := h
    refine ⟨env, s, _, E0, re, rs, q, fun v s' q' H' u k rs' rv => ?_, ce⟩
    obtain ⟨c, rfl, q'⟩ := q'
    rw [RV] at rv
    exact ⟨c, rv, cl c s' q' H' k rs'⟩

/-! ### and, or, not, if -/
def wAnd (a b : WB) : WB := fun env s Q E => a env s (fun c s1 => if c = true then b env s1 Q E else Q false s1) E
def wOr (a b : WB) : WB := fun env s Q E => a env s (fun c s1 => if c = true then Q true s1 else b env s1 Q E) E
def wNot (a : WB) : WB := fun env s Q E => a env s (fun c s1 => Q (!c) s1) E
abbrev JW (X : Cx) (W : WX) (e : Expr) (w : WB) : Prop := PW X e (tWB X.K W w)
theorem PW.imp {X : Cx} {e : Expr} {t t' : TT} (h : PW X e t) (i : ∀ σ H Q, t' σ H Q → t σ H Q) : PW X e t' := ⟨fun wh pins s σ H Q I q => h.run wh pins s σ H Q I (i σ H Q q)⟩
variable {e e1 e2 : Expr} {rest : List Expr} {a b : WB} {pos : Pos}
theorem jw_and1 (ha : JT X W e a) : JW X W (.BoolOp .And [e] pos) a := pw_and1 ha
theorem jw_or1 (ha : JT X W e a) : JW X W (.BoolOp .Or [e] pos) a := pw_or1 ha
theorem jw_and (ha : JT X W e1 a) (hb : JW X W (.BoolOp .And (e2 :: rest) pos) b) : JW X W (.BoolOp .And (e1 :: e2 :: rest) pos) (wAnd a b) :=
  PW.imp (pw_and ha hb) fun σ H Q h => by
    obtain ⟨env, s, Q0, E0, re, rs, q, cl, ce⟩ := h
    refine ⟨env, s, _, E0, re, rs, q, fun c s1 q1 H1 k1 rs1 => ?_, ce⟩
    cases c with
    | true => exact ⟨env, s1, Q0, E0, re.keep k1, rs1, q1, fun d s2 q2 H2 k2 rs2 => cl d s2 q2 H2 (k1.trans k2) rs2, ce.keep k1⟩
    | false => exact cl _ _ q1 H1 k1 rs1
theorem jw_or (ha : JT X W e1 a) (hb : JW X W (.BoolOp .Or (e2 :: rest) pos) b) : JW X W (.BoolOp .Or (e1 :: e2 :: rest) pos) (wOr a b) :=
  PW.imp (pw_or ha hb) fun σ H Q h => by
    obtain ⟨env, s, Q0, E0, re, rs, q, cl, ce⟩ := h
    refine ⟨env, s, _, E0, re, rs, q, fun c s1 q1 H1 k1 rs1 => ?_, ce⟩
    cases c with
    | false => exact ⟨env, s1, Q0, E0, re.keep k1, rs1, q1, fun d s2 q2 H2 k2 rs2 => cl d s2 q2 H2 (k1.trans k2) rs2, ce.keep k1⟩
    | true => exact cl _ _ q1 H1 k1 rs1
theorem jt_not (ha : JT X W e a) : JT X W (.UnaryOp .Not e pos) (wNot a) :=
  PT.imp (pt_not ha) fun σ H Q h => by
    obtain ⟨env, s, Q0, E0, re, rs, q, cl, ce⟩ := h
    exact ⟨env, s, _, E0, re, rs, q, fun c s1 q1 H1 k1 rs1 => cl _ _ q1 H1 k1 rs1, ce⟩
def wAndV (a b : WE) : WE := fun env s Q E => a env s (fun x s1 => ∃ c, x = .bl c ∧ if c = true then b env s1 Q E else Q (.bl false) s1) E
def wOrV (a b : WE) : WE := fun env s Q E => a env s (fun x s1 => ∃ c, x = .bl c ∧ if c = true then Q (.bl true) s1 else b env s1 Q E) E
def wNotV (a : WE) : WE := fun env s Q E => a env s (fun x s1 => ∃ c, x = .bl c ∧ Q (.bl (!c)) s1) E
variable {x y : WE}
theorem je_one {op} (h : JE X W e x) : JE X W (.BoolOp op [e] pos) x := pe_one h
theorem je_and (ha : JE X W e1 x) (hb : JE X W (.BoolOp .And (e2 :: rest) pos) y) : JE X W (.BoolOp .And (e1 :: e2 :: rest) pos) (wAndV x y) :=
  PE.imp (pe_and ha hb) fun σ H Q h => by
    obtain ⟨env, s, Q0, E0, re, rs, q, cl, ce⟩ := h
    refine ⟨env, s, _, E0, re, rs, q, fun v s1 q1 H1 u k1 rs1 rv => ?_, ce⟩
    obtain ⟨c, rfl, q1⟩ := q1
    rw [RV] at rv
    refine ⟨c, rv, ?_⟩
    cases c with
    | true => exact ⟨env, s1, Q0, E0, re.keep k1, rs1, q1, Cl.keep cl k1, ce.keep k1⟩
    | false => exact cl _ _ q1 H1 _ k1 rs1 (by rw [RV])
theorem je_or (ha : JE X W e1 x) (hb : JE X W (.BoolOp .Or (e2 :: rest) pos) y) : JE X W (.BoolOp .Or (e1 :: e2 :: rest) pos) (wOrV x y) :=
  PE.imp (pe_or ha hb) fun σ H Q h => by
    obtain ⟨env, s, Q0, E0, re, rs, q, cl, ce⟩ := h
    refine ⟨env, s, _, E0, re, rs, q, fun v s1 q1 H1 u k1 rs1 rv => ?_, ce⟩
    obtain ⟨c, rfl, q1⟩ := q1
    rw [RV] at rv
    refine ⟨c, rv, ?_⟩
    cases c with
    | false => exact ⟨env, s1, Q0, E0, re.keep k1, rs1, q1, Cl.keep cl k1, ce.keep k1⟩
    | true => exact cl _ _ q1 H1 _ k1 rs1 (by rw [RV])
theorem je_not (ha : JE X W e x) : JE X W (.UnaryOp .Not e pos) (wNotV x) :=
  PE.imp (pe_not ha) fun σ H Q h => by
    obtain ⟨env, s, Q0, E0, re, rs, q, cl, ce⟩ := h
    refine ⟨env, s, _, E0, re, rs, q, fun v s1 q1 H1 u k1 rs1 rv => ?_, ce⟩
    obtain ⟨c, rfl, q1⟩ := q1
    rw [RV] at rv
    exact ⟨c, rv, cl _ _ q1 H1 _ k1 rs1 (by rw [RV])⟩
def wIfE (c : WB) (a b : WE) : WE := fun env s Q E => c env s (fun d s1 => if d = true then a env s1 Q E else b env s1 Q E) E
theorem je_if {c : Expr} (hc : JT X W c a) (ha : JE X W e1 x) (hb : JE X W e2 y) : JE X W (.IfExp c e1 e2 pos) (wIfE a x y) :=
  PE.imp (pe_ifExp hc ha hb) fun σ H Q h => by
    obtain ⟨env, s, Q0, E0, re, rs, q, cl, ce⟩ := h
    refine ⟨env, s, _, E0, re, rs, q, fun c s1 q1 H1 k1 rs1 => ?_, ce⟩
    cases c with
    | true => exact ⟨env, s1, Q0, E0, re.keep k1, rs1, q1, Cl.keep cl k1, ce.keep k1⟩
    | false => exact ⟨env, s1, Q0, E0, re.keep k1, rs1, q1, Cl.keep cl k1, ce.keep k1⟩

/-! ### tuples, lists -/
theorem RSt.fresh {K : PySem.W.Frag} {H : Hp} {s : Store} {p : Addr} {o : HO} (rs : RSt K H s) (hp : H p = none) : RSt K (upd H p o) s := fun b ob e =>
  (rs b ob e).same (Keep.fresh hp) (upd_ne fun z => by rw [z, rs.free hp] at e; cases e)
/-- a new cell -/
theorem RSt.cell {K : PySem.W.Frag} {H : Hp} {s : Store} {p : Addr} {o : HO} {ob : Ob} (rs : RSt K H s) (k : Keep H (upd H p o)) (new : ROb K (upd H p o) p ob) : RSt K (upd H p o) (updS s p ob) := fun b z e => by
  by_cases hb : b = p
  · subst hb
    rw [updS_same] at e
    cases e
    exact new
  · rw [updS_ne hb] at e
    exact (rs b z e).same k (upd_ne hb)
def wTup (a : WA) : WE := fun env s Q E => a env s (fun xs s1 => xs.length ≤ 16777216 ∧ Q (.tup xs) s1) E
theorem je_tup {es : List Expr} {w : WA} {x1} (h : JA X W es w) : JE X W (.Tuple es x1 pos) (wTup w) :=
  PE.imp (pe_tup h) fun σ H Q h => by
    obtain ⟨env, s, Q0, E0, re, rs, q, cl, ce⟩ := h
    refine ⟨env, s, _, E0, re, rs, q, fun vs s1 q1 H1 us k1 rs1 rv => ?_, ce⟩
    refine ⟨by rw [← rv.length, sizeLine_eq]; exact q1.1, fun p hp => ?_⟩
    refine cl _ _ q1.2 _ _ (k1.trans (Keep.fresh hp)) (rs1.fresh hp) ?_
    rw [RV]
    exact ⟨p, us, rfl, upd_same, rv.keep (Keep.fresh hp)⟩
/-- a new list: its place is none of the cells' -/
def wLst (a : WA) : WE := fun env s Q E => a env s (fun xs s1 => xs.length ≤ 16777216 ∧ ∀ p, s1 p = none → Q (.ref p) (updS s1 p (.lst xs))) E
theorem je_lst {es : List Expr} {w : WA} (h : JA X W es w) : JE X W (.List es pos) (wLst w) :=
  PE.imp (pe_lst h) fun σ H Q h => by
    obtain ⟨env, s, Q0, E0, re, rs, q, cl, ce⟩ := h
    refine ⟨env, s, _, E0, re, rs, q, fun vs s1 q1 H1 us k1 rs1 rv => ?_, ce⟩
    refine ⟨by rw [← rv.length, sizeLine_eq]; exact q1.1, fun p hp => ?_⟩
    have kp := Keep.fresh (o := .lst us) hp
    exact cl _ _ (q1.2 p (rs1.free hp)) _ _ (k1.trans kp) (rs1.cell kp ⟨us, upd_same, rv.keep kp⟩) (by rw [RV])
end
end Y
set_option Elab.async false
set_option linter.all false
set_option maxRecDepth 100000
set_option maxHeartbeats 4000000
set_option autoImplicit false
/-! Y: operators, comparisons, subscripts, by values. -/
namespace Y
open PySem PySem.Spec PyProof.Rows L2

/-! ### == of data -/
mutual
def toPD : Val → PyData
  | .non => .none
  | .bl b => .bool b
  | .int i => .int i
  | .str s => .str s
  | .tup xs => .tuple (toPDs xs)
  | .ref _ => .none
  | .scr _ => .none
  | .ty _ => .none
def toPDs : List Val → List PyData
  | [] => []
  | x :: xs => toPD x :: toPDs xs
end
mutual
/-- data of at most that depth, no cells -/
def okD : Nat → Val → Bool
  | _, .non => true
  | _, .bl _ => true
  | _, .int _ => true
  | _, .str _ => true
  | 0, .tup _ => false
  | n + 1, .tup xs => okDs n xs
  | _, .ref _ => false
  | _, .scr _ => false
  | _, .ty _ => false
def okDs : Nat → List Val → Bool
  | _, [] => true
  | n, x :: xs => okD n x && okDs n xs
end
def veq (x y : Val) : Bool := PyData.eqv (toPD x) (toPD y)
def veqs (xs ys : List Val) : Bool := PyData.eqvAll (toPDs xs) (toPDs ys)
section
variable {K : PySem.W.Frag} {H : Hp}
mutual
theorem dp_of : ∀ (n : Nat) {x : Val} {v : V}, okD n x = true → RV K H x v → Dp K H v (toPD x) ∧ (toPD x).plain = true ∧ (toPD x).depth ≤ n
  | n, .non, v, _, r => by rw [RV] at r; subst r; cases n <;> exact ⟨.non, rfl, by simp [toPD, PyData.depth]⟩
  | n, .bl b, v, _, r => by rw [RV] at r; subst r; cases n <;> exact ⟨.bl b, rfl, by simp [toPD, PyData.depth]⟩
  | n, .int b, v, _, r => by rw [RV] at r; subst r; cases n <;> exact ⟨.int b, rfl, by simp [toPD, PyData.depth]⟩
  | n, .str b, v, _, r => by rw [RV] at r; subst r; cases n <;> exact ⟨.str b, rfl, by simp [toPD, PyData.depth]⟩
  | 0, .tup xs, v, h, r => by simp [okD] at h
  | n + 1, .tup xs, v, h, r => by
    rw [RV] at r
    obtain ⟨a, vs, rfl, ha, rs⟩ := r
    rw [okD] at h
    obtain ⟨h1, h2, h3⟩ := dps_of n h rs
    rw [toPD]
    refine ⟨.tup (.inl (.inl ha)) h1, ?_, ?_⟩
    · simpa [PyData.plain] using h2
    · simp only [PyData.depth]; omega
  | n, .ref _, v, h, r => by cases n <;> simp [okD] at h
  | n, .scr _, v, h, r => by cases n <;> simp [okD] at h
  | n, .ty _, v, h, r => by cases n <;> simp [okD] at h
theorem dps_of : ∀ (n : Nat) {xs : List Val} {vs : List V}, okDs n xs = true → RVs K H xs vs → DpAll K H vs (toPDs xs) ∧ PyData.plainAll (toPDs xs) = true ∧ PyData.depthAll (toPDs xs) ≤ n
  | n, [], vs, _, r => by rw [RVs] at r; subst r; exact ⟨.nil, by simp [toPDs, PyData.plainAll], by simp [toPDs, PyData.depthAll]⟩
  | n, x :: xs, vs, h, r => by
    rw [RVs] at r
    obtain ⟨v, t, rfl, r1, r2⟩ := r
    rw [okDs, Bool.and_eq_true] at h
    obtain ⟨a1, a2, a3⟩ := dp_of n h.1 r1
    obtain ⟨b1, b2, b3⟩ := dps_of n h.2 r2
    rw [toPDs]
    refine ⟨.cons a1 b1, ?_, ?_⟩
    · simp only [PyData.plainAll, Bool.and_eq_true]; exact ⟨a2, b2⟩
    · simp only [PyData.depthAll]; omega
end
end
section
variable {X : Cx} {k : Nat}
def rEqP (K : PySem.W.Frag) (neg : Bool) : R2 := fun x y H Q => ∃ d e, Dp K H x d ∧ Dp K H y e ∧ d.plain = true ∧ e.plain = true ∧ d.depth ≤ 40 ∧ Q (.bl (if neg then !PyData.eqv d e else PyData.eqv d e)) H
theorem op_eqP (hr : Room k X.A) : OpR X (compareOp .Eq) (rEqP X.K false) := by
  intro pins s σ H x y v u Q I rx ry h
  obtain ⟨d, e, hd, he, sd, se, hdep, q⟩ := h
  obtain ⟨as, r1⟩ := Dp.reads I d x v hd rx
  obtain ⟨bs, r2⟩ := Dp.reads I e y u he ry
  have := hr.units
  exact SeqAt.eq_plain r1 r2 sd se (by have : min d.depth e.depth ≤ d.depth := Nat.min_le_left _ _; omega) ⟨.bl _, H, I, rfl, q⟩
theorem op_neP (hr : Room k X.A) : OpR X (compareOp .NotEq) (rEqP X.K true) := by
  intro pins s σ H x y v u Q I rx ry h
  obtain ⟨d, e, hd, he, sd, se, hdep, q⟩ := h
  obtain ⟨as, r1⟩ := Dp.reads I d x v hd rx
  obtain ⟨bs, r2⟩ := Dp.reads I e y u he ry
  have := hr.units
  exact SeqAt.ne_plain r1 r2 sd se (by have : min d.depth e.depth ≤ d.depth := Nat.min_le_left _ _; omega) ⟨.bl _, H, I, rfl, q⟩
/-- lists of data are equal by their items -/
def oEq (neg : Bool) : O2 := fun x y s Q => (okD 20 x = true ∧ okD 20 y = true ∧ Q (.bl (if neg then !veq x y else veq x y)) s) ∨
  ∃ a b xs ys, x = .ref a ∧ y = .ref b ∧ s a = some (.lst xs) ∧ s b = some (.lst ys) ∧ okDs 20 xs = true ∧ okDs 20 ys = true ∧ Q (.bl (if neg then !veqs xs ys else veqs xs ys)) s
theorem ops_eq {K : PySem.W.Frag} {neg : Bool} : OpS K (rEqP K neg) (oEq neg) := by
  intro x y s H vx vy Q0 Q rs rx ry h cl
  rcases h with ⟨h1, h2, q⟩ | ⟨a, b, xs, ys, rfl, rfl, ha, hb, h1, h2, q⟩
  · obtain ⟨a1, a2, a3⟩ := dp_of 20 h1 rx
    obtain ⟨b1, b2, b3⟩ := dp_of 20 h2 ry
    exact ⟨_, _, a1, b1, a2, b2, by omega, cl _ _ q H _ (Keep.refl H) rs (by rw [RV]; rfl)⟩
  · rw [RV] at rx ry
    subst rx ry
    obtain ⟨vs, e1, r1⟩ := rs a _ ha
    obtain ⟨ws, e2, r2⟩ := rs b _ hb
    obtain ⟨a1, a2, a3⟩ := dps_of 20 h1 r1
    obtain ⟨b1, b2, b3⟩ := dps_of 20 h2 r2
    refine ⟨.list (toPDs xs), .list (toPDs ys), .lst (SqL.of e1) a1, .lst (SqL.of e2) b1, by simpa [PyData.plain] using a2, by simpa [PyData.plain] using b2, by simp only [PyData.depth]; omega, ?_⟩
    refine cl _ _ q H _ (Keep.refl H) rs ?_
    rw [RV]
    cases neg <;> simp [veqs, PyData.eqv]
/-! ### in, not in -/
def rInP (K : PySem.W.Frag) (neg : Bool) : R2 := fun x y H Q => ∃ d ds, Dp K H x d ∧ d.plain = true ∧ d.depth ≤ 40 ∧ PyData.plainAll ds = true ∧ (Dp K H y (.list ds) ∨ Dp K H y (.tuple ds)) ∧
  Q (.bl (if neg then !ds.any fun z => PyData.eqv z d else ds.any fun z => PyData.eqv z d)) H
def rInDic (neg : Bool) : R2 := fun x y H Q => ∃ a o, y = .ref a ∧ DGet H a x o ∧ Q (.bl (if neg then !o.isSome else o.isSome)) H
theorem op_inP (hr : Room k X.A) : OpR X (compareOp .In) (fun x y H Q => rInP X.K false x y H Q ∨ rInDic false x y H Q) := by
  intro pins s σ H x y v u Q I rx ry h
  have hu := hr.units
  rcases h with ⟨d, ds, hd, pd, dd, ps, hy, q⟩ | ⟨a, o, rfl, g, q⟩
  · obtain ⟨as, r1⟩ := Dp.reads I d x v hd rx
    have hroom : X.A.units + 1 + min (PyData.depthAll ds) d.depth < cLine := by have : min (PyData.depthAll ds) d.depth ≤ d.depth := Nat.min_le_right _ _; omega
    rcases hy with hy | hy
    · obtain ⟨bs, r2⟩ := Dp.reads I _ y u hy ry
      exact SeqAt.in_list_data r2 r1 ps pd hroom ⟨.bl _, H, I, rfl, q⟩
    · obtain ⟨bs, r2⟩ := Dp.reads I _ y u hy ry
      exact SeqAt.in_tuple_data r2 r1 ps pd hroom ⟨.bl _, H, I, rfl, q⟩
  · cases ry
    exact d_in (by omega) I g rx fun s' I' => ⟨.bl _, H, I', rfl, q⟩
theorem op_notInP (hr : Room k X.A) : OpR X (compareOp .NotIn) (fun x y H Q => rInP X.K true x y H Q ∨ rInDic true x y H Q) := by
  intro pins s σ H x y v u Q I rx ry h
  have hu := hr.units
  rcases h with ⟨d, ds, hd, pd, dd, ps, hy, q⟩ | ⟨a, o, rfl, g, q⟩
  · obtain ⟨as, r1⟩ := Dp.reads I d x v hd rx
    have hroom : X.A.units + 1 + min (PyData.depthAll ds) d.depth < cLine := by have : min (PyData.depthAll ds) d.depth ≤ d.depth := Nat.min_le_right _ _; omega
    rcases hy with hy | hy
    · obtain ⟨bs, r2⟩ := Dp.reads I _ y u hy ry
      exact SeqAt.notIn_list_data r2 r1 ps pd hroom ⟨.bl _, H, I, rfl, q⟩
    · obtain ⟨bs, r2⟩ := Dp.reads I _ y u hy ry
      exact SeqAt.notIn_tuple_data r2 r1 ps pd hroom ⟨.bl _, H, I, rfl, q⟩
  · cases ry
    exact d_notIn (by omega) I g rx fun s' I' => ⟨.bl _, H, I', rfl, q⟩
end
/-! ### dicts as tables -/
open Classical in
/-- what a dict holds at a key -/
noncomputable def dlook (kvs : List (Val × Val)) (k : Val) : Option Val := (kvs.find? fun p => decide (p.1 = k)).map (·.2)
open Classical in
noncomputable def dput (kvs : List (Val × Val)) (k v : Val) : List (Val × Val) :=
  if (kvs.any fun p => decide (p.1 = k)) = true then kvs.map (fun p => if p.1 = k then (p.1, v) else p) else kvs ++ [(k, v)]
/-- a key of such a dict -/
def isKey (t : Nat) (y : Val) : Prop := (t = 0 ∧ ∃ k : Key, y = kVal k) ∨ (t = 1 ∧ ∃ ks : List Key, y = .tup (ks.map kVal))
theorem kVal_inj {a b : Key} (e : kVal a = kVal b) : a = b := by
  cases a <;> cases b <;> simp [kVal] at e <;> rw [e]
theorem kVals_inj : ∀ {a b : List Key}, a.map kVal = b.map kVal → a = b
  | [], [], _ => rfl
  | [], _ :: _, e => by simp at e
  | _ :: _, [], e => by simp at e
  | x :: xs, y :: ys, e => by
    rw [List.map_cons, List.map_cons] at e
    injection e with e1 e2
    rw [kVal_inj e1, kVals_inj e2]
section
variable {K : PySem.W.Frag} {H : Hp}
theorem rv_key {k : Key} {v : V} (r : RV K H (kVal k) v) : v = kV k := by
  cases k <;> simpa [kVal, RV, kV] using r
theorem rvs_keys : ∀ {ks : List Key} {vs : List V}, RVs K H (ks.map kVal) vs → vs = ks.map kV
  | [], _, r => by simpa [RVs] using r
  | k :: ks, vs, r => by
    rw [List.map_cons, RVs] at r
    obtain ⟨v, t, rfl, r1, r2⟩ := r
    rw [rv_key r1, rvs_keys r2, List.map_cons]
theorem look_k {k : Key} : ∀ {kvs : List (Val × Val)} {ks : List (Key × V)}, RKs K H kvs ks → (dlook kvs (kVal k) = none ∧ valV ks k = none) ∨ ∃ x v, dlook kvs (kVal k) = some x ∧ valV ks k = some v ∧ RV K H x v := by
  intro kvs ks r
  induction r with
  | nil => exact .inl ⟨rfl, rfl⟩
  | @cons p q ps qs h t ih =>
    obtain ⟨h1, h2⟩ := h
    by_cases e : q.1 = k
    · refine .inr ⟨p.2, q.2, ?_, valV_pos e, h2⟩
      simp [dlook, List.find?_cons, h1, e]
    · have e' : ¬ p.1 = kVal k := fun z => e (kVal_inj (h1.symm.trans z))
      have : dlook (p :: ps) (kVal k) = dlook ps (kVal k) := by simp [dlook, List.find?_cons, e']
      rw [this, valV_neg e]
      exact ih
theorem look_t {k : List Key} : ∀ {kvs : List (Val × Val)} {ks : List (List Key × V)}, RTs K H kvs ks → (dlook kvs (.tup (k.map kVal)) = none ∧ valV ks k = none) ∨ ∃ x v, dlook kvs (.tup (k.map kVal)) = some x ∧ valV ks k = some v ∧ RV K H x v := by
  intro kvs ks r
  induction r with
  | nil => exact .inl ⟨rfl, rfl⟩
  | @cons p q ps qs h t ih =>
    obtain ⟨h1, h2⟩ := h
    by_cases e : q.1 = k
    · refine .inr ⟨p.2, q.2, ?_, valV_pos e, h2⟩
      simp [dlook, List.find?_cons, h1, e]
    · have e' : ¬ p.1 = .tup (k.map kVal) := fun z => e (kVals_inj (by injection h1.symm.trans z))
      have : dlook (p :: ps) (.tup (k.map kVal)) = dlook ps (.tup (k.map kVal)) := by simp [dlook, List.find?_cons, e']
      rw [this, valV_neg e]
      exact ih
theorem any_k {k : Key} {kvs : List (Val × Val)} {ks : List (Key × V)} (r : RKs K H kvs ks) : (ks.any fun p => decide (p.1 = k)) = true ↔ ∃ p ∈ kvs, p.1 = kVal k := by
  induction r with
  | nil => simp
  | @cons p q ps qs h t ih =>
    rw [List.any_cons, Bool.or_eq_true, ih, decide_eq_true_eq]
    constructor
    · rintro (e | ⟨x, hx, e⟩)
      · exact ⟨p, List.mem_cons_self, by rw [h.1, e]⟩
      · exact ⟨x, List.mem_cons_of_mem _ hx, e⟩
    · rintro ⟨x, hx, e⟩
      rcases List.mem_cons.mp hx with z | hx
      · subst z; exact .inl (kVal_inj (h.1.symm.trans e))
      · exact .inr ⟨x, hx, e⟩
theorem any_t {k : List Key} {kvs : List (Val × Val)} {ks : List (List Key × V)} (r : RTs K H kvs ks) : (ks.any fun p => decide (p.1 = k)) = true ↔ ∃ p ∈ kvs, p.1 = .tup (k.map kVal) := by
  induction r with
  | nil => simp
  | @cons p q ps qs h t ih =>
    rw [List.any_cons, Bool.or_eq_true, ih, decide_eq_true_eq]
    constructor
    · rintro (e | ⟨x, hx, e⟩)
      · exact ⟨p, List.mem_cons_self, by rw [h.1, e]⟩
      · exact ⟨x, List.mem_cons_of_mem _ hx, e⟩
    · rintro ⟨x, hx, e⟩
      rcases List.mem_cons.mp hx with z | hx
      · subst z; exact .inl (kVals_inj (by injection h.1.symm.trans e))
      · exact .inr ⟨x, hx, e⟩
open Classical in
theorem any_kvs {k : Val} {kvs : List (Val × Val)} : (kvs.any fun p => decide (p.1 = k)) = true ↔ ∃ p ∈ kvs, p.1 = k := by
  rw [List.any_eq_true]
  constructor
  · rintro ⟨x, h1, h2⟩; exact ⟨x, h1, of_decide_eq_true h2⟩
  · rintro ⟨x, h1, h2⟩; exact ⟨x, h1, decide_eq_true h2⟩
theorem put_k {k : Key} {x : Val} {v : V} (rv : RV K H x v) {kvs : List (Val × Val)} {ks : List (Key × V)} (r : RKs K H kvs ks) : RKs K H (dput kvs (kVal k) x) (putK ks k v) := by
  unfold dput putK
  by_cases e : (ks.any fun p => decide (p.1 = k)) = true
  · rw [if_pos e, if_pos (any_kvs.mpr ((any_k r).mp e))]
    clear e
    induction r with
    | nil => exact .nil
    | @cons p q ps qs h t ih =>
      rw [List.map_cons, List.map_cons]
      refine .cons ?_ ih
      by_cases z : q.1 = k
      · rw [if_pos z, if_pos (by rw [h.1, z])]; exact ⟨h.1, rv⟩
      · rw [if_neg z, if_neg (fun y => z (kVal_inj (h.1.symm.trans y)))]; exact h
  · rw [if_neg e, if_neg (fun z => e ((any_k r).mpr (any_kvs.mp z)))]
    exact Paired.snoc r ⟨rfl, rv⟩
theorem put_t {k : List Key} {x : Val} {v : V} (rv : RV K H x v) {kvs : List (Val × Val)} {ks : List (List Key × V)} (r : RTs K H kvs ks) : RTs K H (dput kvs (.tup (k.map kVal)) x) (putK ks k v) := by
  unfold dput putK
  by_cases e : (ks.any fun p => decide (p.1 = k)) = true
  · rw [if_pos e, if_pos (any_kvs.mpr ((any_t r).mp e))]
    clear e
    induction r with
    | nil => exact .nil
    | @cons p q ps qs h t ih =>
      rw [List.map_cons, List.map_cons]
      refine .cons ?_ ih
      by_cases z : q.1 = k
      · rw [if_pos z, if_pos (by rw [h.1, z])]; exact ⟨h.1, rv⟩
      · rw [if_neg z, if_neg (fun y => z (kVals_inj (by injection h.1.symm.trans y)))]; exact h
  · rw [if_neg e, if_neg (fun z => e ((any_t r).mpr (any_kvs.mp z)))]
    exact Paired.snoc r ⟨rfl, rv⟩
end
theorem dget_of {K : PySem.W.Frag} {H : Hp} {s : Store} {a : Addr} {t : Nat} {kvs : List (Val × Val)} {y : Val} {vy : V} (rs : RSt K H s) (ha : s a = some (.dic t kvs)) (hk : isKey t y) (ry : RV K H y vy) :
    (dlook kvs y = none ∧ DGet H a vy none) ∨ ∃ x v, dlook kvs y = some x ∧ DGet H a vy (some v) ∧ RV K H x v := by
  rcases rs a _ ha with ⟨h0, ks, h1, h2⟩ | ⟨h0, ks, h1, h2⟩
  · rcases hk with ⟨_, k, rfl⟩ | ⟨z, _⟩
    · rw [rv_key ry]
      rcases look_k (k := k) h2 with ⟨e1, e2⟩ | ⟨x, v, e1, e2, r⟩
      · exact .inl ⟨e1, .inl ⟨ks, k, .inl h1, rfl, e2.symm⟩⟩
      · exact .inr ⟨x, v, e1, .inl ⟨ks, k, .inl h1, rfl, e2.symm⟩, r⟩
    · omega
  · rcases hk with ⟨z, _⟩ | ⟨_, k, rfl⟩
    · omega
    · rw [RV] at ry
      obtain ⟨b, vs, rfl, hb, r'⟩ := ry
      rw [rvs_keys r'] at hb
      rcases look_t (k := k) h2 with ⟨e1, e2⟩ | ⟨x, v, e1, e2, r⟩
      · exact .inl ⟨e1, .inr ⟨ks, k, b, .inl h1, rfl, hb, e2.symm⟩⟩
      · exact .inr ⟨x, v, e1, .inr ⟨ks, k, b, .inl h1, rfl, hb, e2.symm⟩, r⟩
def oIn (neg : Bool) : O2 := fun x y s Q =>
  match y with
  | .tup ys => okD 20 x = true ∧ okDs 20 ys = true ∧ Q (.bl (if neg then !ys.any fun z => veq z x else ys.any fun z => veq z x)) s
  | .ref a => match s a with
    | some (.lst ys) => okD 20 x = true ∧ okDs 20 ys = true ∧ Q (.bl (if neg then !ys.any fun z => veq z x else ys.any fun z => veq z x)) s
    | some (.dic t kvs) => isKey t x ∧ Q (.bl (if neg then !(dlook kvs x).isSome else (dlook kvs x).isSome)) s
    | _ => False
  | _ => False
theorem any_toPDs (x : Val) : ∀ ys : List Val, ((toPDs ys).any fun z => PyData.eqv z (toPD x)) = ys.any fun z => veq z x
  | [] => rfl
  | y :: ys => by rw [toPDs, List.any_cons, List.any_cons, any_toPDs x ys]; rfl
theorem ops_in {K : PySem.W.Frag} {neg : Bool} : OpS K (fun x y H Q => rInP K neg x y H Q ∨ rInDic neg x y H Q) (oIn neg) := by
  intro x y s H vx vy Q0 Q rs rx ry h cl
  unfold oIn at h
  split at h
  · rename_i ys
    obtain ⟨h1, h2, q⟩ := h
    rw [RV] at ry
    obtain ⟨a, vs, rfl, ha, r⟩ := ry
    obtain ⟨a1, a2, a3⟩ := dp_of 20 h1 rx
    obtain ⟨b1, b2, b3⟩ := dps_of 20 h2 r
    refine .inl ⟨_, _, a1, a2, by omega, b2, .inr (.tup (.inl (.inl ha)) b1), ?_⟩
    rw [any_toPDs]
    exact cl _ _ q H _ (Keep.refl H) rs (by rw [RV])
  · rename_i a
    rw [RV] at ry
    subst ry
    split at h
    · rename_i ys ha
      obtain ⟨h1, h2, q⟩ := h
      obtain ⟨vs, e1, r⟩ := rs a _ ha
      obtain ⟨a1, a2, a3⟩ := dp_of 20 h1 rx
      obtain ⟨b1, b2, b3⟩ := dps_of 20 h2 r
      refine .inl ⟨_, _, a1, a2, by omega, b2, .inl (.lst (SqL.of e1) b1), ?_⟩
      rw [any_toPDs]
      exact cl _ _ q H _ (Keep.refl H) rs (by rw [RV])
    · rename_i t kvs ha
      obtain ⟨hk, q⟩ := h
      rcases dget_of rs ha hk rx with ⟨e, g⟩ | ⟨z, v, e, g, _⟩
      · rw [e] at q
        exact .inr ⟨a, none, rfl, g, cl _ _ q H _ (Keep.refl H) rs (by rw [RV]; rfl)⟩
      · rw [e] at q
        exact .inr ⟨a, some v, rfl, g, cl _ _ q H _ (Keep.refl H) rs (by rw [RV]; rfl)⟩
    · exact h.elim
  · exact h.elim
end Y
set_option Elab.async false
set_option linter.all false
set_option maxRecDepth 100000
set_option maxHeartbeats 4000000
set_option autoImplicit false
/-! Y: arithmetic, subscripts, built-ins, methods, by values. -/
namespace Y
open PySem PySem.Spec PyProof.Rows L2

/-! ### t + u of tuples, whatever is empty -/
def rCatT2 (K : PySem.W.Frag) : R2 := fun x y H Q => ∃ a b xs ys, x = .ref a ∧ y = .ref b ∧ SqT K H a xs ∧ SqT K H b ys ∧ xs.length + ys.length ≤ sizeLine ∧
  (xs = [] → Q (.ref b) H) ∧ (xs ≠ [] → ys = [] → Q (.ref a) H) ∧ (xs ≠ [] → ys ≠ [] → ∀ p, H p = none → Q (.ref p) (upd H p (.tup (xs ++ ys))))
theorem op_catT2 {X : Cx} : OpR X (binaryOp .Add) (rCatT2 X.K) := by
  intro pins s σ H x y v u Q I rx ry h
  obtain ⟨a, b, xs, ys, ex, ey, ha, hb, hz, q0, q1, q2⟩ := h
  by_cases hx : xs = []
  · subst ex ey
    cases rx
    cases ry
    obtain ⟨its, r1, p1, _⟩ := I.tuple ha
    obtain ⟨its2, r2, p2, _⟩ := I.tuple hb
    have he : its = [] := r1.nil_iff.mpr hx
    subst he
    obtain ⟨⟨cls, dd, data, sl⟩, ho, hc, n, hd⟩ := id p1
    obtain ⟨⟨cls2, dd2, data2, sl2⟩, ho2, hc2, n2, hd2⟩ := id p2
    simp only at hc hd hc2 hd2
    subst hc hd hc2 hd2
    exact concat_meets ⟨_, ho, rfl⟩ ⟨_, ho2, rfl⟩ noFill_tuple_add seq_tuple_add PySem.F.slot_tuple_add PySem.F.entry_tuple_add (PySem.F.args_tuple_add_2 _ _)
      (tuple_addW0 a b _ _ n n2 dd dd2 sl sl2 (by simp)) ⟨ho, ho2, ⟨.ref b, H, I, rfl, q0 hx⟩⟩
  · exact op_catT pins s σ H x y v u Q I rx ry ⟨a, b, xs, ys, ex, ey, ha, hb, hx, hz, q1 hx, q2 hx⟩
theorem SqT.tup {K : PySem.W.Frag} {H : Hp} {a : Addr} {xs : List V} (h : H a = some (.tup xs)) : SqT K H a xs := .inl (.inl h)

section
variable {K : PySem.W.Frag}
theorem rv_int {H : Hp} {i : Int} {v : V} (r : RV K H (.int i) v) : v = .int i := by rw [RV] at r; exact r
theorem rv_ref {H : Hp} {a : Addr} {v : V} (r : RV K H (.ref a) v) : v = .ref a := by rw [RV] at r; exact r
theorem rv_str {H : Hp} {a : Str} {v : V} (r : RV K H (.str a) v) : v = .str a := by rw [RV] at r; exact r
theorem rv_mk_int {H : Hp} (i : Int) : RV K H (.int i) (.int i) := by rw [RV]
theorem rv_mk_bl {H : Hp} (i : Bool) : RV K H (.bl i) (.bl i) := by rw [RV]
theorem rv_mk_str {H : Hp} (i : Str) : RV K H (.str i) (.str i) := by rw [RV]
theorem rv_mk_ref {H : Hp} (i : Addr) : RV K H (.ref i) (.ref i) := by rw [RV]
theorem rv_mk_non {H : Hp} : RV K H .non .non := by rw [RV]
/-- a new tuple -/
theorem rv_tup_new {H : Hp} {p : Addr} {xs : List Val} {vs : List V} (hp : H p = none) (r : RVs K H xs vs) : RV K (upd H p (.tup vs)) (.tup xs) (.ref p) := by
  rw [RV]
  exact ⟨p, vs, rfl, upd_same, r.keep (Keep.fresh hp)⟩
/-- a new list -/
theorem RSt.newLst {H : Hp} {s : Store} {p : Addr} {xs : List Val} {vs : List V} (rs : RSt K H s) (hp : H p = none) (r : RVs K H xs vs) : RSt K (upd H p (.lst vs)) (updS s p (.lst xs)) :=
  rs.cell (Keep.fresh hp) ⟨vs, upd_same, r.keep (Keep.fresh hp)⟩
/-- a list rewritten -/
theorem RSt.setLst {H : Hp} {s : Store} {p : Addr} {xs : List Val} {ws vs : List V} (rs : RSt K H s) (hp : H p = some (.lst ws)) (r : RVs K H xs vs) :
    Keep H (upd H p (.lst vs)) ∧ RSt K (upd H p (.lst vs)) (updS s p (.lst xs)) := by
  have k : Keep H (upd H p (.lst vs)) := Keep.at hp ⟨(fun _ z => nomatch z), fun _ _ z => nomatch z⟩
  exact ⟨k, rs.cell k ⟨vs, upd_same, r.keep k⟩⟩

/-! ### + - * // % ** -/
def oAdd : O2 := fun x y s Q =>
  match x, y with
  | .int i, .int j => Q (.int (i + j)) s
  | .tup xs, .tup ys => xs.length + ys.length ≤ 16777216 ∧ Q (.tup (xs ++ ys)) s
  | .str a, .str b => a.length + b.length ≤ 16777216 ∧ Q (.str (a ++ b)) s
  | .ref a, .ref b => ∃ xs ys, s a = some (.lst xs) ∧ s b = some (.lst ys) ∧ xs.length + ys.length ≤ 16777216 ∧ ∀ p, s p = none → Q (.ref p) (updS s p (.lst (xs ++ ys)))
  | _, _ => False
def rAddA (K : PySem.W.Frag) : R2 := fun x y H Q => rI0 (fun i j => .int (i + j)) x y H Q ∨ rCatT2 K x y H Q ∨ (∃ i j, x = .str i ∧ y = .str j ∧ i.length + j.length ≤ sizeLine ∧ Q (.str (i ++ j)) H) ∨ rCat x y H Q
theorem op_addA {X : Cx} : OpR X (binaryOp .Add) (rAddA X.K) := op_add.or (op_catT2.or (op_add_str.or op_cat))
theorem ops_add : OpS K (rAddA K) oAdd := by
  intro x y s H vx vy Q0 Q rs rx ry h cl
  unfold oAdd at h
  split at h
  · rename_i i j
    rw [rv_int rx, rv_int ry]
    exact .inl ⟨i, j, rfl, rfl, cl _ _ h H _ (Keep.refl H) rs (rv_mk_int _)⟩
  · rename_i xs ys
    rw [RV] at rx ry
    obtain ⟨a, vs, rfl, ha, r1⟩ := rx
    obtain ⟨b, ws, rfl, hb, r2⟩ := ry
    obtain ⟨hl, q⟩ := h
    have e1 := r1.length
    have e2 := r2.length
    refine .inr (.inl ⟨a, b, vs, ws, rfl, rfl, SqT.tup ha, SqT.tup hb, by rw [sizeLine_eq]; omega, fun z => ?_, fun z z2 => ?_, fun z z2 p hp => ?_⟩)
    · have : xs = [] := List.eq_nil_of_length_eq_zero (by rw [e1, z]; rfl)
      subst this
      refine cl _ _ q H _ (Keep.refl H) rs ?_
      rw [RV]
      exact ⟨b, ws, rfl, hb, by simpa using r2⟩
    · have : ys = [] := List.eq_nil_of_length_eq_zero (by rw [e2, z2]; rfl)
      subst this
      refine cl _ _ q H _ (Keep.refl H) rs ?_
      rw [RV]
      exact ⟨a, vs, rfl, ha, by simpa using r1⟩
    · exact cl _ _ q _ _ (Keep.fresh hp) (rs.fresh hp) (rv_tup_new hp (r1.append r2))
  · rename_i a b
    rw [rv_str rx, rv_str ry]
    exact .inr (.inr (.inl ⟨a, b, rfl, rfl, by rw [sizeLine_eq]; exact h.1, cl _ _ h.2 H _ (Keep.refl H) rs (rv_mk_str _)⟩))
  · rename_i a b
    obtain ⟨xs, ys, ha, hb, hl, q⟩ := h
    rw [rv_ref rx, rv_ref ry]
    obtain ⟨vs, e1, r1⟩ := rs a _ ha
    obtain ⟨ws, e2, r2⟩ := rs b _ hb
    have l1 := r1.length
    have l2 := r2.length
    refine .inr (.inr (.inr ⟨a, b, vs, ws, rfl, rfl, e1, e2, by rw [sizeLine_eq]; omega, fun p hp => ?_⟩))
    exact cl _ _ (q p (rs.free hp)) _ _ (Keep.fresh hp) (rs.newLst hp (r1.append r2)) (rv_mk_ref _)
  · exact h.elim
/-- an operator on two ints -/
def oI (C : Int → Int → Prop) (g : Int → Int → Val) : O2 := fun x y s Q => ∃ i j, x = .int i ∧ y = .int j ∧ C i j ∧ Q (g i j) s
theorem ops_I {C : Int → Int → Prop} {g : Int → Int → V} {g' : Int → Int → Val} (hg : ∀ H i j, RV K H (g' i j) (g i j)) : OpS K (rI C g) (oI C g') := by
  intro x y s H vx vy Q0 Q rs rx ry h cl
  obtain ⟨i, j, rfl, rfl, c, q⟩ := h
  rw [rv_int rx, rv_int ry]
  exact ⟨i, j, rfl, rfl, c, cl _ _ q H _ (Keep.refl H) rs (hg H i j)⟩
theorem ops_I0 {g : Int → Int → V} {g' : Int → Int → Val} (hg : ∀ H i j, RV K H (g' i j) (g i j)) : OpS K (rI0 g) (oI (fun _ _ => True) g') := by
  intro x y s H vx vy Q0 Q rs rx ry h cl
  obtain ⟨i, j, rfl, rfl, c, q⟩ := h
  rw [rv_int rx, rv_int ry]
  exact ⟨i, j, rfl, rfl, cl _ _ q H _ (Keep.refl H) rs (hg H i j)⟩
def oSub : O2 := oI (fun _ _ => True) fun i j => .int (i - j)
theorem ops_sub : OpS K (rI0 fun i j => .int (i - j)) oSub := ops_I0 fun _ _ _ => rv_mk_int _
/-- a product: of two ints, or a list so many times -/
def oMul : O2 := fun x y s Q =>
  match x, y with
  | .int i, .int j => i.natAbs.log2 + j.natAbs.log2 < 1000000 ∧ Q (.int (i * j)) s
  | .ref a, .int k => ∃ xs, s a = some (.lst xs) ∧ k < 2 ^ 40 ∧ -(2 ^ 40) < k ∧ xs.length * k.toNat ≤ 16777216 ∧ ∀ p, s p = none → Q (.ref p) (updS s p (.lst (List.replicate k.toNat xs).flatten))
  | _, _ => False
def rMulA : R2 := fun x y H Q => rI CMulW (fun i j => .int (i * j)) x y H Q ∨ rRep x y H Q
theorem op_mulA {X : Cx} : OpR X (binaryOp .Mult) rMulA := op_mulW.or op_rep
theorem RVs.rep {H : Hp} {xs : List Val} {vs : List V} (r : RVs K H xs vs) : ∀ k, RVs K H (List.replicate k xs).flatten (List.replicate k vs).flatten
  | 0 => RVs.nil
  | k + 1 => by
    rw [List.replicate_succ, List.replicate_succ, List.flatten_cons, List.flatten_cons]
    exact r.append (RVs.rep r k)
theorem ops_mul : OpS K rMulA oMul := by
  intro x y s H vx vy Q0 Q rs rx ry h cl
  unfold oMul at h
  split at h
  · rename_i i j
    rw [rv_int rx, rv_int ry]
    exact .inl ⟨i, j, rfl, rfl, h.1, cl _ _ h.2 H _ (Keep.refl H) rs (rv_mk_int _)⟩
  · rename_i a k
    obtain ⟨xs, ha, h1, h2, hl, q⟩ := h
    rw [rv_ref rx, rv_int ry]
    obtain ⟨vs, e1, r1⟩ := rs a _ ha
    have l1 := r1.length
    refine .inr ⟨a, k, vs, rfl, rfl, e1, by omega, by omega, by rw [sizeLine_eq, ← l1]; exact hl, fun p hp => ?_⟩
    exact cl _ _ (q p (rs.free hp)) _ _ (Keep.fresh hp) (rs.newLst hp (r1.rep _)) (rv_mk_ref _)
  · exact h.elim
def oFdiv : O2 := oI (fun _ j => 0 < j ∧ j.natAbs.log2 < 9000) fun i j => .int (i / j)
theorem ops_fdiv : OpS K (rI CDivW fun i j => .int (i / j)) oFdiv := ops_I fun _ _ _ => rv_mk_int _
def oMod : O2 := oI (fun _ j => 0 < j) fun i j => .int (i % j)
theorem ops_mod : OpS K (rI (fun _ j => 0 < j) fun i j => .int (i % j)) oMod := ops_I fun _ _ _ => rv_mk_int _
def oPow : O2 := oI CPow fun i j => .int (i ^ j.toNat)
theorem ops_pow : OpS K (rI CPow fun i j => .int (i ^ j.toNat)) oPow := ops_I fun _ _ _ => rv_mk_int _
/-! ### < <= > >= of ints -/
def oLt : O2 := oI (fun _ _ => True) fun i j => .bl (decide (i < j))
def oLe : O2 := oI (fun _ _ => True) fun i j => .bl (decide (i ≤ j))
def oGt : O2 := oI (fun _ _ => True) fun i j => .bl (decide (j < i))
def oGe : O2 := oI (fun _ _ => True) fun i j => .bl (decide (j ≤ i))
theorem ops_lt : OpS K (rI0 fun i j => .bl (decide (i < j))) oLt := ops_I0 fun _ _ _ => rv_mk_bl _
theorem ops_le : OpS K (rI0 fun i j => .bl (decide (i ≤ j))) oLe := ops_I0 fun _ _ _ => rv_mk_bl _
theorem ops_gt : OpS K (rI0 fun i j => .bl (decide (j < i))) oGt := ops_I0 fun _ _ _ => rv_mk_bl _
theorem ops_ge : OpS K (rI0 fun i j => .bl (decide (j ≤ i))) oGe := ops_I0 fun _ _ _ => rv_mk_bl _
/-! ### is None -/
def isNon : Val → Bool
  | .non => true
  | _ => false
def oIsN (neg : Bool) : O2 := fun x y s Q => y = .non ∧ Q (.bl (if neg then !isNon x else isNon x)) s
theorem rv_non {H : Hp} {x : Val} {v : V} (r : RV K H x v) : decide (v = .non) = isNon x := by
  cases x <;> simp only [RV] at r <;> first
    | (subst r; simp [isNon])
    | (obtain ⟨a, vs, rfl, _⟩ := r; simp [isNon])
theorem ops_isN : OpS K (fun x y H Q => y = .non ∧ Q (.bl (decide (x = .non))) H) (oIsN false) := by
  intro x y s H vx vy Q0 Q rs rx ry h cl
  obtain ⟨rfl, q⟩ := h
  rw [RV] at ry
  refine ⟨ry, ?_⟩
  rw [rv_non rx]
  exact cl _ _ q H _ (Keep.refl H) rs (rv_mk_bl _)
theorem ops_notN : OpS K (fun x y H Q => y = .non ∧ Q (.bl (!decide (x = .non))) H) (oIsN true) := by
  intro x y s H vx vy Q0 Q rs rx ry h cl
  obtain ⟨rfl, q⟩ := h
  rw [RV] at ry
  refine ⟨ry, ?_⟩
  rw [rv_non rx]
  exact cl _ _ q H _ (Keep.refl H) rs (rv_mk_bl _)

/-! ### a[i] -/
def oIx : O2 := fun x y s Q =>
  match x with
  | .tup xs => ∃ i v, y = .int i ∧ atI xs i = some v ∧ Q v s
  | .str z => ∃ i c, y = .int i ∧ z.length ≤ 16777216 ∧ atI z.cps.toList i = some c ∧ Q (.str ⟨#[c]⟩) s
  | .ref a => match s a with
    | some (.lst xs) => ∃ i v, y = .int i ∧ atI xs i = some v ∧ Q v s
    | some (.dic t kvs) => isKey t y ∧ ∃ v, dlook kvs y = some v ∧ Q v s
    | _ => False
  | _ => False
def rDIx : R2 := fun x y H Q => ∃ a v, x = .ref a ∧ DGet H a y (some v) ∧ Q v H
theorem ix_dict {X : Cx} (hu : X.A.units + 1 < cLine) : IxR X rDIx := by
  intro value slice pins s σ H x y v u Q I rx ry h hs
  obtain ⟨a, z, rfl, g, q⟩ := h
  cases rx
  exact tail_any (dict_typeIs I g) PySem.F.slot_dict_getitem.lookup (d_getItem hu I g ry fun w' s3 I3 rw' => ⟨z, H, I3, rw', q⟩) hs
theorem RVs.atI {H : Hp} {xs : List Val} {vs : List V} {i : Int} {x : Val} (r : RVs K H xs vs) (h : L2.atI xs i = some x) : ∃ v, L2.atI vs i = some v ∧ RV K H x v := by
  unfold L2.atI at h ⊢
  rw [← r.length]
  cases e : ixN xs.length i with
  | none => rw [e] at h; cases h
  | some j =>
    rw [e] at h
    exact r.get h
def rIxA (K : PySem.W.Frag) : R2 := fun x y H Q => rIx K x y H Q ∨ rDIx x y H Q
theorem ix_any {X : Cx} (hu : X.A.units + 1 < cLine) : IxR X (rIxA X.K) := ix_seq.or (ix_dict hu)
theorem ops_ix : OpS K (rIxA K) oIx := by
  intro x y s H vx vy Q0 Q rs rx ry h cl
  unfold oIx at h
  split at h
  · obtain ⟨i, v, rfl, e, q⟩ := h
    rw [RV] at rx
    obtain ⟨a, vs, rfl, ha, r⟩ := rx
    obtain ⟨w, e2, r2⟩ := r.atI e
    rw [rv_int ry]
    exact .inl (.inr (.inl ⟨a, vs, i, w, rfl, rfl, SqT.tup ha, e2, cl _ _ q H _ (Keep.refl H) rs r2⟩))
  · obtain ⟨i, c, rfl, hl, e, q⟩ := h
    rw [rv_str rx, rv_int ry]
    exact .inl (.inr (.inr ⟨_, i, c, rfl, rfl, by rw [sizeLine_eq]; exact hl, e, cl _ _ q H _ (Keep.refl H) rs (rv_mk_str _)⟩))
  · rename_i a
    split at h
    · rename_i xs ha
      obtain ⟨i, v, rfl, e, q⟩ := h
      obtain ⟨vs, e1, r1⟩ := rs a _ ha
      obtain ⟨w, e2, r2⟩ := r1.atI e
      rw [rv_ref rx, rv_int ry]
      exact .inl (.inl ⟨a, vs, i, w, rfl, rfl, SqL.of e1, e2, cl _ _ q H _ (Keep.refl H) rs r2⟩)
    · rename_i t kvs ha
      obtain ⟨hk, v, e, q⟩ := h
      rw [rv_ref rx]
      rcases dget_of rs ha hk ry with ⟨z, g⟩ | ⟨z, w, z2, g, r⟩
      · rw [z] at e; cases e
      · rw [z2] at e; cases e
        exact .inr ⟨a, w, rfl, g, cl _ _ q H _ (Keep.refl H) rs r⟩
    · exact h.elim
  · exact h.elim
end
section
variable {X : Cx} {W : WX} {k : Nat} {e1 e2 : Expr} {pos : Pos} {a b : WE}
theorem je_ix (hr : Room k X.A) (ha : JE X W e1 a) (hb : JE X W e2 b) (hs : PlainIx e2 := by exact fun _ _ => rfl) : JE X W (.Subscript e1 e2 pos) (wOp oIx a b) :=
  PE.imp (pe_ix (ix_any (by have := hr.units; omega)) ha hb hs) fun σ H Q h => op_of ops_ix h
theorem je_add (ha : JE X W e1 a) (hb : JE X W e2 b) : JE X W (.BinOp e1 .Add e2 pos) (wOp oAdd a b) := je_bin op_addA ops_add ha hb
theorem je_sub (ha : JE X W e1 a) (hb : JE X W e2 b) : JE X W (.BinOp e1 .Sub e2 pos) (wOp oSub a b) := je_bin op_sub ops_sub ha hb
theorem je_mul (ha : JE X W e1 a) (hb : JE X W e2 b) : JE X W (.BinOp e1 .Mult e2 pos) (wOp oMul a b) := je_bin op_mulA ops_mul ha hb
theorem je_fdiv (ha : JE X W e1 a) (hb : JE X W e2 b) : JE X W (.BinOp e1 .FloorDiv e2 pos) (wOp oFdiv a b) := je_bin op_fdivW ops_fdiv ha hb
theorem je_mod (ha : JE X W e1 a) (hb : JE X W e2 b) : JE X W (.BinOp e1 .Mod e2 pos) (wOp oMod a b) := je_bin op_mod ops_mod ha hb
theorem je_pow (ha : JE X W e1 a) (hb : JE X W e2 b) : JE X W (.BinOp e1 .Pow e2 pos) (wOp oPow a b) := je_bin op_pow ops_pow ha hb
theorem je_lt (ha : JE X W e1 a) (hb : JE X W e2 b) : JE X W (.Compare e1 [.Lt] [e2] pos) (wOp oLt a b) := je_cmp op_lt ops_lt (nomark _) ha hb
theorem je_le (ha : JE X W e1 a) (hb : JE X W e2 b) : JE X W (.Compare e1 [.LtE] [e2] pos) (wOp oLe a b) := je_cmp op_le ops_le (nomark _) ha hb
theorem je_gt (ha : JE X W e1 a) (hb : JE X W e2 b) : JE X W (.Compare e1 [.Gt] [e2] pos) (wOp oGt a b) := je_cmp op_gt ops_gt (nomark _) ha hb
theorem je_ge (ha : JE X W e1 a) (hb : JE X W e2 b) : JE X W (.Compare e1 [.GtE] [e2] pos) (wOp oGe a b) := je_cmp op_ge ops_ge (nomark _) ha hb
theorem je_eq (hr : Room k X.A) (ha : JE X W e1 a) (hb : JE X W e2 b) : JE X W (.Compare e1 [.Eq] [e2] pos) (wOp (oEq false) a b) := je_cmp (op_eqP hr) ops_eq (nomark _) ha hb
theorem je_ne (hr : Room k X.A) (ha : JE X W e1 a) (hb : JE X W e2 b) : JE X W (.Compare e1 [.NotEq] [e2] pos) (wOp (oEq true) a b) := je_cmp (op_neP hr) ops_eq (nomark _) ha hb
theorem je_in (hr : Room k X.A) (ha : JE X W e1 a) (hb : JE X W e2 b) (hm : behindInMarks .In e2 = false := by rfl) : JE X W (.Compare e1 [.In] [e2] pos) (wOp (oIn false) a b) := je_cmp (op_inP hr) ops_in hm ha hb
theorem je_notIn (hr : Room k X.A) (ha : JE X W e1 a) (hb : JE X W e2 b) (hm : behindInMarks .NotIn e2 = false := by rfl) : JE X W (.Compare e1 [.NotIn] [e2] pos) (wOp (oIn true) a b) := je_cmp (op_notInP hr) ops_in hm ha hb
theorem je_isN (ha : JE X W e1 a) (hb : JE X W e2 b) : JE X W (.Compare e1 [.Is] [e2] pos) (wOp (oIsN false) a b) := je_cmp op_isN ops_isN (nomark _) ha hb
theorem je_notN (ha : JE X W e1 a) (hb : JE X W e2 b) : JE X W (.Compare e1 [.IsNot] [e2] pos) (wOp (oIsN true) a b) := je_cmp op_notN ops_notN (nomark _) ha hb
theorem jt_lt (ha : JE X W e1 a) (hb : JE X W e2 b) : JT X W (.Compare e1 [.Lt] [e2] pos) (wTest (wOp oLt a b)) := jt_cmp op_lt ops_lt (nomark _) ha hb
theorem jt_le (ha : JE X W e1 a) (hb : JE X W e2 b) : JT X W (.Compare e1 [.LtE] [e2] pos) (wTest (wOp oLe a b)) := jt_cmp op_le ops_le (nomark _) ha hb
theorem jt_gt (ha : JE X W e1 a) (hb : JE X W e2 b) : JT X W (.Compare e1 [.Gt] [e2] pos) (wTest (wOp oGt a b)) := jt_cmp op_gt ops_gt (nomark _) ha hb
theorem jt_ge (ha : JE X W e1 a) (hb : JE X W e2 b) : JT X W (.Compare e1 [.GtE] [e2] pos) (wTest (wOp oGe a b)) := jt_cmp op_ge ops_ge (nomark _) ha hb
theorem jt_eq (hr : Room k X.A) (ha : JE X W e1 a) (hb : JE X W e2 b) : JT X W (.Compare e1 [.Eq] [e2] pos) (wTest (wOp (oEq false) a b)) := jt_cmp (op_eqP hr) ops_eq (nomark _) ha hb
theorem jt_ne (hr : Room k X.A) (ha : JE X W e1 a) (hb : JE X W e2 b) : JT X W (.Compare e1 [.NotEq] [e2] pos) (wTest (wOp (oEq true) a b)) := jt_cmp (op_neP hr) ops_eq (nomark _) ha hb
theorem jt_in (hr : Room k X.A) (ha : JE X W e1 a) (hb : JE X W e2 b) (hm : behindInMarks .In e2 = false := by rfl) : JT X W (.Compare e1 [.In] [e2] pos) (wTest (wOp (oIn false) a b)) := jt_cmp (op_inP hr) ops_in hm ha hb
theorem jt_notIn (hr : Room k X.A) (ha : JE X W e1 a) (hb : JE X W e2 b) (hm : behindInMarks .NotIn e2 = false := by rfl) : JT X W (.Compare e1 [.NotIn] [e2] pos) (wTest (wOp (oIn true) a b)) := jt_cmp (op_notInP hr) ops_in hm ha hb
theorem jt_isN (ha : JE X W e1 a) (hb : JE X W e2 b) : JT X W (.Compare e1 [.Is] [e2] pos) (wTest (wOp (oIsN false) a b)) := jt_cmp op_isN ops_isN (nomark _) ha hb
theorem jt_notN (ha : JE X W e1 a) (hb : JE X W e2 b) : JT X W (.Compare e1 [.IsNot] [e2] pos) (wTest (wOp (oIsN true) a b)) := jt_cmp op_notN ops_notN (nomark _) ha hb
/-- -e -/
def wNeg (a : WE) : WE := fun env s Q E => a env s (fun x s1 => ∃ i, x = .int i ∧ Q (.int (-i)) s1) E
theorem je_neg (ha : JE X W e1 a) : JE X W (.UnaryOp .USub e1 pos) (wNeg a) := PE.imp (pe_un un_neg ha) fun σ H Q h => by
  obtain ⟨env, s, Q0, E0, re, rs, q, cl, ce⟩ := h
  refine ⟨env, s, _, E0, re, rs, q, fun v s1 q1 H1 u k1 rs1 rv => ?_, ce⟩
  obtain ⟨i, rfl, q1⟩ := q1
  rw [rv_int rv]
  exact ⟨i, rfl, cl _ _ q1 H1 _ k1 rs1 (rv_mk_int _)⟩
/-- a op b op' c -/
def wChain (o o' : O2) (a b c : WE) : WE := fun env s Q E => a env s (fun x s1 => b env s1 (fun y s2 => o x y s2 (fun z s3 => ∃ k, z = .bl k ∧ (if k = true then c env s3 (fun w s4 => o' y w s4 Q) E else Q (.bl false) s3))) E) E
theorem je_chain {e3 : Expr} {c : WE} {op op' : CmpOp} {r r' : R2} {o o' : O2} (ho : OpR X (compareOp op) r) (hs : OpS X.K r o) (ho' : OpR X (compareOp op') r') (hs' : OpS X.K r' o') (ha : JE X W e1 a) (hb : JE X W e2 b) (hc : JE X W e3 c)
    (hm : lastMarks [op, op'] [e2, e3] = false := by with_unfolding_all rfl) : JE X W (.Compare e1 [op, op'] [e2, e3] pos) (wChain o o' a b c) :=
  PE.imp (pe_chain ho ho' ha hb hc hm) fun σ H Q h => by
    obtain ⟨env, s, Q0, E0, re, rs, q, cl, ce⟩ := h
    refine ⟨env, s, _, E0, re, rs, q, fun x s1 q1 H1 u k1 rs1 rx => ?_, ce⟩
    refine ⟨env, s1, _, E0, re.keep k1, rs1, q1, fun y s2 q2 H2 u2 k2 rs2 ry => ?_, ce.keep k1⟩
    refine hs x y s2 H2 u u2 _ _ rs2 (rx.keep k2) ry q2 fun z s3 q3 H3 u3 k3 rs3 rz => ?_
    obtain ⟨d, rfl, q3⟩ := q3
    rw [RV] at rz
    refine ⟨d, rz, ?_⟩
    have k13 := (k1.trans k2).trans k3
    cases d with
    | false => exact cl _ _ q3 H3 _ k13 rs3 (rv_mk_bl _)
    | true =>
      refine ⟨env, s3, _, E0, re.keep k13, rs3, q3, fun w s4 q4 H4 u4 k4 rs4 rw => ?_, ce.keep k13⟩
      exact hs' y w s4 H4 u2 u4 Q0 Q rs4 (ry.keep (k3.trans k4)) rw q4 (Cl.keep cl (k13.trans k4))
end
end Y
set_option Elab.async false
set_option linter.all false
set_option maxRecDepth 100000
set_option maxHeartbeats 4000000
set_option autoImplicit false
/-! Y: statements, targets, loops, comprehensions. -/
namespace Y
open PySem PySem.Spec PyProof.Rows L2

structure DE where
  nx : Env → Store → Prop
  rt : Val → Store → Prop
  bk : Env → Store → Prop
  ct : Env → Store → Prop
  ex : Exn → Env → Store → Prop
abbrev WS := DE → Env → Store → Prop
structure ClS (K : PySem.W.Frag) (W : WX) (H : Hp) (D0 : DE) (D : Ends) : Prop where
  nx : ∀ env s, D0.nx env s → ∀ σ H', Keep H H' → REnv K H' env σ → RSt K H' s → D.nx σ H'
  rt : ∀ v s, D0.rt v s → ∀ H' u, Keep H H' → RSt K H' s → RV K H' v u → D.rt u H'
  bk : ∀ env s, D0.bk env s → ∀ σ H', Keep H H' → REnv K H' env σ → RSt K H' s → D.bk σ H'
  ct : ∀ env s, D0.ct env s → ∀ σ H', Keep H H' → REnv K H' env σ → RSt K H' s → D.ct σ H'
  ex : ∀ x env s, D0.ex x env s → ∀ σ H' d, Keep H H' → REnv K H' env σ → RSt K H' s → RX K H' x d → W (.ref x.cls) d σ H'
theorem ClS.keep {K : PySem.W.Frag} {W : WX} {H H1 : Hp} {D0 : DE} {D : Ends} (c : ClS K W H D0 D) (k : Keep H H1) : ClS K W H1 D0 D :=
  ⟨fun env s q σ H' k' => c.nx env s q σ H' (k.trans k'), fun v s q H' u k' => c.rt v s q H' u (k.trans k'), fun env s q σ H' k' => c.bk env s q σ H' (k.trans k'),
    fun env s q σ H' k' => c.ct env s q σ H' (k.trans k'), fun x env s q σ H' d k' => c.ex x env s q σ H' d (k.trans k')⟩
theorem ClS.clE {K : PySem.W.Frag} {W : WX} {H H1 : Hp} {D0 : DE} {D : Ends} {env : Env} {σ : List (Option V)} (c : ClS K W H D0 D) (re : REnv K H1 env σ) (k : Keep H H1) : ClE K W σ H1 (fun x s => D0.ex x env s) :=
  fun x s' q H' d k' rs rx => c.ex x env s' q σ H' d (k.trans k') (re.keep k') rs rx
/-- a statement -/
def tS (K : PySem.W.Frag) (W : WX) (w : WS) : TS := fun D σ H => ∃ env s D0, REnv K H env σ ∧ RSt K H s ∧ w D0 env s ∧ ClS K W H D0 D
abbrev JS (X : Cx) (W : WX) (st : Stmt) (w : WS) : Prop := PS X st (tS X.K W w)
abbrev JB (X : Cx) (W : WX) (st : List Stmt) (w : WS) : Prop := PSs X st (tS X.K W w)
theorem PS.imp {X : Cx} {st : Stmt} {t t' : TS} (h : PS X st t) (i : ∀ D σ H, t' D σ H → t D σ H) : PS X st t' := ⟨fun pins s σ H D I q => h.run pins s σ H D I (i D σ H q)⟩
theorem PSs.imp {X : Cx} {st : List Stmt} {t t' : TS} (h : PSs X st t) (i : ∀ D σ H, t' D σ H → t D σ H) : PSs X st t' := ⟨fun pins s σ H D I q => h.run pins s σ H D I (i D σ H q)⟩
section
variable {X : Cx} {W : WX} {st : Stmt} {rest : List Stmt} {e : Expr} {pos : Pos} {w w1 w2 : WS} {a : WE}
/-! ### blocks -/
def wNext : WS := fun D env s => D.nx env s
def wSeq (w1 w2 : WS) : WS := fun D env s => w1 { D with nx := w2 D } env s
theorem jb_nil : JB X W [] wNext := PSs.imp pss_nil fun D σ H h => by
  obtain ⟨env, s, D0, re, rs, q, cl⟩ := h
  exact cl.nx _ _ q σ H (Keep.refl H) re rs
theorem jb_one (h : JS X W st w) : JB X W [st] w := pss_one h
theorem jb_cons (h1 : JS X W st w1) (h2 : JB X W rest w2) : JB X W (st :: rest) (wSeq w1 w2) := PSs.imp (pss_cons h1 h2) fun D σ H h => by
  obtain ⟨env, s, D0, re, rs, q, cl⟩ := h
  exact ⟨env, s, _, re, rs, q, ⟨fun env' s' q' σ' H' k re' rs' => ⟨env', s', D0, re', rs', q', cl.keep k⟩, cl.rt, cl.bk, cl.ct, cl.ex⟩⟩
/-! ### small ones -/
theorem js_pass : JS X W (.Pass pos) wNext := PS.imp ps_pass fun D σ H h => by
  obtain ⟨env, s, D0, re, rs, q, cl⟩ := h
  exact cl.nx _ _ q σ H (Keep.refl H) re rs
theorem js_doc {x j pos'} : JS X W (.Expr (.Constant (.str x) j pos) pos') wNext := PS.imp ps_doc fun D σ H h => by
  obtain ⟨env, s, D0, re, rs, q, cl⟩ := h
  exact cl.nx _ _ q σ H (Keep.refl H) re rs
def wBreak : WS := fun D env s => D.bk env s
def wCont : WS := fun D env s => D.ct env s
theorem js_break : JS X W (.Break pos) wBreak := PS.imp ps_break fun D σ H h => by
  obtain ⟨env, s, D0, re, rs, q, cl⟩ := h
  exact cl.bk _ _ q σ H (Keep.refl H) re rs
theorem js_continue : JS X W (.Continue pos) wCont := PS.imp ps_continue fun D σ H h => by
  obtain ⟨env, s, D0, re, rs, q, cl⟩ := h
  exact cl.ct _ _ q σ H (Keep.refl H) re rs
def wNever : WS := fun _ _ _ => False
theorem js_never : JS X W st wNever := PS.imp ps_never fun D σ H h => by
  obtain ⟨env, s, D0, re, rs, q, cl⟩ := h
  exact q
theorem jb_never : JB X W rest wNever := PSs.imp pss_never fun D σ H h => by
  obtain ⟨env, s, D0, re, rs, q, cl⟩ := h
  exact q
def wDrop (a : WE) : WS := fun D env s => a env s (fun _ s1 => D.nx env s1) (fun x s1 => D.ex x env s1)
theorem js_expr (he : JE X W e a) (hs : swapsWith e none pos.line X.env = pure false := by rfl) : JS X W (.Expr e pos) (wDrop a) := PS.imp (ps_expr he hs) fun D σ H h => by
  obtain ⟨env, s, D0, re, rs, q, cl⟩ := h
  exact ⟨env, s, _, _, re, rs, q, fun v s' q' H' u k rs' rv => cl.nx _ _ q' σ H' k (re.keep k) rs', cl.clE re (Keep.refl H)⟩
def wRet (a : WE) : WS := fun D env s => a env s D.rt (fun x s1 => D.ex x env s1)
theorem js_ret (he : JE X W e a) : JS X W (.Return (some e) pos) (wRet a) := PS.imp (ps_ret he) fun D σ H h => by
  obtain ⟨env, s, D0, re, rs, q, cl⟩ := h
  exact ⟨env, s, _, _, re, rs, q, fun v s' q' H' u k rs' rv => cl.rt _ _ q' H' u k rs' rv, cl.clE re (Keep.refl H)⟩
def wRetN : WS := fun D _ s => D.rt .non s
theorem js_retN : JS X W (.Return none pos) wRetN := PS.imp ps_retN fun D σ H h => by
  obtain ⟨env, s, D0, re, rs, q, cl⟩ := h
  exact cl.rt _ _ q H _ (Keep.refl H) rs rv_mk_non
def wIf (c : WB) (w1 w2 : WS) : WS := fun D env s => c env s (fun b s1 => if b = true then w1 D env s1 else w2 D env s1) (fun x s1 => D.ex x env s1)
theorem js_if {c : Expr} {a b : List Stmt} {wc : WB} (hc : JT X W c wc) (ha : JB X W a w1) (hb : JB X W b w2) : JS X W (.If c a b pos) (wIf wc w1 w2) := PS.imp (ps_if hc ha hb) fun D σ H h => by
  obtain ⟨env, s, D0, re, rs, q, cl⟩ := h
  refine ⟨env, s, _, _, re, rs, q, fun b s' q' H' k rs' => ?_, cl.clE re (Keep.refl H)⟩
  cases b with
  | true => exact ⟨env, s', D0, re.keep k, rs', q', cl.keep k⟩
  | false => exact ⟨env, s', D0, re.keep k, rs', q', cl.keep k⟩
/-- name = e -/
def wSet (i : Nat) (a : WE) : WS := fun D env s => a env s (fun v s1 => D.nx (env.set i (some v)) s1) (fun x s1 => D.ex x env s1)
theorem js_set {i : Nat} {x : Str} {pos' : Pos} (hN : X.N.Nodup) (hi : X.N[i]? = some x) (hx : Loc X.env.scope x) (he : JE X W e a) (hs : swapsWith e (some (.Name x pos')) pos.line X.env = pure false := by rfl)
    (hf : X.fn x = true ∨ X.env.scope.names.lookup x = some .local := by first | exact .inl rfl | exact .inr rfl | assumption) : JS X W (.Assign [.Name x pos'] e pos) (wSet i a) := PS.imp (ps_set hN hi hx he hs hf) fun D σ H h => by
  obtain ⟨env, s, D0, re, rs, q, cl⟩ := h
  exact ⟨env, s, _, _, re, rs, q, fun v s' q' H' u k rs' rv => cl.nx _ _ q' _ H' k ((re.keep k).set i rv) rs', cl.clE re (Keep.refl H)⟩

/-! ### targets -/
inductive Tg where
  | nm (i : Nat)
  | tp (ts : List Tg)
mutual
def Tg.put : Tg → Val → Env → Option Env
  | .nm i, v, env => some (env.set i (some v))
  | .tp ts, .tup xs, env => Tg.puts ts xs env
  | .tp _, _, _ => none
def Tg.puts : List Tg → List Val → Env → Option Env
  | [], [], env => some env
  | t :: ts, x :: xs, env => match Tg.put t x env with
    | some env' => Tg.puts ts xs env'
    | none => none
  | _, _, _ => none
end
mutual
def Tg.tg (K : PySem.W.Frag) : Tg → TG
  | .nm i => gName i
  | .tp ts => gTup K ts.length (Tg.tgs K ts)
def Tg.tgs (K : PySem.W.Frag) : List Tg → TGs
  | [] => gNil
  | t :: ts => gCons (Tg.tg K t) (Tg.tgs K ts)
end
mutual
def Tg.within (vs : List Nat) : Tg → Bool
  | .nm i => vs.contains i
  | .tp ts => Tg.withins vs ts
def Tg.withins (vs : List Nat) : List Tg → Bool
  | [] => true
  | t :: ts => Tg.within vs t && Tg.withins vs ts
end
theorem wipe_get {σ : List (Option V)} {j : Nat} : ∀ {vs : List Nat}, (L2.wipe σ vs)[j]? = if j ∈ vs then (if j < σ.length then some none else none) else σ[j]?
  | [] => by simp [L2.wipe]
  | v :: vs => by
    unfold L2.wipe
    by_cases h : v = j
    · subst h
      rw [if_pos List.mem_cons_self]
      by_cases hl : v < σ.length
      · rw [if_pos hl, List.getElem?_set_self (by rw [wipe_length]; exact hl)]
      · rw [if_neg hl]; exact List.getElem?_eq_none (by rw [List.length_set, wipe_length]; omega)
    · rw [List.getElem?_set_ne h, wipe_get (vs := vs)]
      by_cases hm : j ∈ vs
      · rw [if_pos hm, if_pos (List.mem_cons_of_mem _ hm)]
      · rw [if_neg hm, if_neg (by simp only [List.mem_cons, not_or]; exact ⟨fun z => h z.symm, hm⟩)]
theorem wipe_set {σ : List (Option V)} {vs : List Nat} {i : Nat} {x : Option V} (h : i ∈ vs) : L2.wipe (σ.set i x) vs = L2.wipe σ vs := by
  apply List.ext_getElem?
  intro j
  rw [wipe_get, wipe_get, List.length_set]
  by_cases hm : j ∈ vs
  · rw [if_pos hm, if_pos hm]
  · rw [if_neg hm, if_neg hm, List.getElem?_set_ne (fun z => hm (by rw [← z]; exact h))]
theorem puts_len : ∀ {ts : List Tg} {xs : List Val} {env env' : Env}, Tg.puts ts xs env = some env' → xs.length = ts.length
  | [], [], _, _, _ => rfl
  | [], _ :: _, _, _, e => by simp [Tg.puts] at e
  | _ :: _, [], _, _, e => by simp [Tg.puts] at e
  | t :: ts, x :: xs, env, env', e => by
    rw [Tg.puts] at e
    cases hp : t.put x env with
    | none => rw [hp] at e; cases e
    | some env1 =>
      rw [hp] at e
      rw [List.length_cons, List.length_cons, puts_len e]
mutual
theorem Tg.run {K : PySem.W.Frag} {H : Hp} {vs : List Nat} : ∀ (t : Tg) {x : Val} {v : V} {env env' : Env} {σ : List (Option V)} {Q : L2.St → Hp → Prop}, RV K H x v → REnv K H env σ → t.put x env = some env' →
    (∀ σ', REnv K H env' σ' → (t.within vs = true → L2.wipe σ' vs = L2.wipe σ vs) → Q σ' H) → t.tg K v σ H Q
  | .nm i, x, v, env, env', σ, Q, rv, re, e, q => by
    rw [Tg.put] at e
    cases e
    rw [Tg.tg]
    exact q _ (re.set i rv) fun h => by
      rw [Tg.within, List.contains_iff_mem] at h
      exact wipe_set h
  | .tp ts, x, v, env, env', σ, Q, rv, re, e, q => by
    cases x with
    | tup xs =>
      rw [Tg.put] at e
      rw [RV] at rv
      obtain ⟨a, ws, rfl, ha, r⟩ := rv
      rw [Tg.tg]
      obtain ⟨hl, hq⟩ := Tg.runs (vs := vs) ts r re e fun σ' re' hw => q σ' re' fun h => hw (by rw [Tg.within] at h; exact h)
      exact ⟨a, ws, rfl, SqT.tup ha, hl, hq⟩
    | _ => rw [Tg.put] at e <;> first | cases e | (intro _ z; cases z)
theorem Tg.runs {K : PySem.W.Frag} {H : Hp} {vs : List Nat} : ∀ (ts : List Tg) {xs : List Val} {ws : List V} {env env' : Env} {σ : List (Option V)} {Q : L2.St → Hp → Prop}, RVs K H xs ws → REnv K H env σ → Tg.puts ts xs env = some env' →
    (∀ σ', REnv K H env' σ' → (Tg.withins vs ts = true → L2.wipe σ' vs = L2.wipe σ vs) → Q σ' H) → ws.length = ts.length ∧ Tg.tgs K ts ws σ H Q
  | [], xs, ws, env, env', σ, Q, rv, re, e, q => by
    cases xs with
    | nil =>
      rw [Tg.puts] at e
      cases e
      rw [RVs] at rv
      subst rv
      rw [Tg.tgs]
      exact ⟨rfl, rfl, q σ re fun _ => rfl⟩
    | cons _ _ => rw [Tg.puts] at e <;> first | cases e | simp
  | t :: ts, xs, ws, env, env', σ, Q, rv, re, e, q => by
    cases xs with
    | nil => rw [Tg.puts] at e <;> first | cases e | simp
    | cons x xs =>
      rw [RVs] at rv
      obtain ⟨v, r, rfl, r1, r2⟩ := rv
      rw [Tg.puts] at e
      cases hp : t.put x env with
      | none => rw [hp] at e; cases e
      | some env1 =>
        rw [hp] at e
        have hl : r.length = ts.length := by rw [← r2.length]; exact puts_len e
        rw [Tg.tgs]
        refine ⟨by rw [List.length_cons, List.length_cons, hl], v, r, rfl, Tg.run (vs := vs) t r1 re hp fun σ1 re1 hw1 => ?_⟩
        exact (Tg.runs (vs := vs) ts r2 re1 e fun σ2 re2 hw2 => q σ2 re2 fun h => by
          rw [Tg.withins, Bool.and_eq_true] at h
          exact (hw2 h.2).trans (hw1 h.1)).2
end
end
section
variable {X : Cx} {W : WX} {e : Expr} {pos : Pos} {a : WE}
abbrev JG (X : Cx) (e : Expr) (t : Tg) : Prop := PG X e (t.tg X.K)
abbrev JGs (X : Cx) (es : List Expr) (ts : List Tg) : Prop := PGs X es (Tg.tgs X.K ts)
theorem jg_nm {i : Nat} {x : Str} (hN : X.N.Nodup) (hi : X.N[i]? = some x) (hx : Loc X.env.scope x) (hf : X.fn x = true ∨ X.env.scope.names.lookup x = some .local := by first | exact .inl rfl | exact .inr rfl | assumption) : JG X (.Name x pos) (.nm i) := by
  show PG X _ (Tg.tg X.K (.nm i))
  rw [Tg.tg]
  exact pg_name hN hi hx hf
theorem jgs_nil : JGs X [] [] := by
  show PGs X _ (Tg.tgs X.K [])
  rw [Tg.tgs]
  exact pgs_nil
theorem jgs_cons {es : List Expr} {t : Tg} {ts : List Tg} (h1 : JG X e t) (h2 : JGs X es ts) (hs : (assignEach (e :: es) X.env).map (·.2) = assign e X.env :: (assignEach es X.env).map (·.2) := by rfl) : JGs X (e :: es) (t :: ts) := by
  show PGs X _ (Tg.tgs X.K (t :: ts))
  rw [Tg.tgs]
  exact pgs_cons h1 h2 hs
theorem jg_tp {es : List Expr} {k : Nat} {ts : List Tg} (hc : X.calm = true) (h : JGs X es ts) (hn : (assignEach es X.env).length = ts.length := by rfl) (hst : (assignEach es X.env).findIdx? (·.1) = none := by rfl) : JG X (.Tuple es k pos) (.tp ts) := by
  show PG X _ (Tg.tg X.K (.tp ts))
  rw [Tg.tg]
  exact pg_tup hc h hn hst
/-- target = e -/
def wAsg (t : Tg) (a : WE) : WS := fun D env s => a env s (fun v s1 => ∃ env', t.put v env = some env' ∧ D.nx env' s1) (fun x s1 => D.ex x env s1)
theorem js_asg {tg : Expr} {t : Tg} (he : JE X W e a) (hg : JG X tg t) (hs : swapsWithSole [tg] e pos.line X.env = pure false := by rfl) (hw : swappedStores [tg] e X.env = pure none := by rfl)
    (h1 : (assignEach [tg] X.env).map (·.2) = [assign tg X.env] := by rfl) : JS X W (.Assign [tg] e pos) (wAsg t a) := PS.imp (ps_asg he hg hs hw h1) fun D σ H h => by
  obtain ⟨env, s, D0, re, rs, q, cl⟩ := h
  refine ⟨env, s, _, _, re, rs, q, fun v s' q' H' u k rs' rv => ?_, cl.clE re (Keep.refl H)⟩
  obtain ⟨env', hp, q'⟩ := q'
  exact t.run (vs := []) rv (re.keep k) hp fun σ' re' _ => cl.nx _ _ q' σ' H' k re' rs'
/-- a, b = e1, e2, two local names -/
def wPar (i j : Nat) (ws : WA) : WS := fun D env s => ws env s (fun vs s1 => ∃ v w, vs = [v, w] ∧ D.nx ((env.set i (some v)).set j (some w)) s1) (fun x s1 => D.ex x env s1)
theorem js_par {i j : Nat} {x y : Str} {e1 e2 : Expr} {ws : WA} {px py pt : Pos} {kt k2 pt2} (hc : X.calm = true) (hN : X.N.Nodup) (hi : X.N[i]? = some x) (hj : X.N[j]? = some y) (hij : i ≠ j)
    (hx : X.env.scope.names.lookup x = some .local) (hy : X.env.scope.names.lookup y = some .local) (ha : JA X W [e1, e2] ws)
    (hw : swappedStores [.Tuple [.Name x px, .Name y py] kt pt] (.Tuple [e1, e2] k2 pt2) X.env = pure (some [x, y]) := by rfl)
    (hs : swapsWithSole [.Tuple [.Name x px, .Name y py] kt pt] (.Tuple [e1, e2] k2 pt2) pos.line X.env = pure false := by rfl) :
    JS X W (.Assign [.Tuple [.Name x px, .Name y py] kt pt] (.Tuple [e1, e2] k2 pt2) pos) (wPar i j ws) := PS.imp (ps_par hc hN hi hj hij hx hy ha hw hs) fun D σ H h => by
  obtain ⟨env, s, D0, re, rs, q, cl⟩ := h
  refine ⟨env, s, _, _, re, rs, q, fun vs s' q' H' us k rs' rv => ?_, cl.clE re (Keep.refl H)⟩
  obtain ⟨v, w, rfl, q'⟩ := q'
  rw [RVs] at rv
  obtain ⟨u1, r1, rfl, h1, h2⟩ := rv
  rw [RVs] at h2
  obtain ⟨u2, r2, rfl, h2, h3⟩ := h2
  rw [RVs] at h3
  subst h3
  exact ⟨u1, u2, rfl, cl.nx _ _ q' _ H' k (((re.keep k).set i h1).set j h2) rs'⟩
/-- o[i] = v by values -/
def oSet (o i v : Val) (s : Store) (Q : Store → Prop) : Prop :=
  match o with
  | .ref a => match s a with
    | some (.lst xs) => ∃ k j, i = .int k ∧ ixN xs.length k = some j ∧ Q (updS s a (.lst (xs.set j v)))
    | some (.dic t kvs) => isKey t i ∧ kvs.length < 16777216 ∧ Q (updS s a (.dic t (dput kvs i v)))
    | _ => False
  | _ => False
def rSetA : TSet := fun o i v H Q => rSetL o i v H Q ∨ ∃ a H', o = .ref a ∧ DPut H a i v H' ∧ Q H'
theorem set_any (hu : X.A.units + 1 < cLine) : PSet X rSetA := by
  intro pins s σ H o i v ov iv u Q I ro ri rv h
  rcases h with h | ⟨a, H', rfl, g, q⟩
  · exact set_list pins s σ H o i v ov iv u Q I ro ri rv h
  · cases ro
    exact d_setItem hu I g ri rv fun s' I' => ⟨H', I', q⟩
theorem set_of {K : PySem.W.Frag} {H : Hp} {s : Store} {o i v : Val} {vo vi vv : V} {Q0 : Store → Prop} {Q : Hp → Prop} (rs : RSt K H s) (ro : RV K H o vo) (ri : RV K H i vi) (rv : RV K H v vv) (h : oSet o i v s Q0)
    (cl : ∀ s' H', Q0 s' → Keep H H' → RSt K H' s' → Q H') : rSetA vo vi vv H Q := by
  unfold oSet at h
  split at h
  · rename_i a
    rw [rv_ref ro]
    split at h
    · rename_i xs ha
      obtain ⟨k, j, rfl, hj, q⟩ := h
      obtain ⟨vs, e1, r1⟩ := rs a _ ha
      rw [rv_int ri]
      obtain ⟨kp, rs'⟩ := rs.setLst (xs := xs.set j v) e1 (r1.set rv j)
      exact .inl ⟨a, vs, k, j, rfl, rfl, e1, by rw [← r1.length]; exact hj, cl _ _ q kp rs'⟩
    · rename_i t kvs ha
      obtain ⟨hk, hl, q⟩ := h
      rcases rs a _ ha with ⟨h0, ks, h1, h2⟩ | ⟨h0, ks, h1, h2⟩
      · rcases hk with ⟨_, k, rfl⟩ | ⟨z, _⟩
        · have kp : Keep H (upd H a (.dK (putK ks k vv))) := Keep.at h1 ⟨(fun _ z => nomatch z), fun _ _ z => nomatch z⟩
          have hl2 := Paired.length h2
          refine .inr ⟨a, upd H a (.dK (putK ks k vv)), rfl, ?_, cl _ _ q kp (rs.cell kp (.inl ⟨h0, _, upd_same, ?_⟩))⟩
          · rw [rv_key ri]; exact DPut.k h1 (by rw [sizeLine_eq]; omega)
          · exact Paired.imp (put_k rv h2) fun p q z => ⟨z.1, z.2.keep kp⟩
        · omega
      · rcases hk with ⟨z, _⟩ | ⟨_, k, rfl⟩
        · omega
        · rw [RV] at ri
          obtain ⟨b, ws, rfl, hb, r'⟩ := ri
          rw [rvs_keys r'] at hb
          have kp : Keep H (upd H a (.dT (putK ks k vv))) := Keep.at h1 ⟨(fun _ z => nomatch z), fun _ _ z => nomatch z⟩
          have hl2 := Paired.length h2
          refine .inr ⟨a, upd H a (.dT (putK ks k vv)), rfl, ?_, cl _ _ q kp (rs.cell kp (.inr ⟨h0, _, upd_same, ?_⟩))⟩
          · exact DPut.t h1 hb (by rw [sizeLine_eq]; omega)
          · exact Paired.imp (put_t rv h2) fun p q z => ⟨z.1, z.2.keep kp⟩
    · exact h.elim
  · exact h.elim
def wPut (o i a : WE) : WS := fun D env s => a env s (fun v s1 => o env s1 (fun x s2 => i env s2 (fun y s3 => oSet x y v s3 (fun s4 => D.nx env s4)) (fun x s1 => D.ex x env s1)) (fun x s1 => D.ex x env s1)) (fun x s1 => D.ex x env s1)
theorem js_put {k : Nat} {oe ie : Expr} {o i : WE} {pos' : Pos} (hr : Room k X.A) (ho : JE X W oe o) (hi : JE X W ie i) (he : JE X W e a)
    (ha : ∀ v, assign (.Subscript oe ie pos') X.env v = (do
      let ov ← holding [v] (eval oe X.env)
      let iv ← holding [v, ov] (eval ie X.env)
      standAt pos'
      holding [v, ov, iv] (setItem ov iv v)
      release [v, ov, iv] []) := by intro _; rfl)
    (hs : swapsWithSole [.Subscript oe ie pos'] e pos.line X.env = pure false := by rfl) (hw : swappedStores [.Subscript oe ie pos'] e X.env = pure none := by rfl)
    (h1 : (assignEach [.Subscript oe ie pos'] X.env).map (·.2) = [assign (.Subscript oe ie pos') X.env] := by rfl) : JS X W (.Assign [.Subscript oe ie pos'] e pos) (wPut o i a) :=
  PS.imp (ps_asg he (pg_sub ho hi (set_any (by have := hr.units; omega)) ha) hs hw h1) fun D σ H h => by
    obtain ⟨env, s, D0, re, rs, q, cl⟩ := h
    refine ⟨env, s, _, _, re, rs, q, fun v s1 q1 H1 u k1 rs1 rv => ?_, cl.clE re (Keep.refl H)⟩
    refine ⟨env, s1, _, _, re.keep k1, rs1, q1, fun x s2 q2 H2 u2 k2 rs2 rx => ?_, cl.clE (re.keep k1) k1⟩
    refine ⟨env, s2, _, _, re.keep (k1.trans k2), rs2, q2, fun y s3 q3 H3 u3 k3 rs3 ry => ?_, cl.clE (re.keep (k1.trans k2)) (k1.trans k2)⟩
    exact set_of rs3 (rx.keep k3) ry (rv.keep (k2.trans k3)) q3 fun s4 H4 q4 k4 rs4 => cl.nx _ _ q4 σ H4 (((k1.trans k2).trans k3).trans k4) (re.keep (((k1.trans k2).trans k3).trans k4)) rs4
/-- name op= e -/
def wAug (i : Nat) (o : O2) (a : WE) : WS := fun D env s => ∃ x, env[i]? = some (some x) ∧ a env s (fun y s1 => o x y s1 (fun z s2 => D.nx (env.set i (some z)) s2)) (fun x s1 => D.ex x env s1)
theorem js_aug {i : Nat} {x : Str} {op : Operator} {ti : TIp} {o : O2} {pos' : Pos} (hN : X.N.Nodup) (hi : X.N[i]? = some x) (hx : Loc X.env.scope x) (he : JE X W e a) (ho : PIp X op ti) (hs : OpS X.K ti o)
    (hf : X.fn x = true ∨ X.env.scope.names.lookup x = some .local := by first | exact .inl rfl | exact .inr rfl | assumption) : JS X W (.AugAssign (.Name x pos') op e pos) (wAug i o a) := PS.imp (ps_aug hN hi hx he ho hf) fun D σ H h => by
  obtain ⟨env, s, D0, re, rs, ⟨v, hv, q⟩, cl⟩ := h
  obtain ⟨u, hu, rv⟩ := re.get i v hv
  refine ⟨u, hu, env, s, _, _, re, rs, q, fun y s1 q1 H1 u1 k1 rs1 ry => ?_, cl.clE re (Keep.refl H)⟩
  exact hs v y s1 H1 u u1 _ _ rs1 (rv.keep k1) ry q1 fun z s2 q2 H2 u2 k2 rs2 rz => cl.nx _ _ q2 _ H2 (k1.trans k2) ((re.keep (k1.trans k2)).set i rz) rs2
def oAddI : O2 := oI (fun _ _ => True) fun i j => .int (i + j)
theorem ops_ipadd {K : PySem.W.Frag} : OpS K (ipI fun i j => i + j) oAddI := by
  intro x y s H vx vy Q0 Q rs rx ry h cl
  obtain ⟨i, j, rfl, rfl, c, q⟩ := h
  rw [rv_int rx, rv_int ry]
  exact ⟨i, j, rfl, rfl, cl _ _ q H _ (Keep.refl H) rs (rv_mk_int _)⟩
theorem ops_ipsub {K : PySem.W.Frag} : OpS K (ipI fun i j => i - j) oSub := by
  intro x y s H vx vy Q0 Q rs rx ry h cl
  obtain ⟨i, j, rfl, rfl, c, q⟩ := h
  rw [rv_int rx, rv_int ry]
  exact ⟨i, j, rfl, rfl, cl _ _ q H _ (Keep.refl H) rs (rv_mk_int _)⟩
theorem js_augAdd {i : Nat} {x : Str} {pos' : Pos} (hN : X.N.Nodup) (hi : X.N[i]? = some x) (hx : Loc X.env.scope x) (he : JE X W e a)
    (hf : X.fn x = true ∨ X.env.scope.names.lookup x = some .local := by first | exact .inl rfl | exact .inr rfl | assumption) : JS X W (.AugAssign (.Name x pos') .Add e pos) (wAug i oAddI a) := js_aug hN hi hx he ip_add ops_ipadd hf
theorem js_augSub {i : Nat} {x : Str} {pos' : Pos} (hN : X.N.Nodup) (hi : X.N[i]? = some x) (hx : Loc X.env.scope x) (he : JE X W e a)
    (hf : X.fn x = true ∨ X.env.scope.names.lookup x = some .local := by first | exact .inl rfl | exact .inr rfl | assumption) : JS X W (.AugAssign (.Name x pos') .Sub e pos) (wAug i oSub a) := js_aug hN hi hx he ip_sub ops_ipsub hf

/-! ### while -/
def wWhile (c : WB) (b : WS) : WS := fun D env s => ∃ I : Nat → Env → Store → Prop, (∃ m, I m env s) ∧ ∀ m env s, I m env s →
  c env s (fun d s1 => if d = true then b { D with nx := fun env' s' => ∃ m', m' < m ∧ I m' env' s', ct := fun env' s' => ∃ m', m' < m ∧ I m' env' s', bk := D.nx } env s1 else D.nx env s1) (fun x s1 => D.ex x env s1)
theorem js_while {c : Expr} {body : List Stmt} {wc : WB} {wb : WS} (hp : PassesOwn (model X.prog X.w) X.A X.env X.xe) (hc : JT X W c wc) (hb : JB X W body wb) : JS X W (.While c body [] pos) (wWhile wc wb) := PS.imp (ps_while hp hc hb) fun D σ H h => by
  obtain ⟨env, s, D0, re, rs, ⟨I, ⟨m0, i0⟩, turn⟩, cl⟩ := h
  refine ⟨fun m σ' H' => Keep H H' ∧ ∃ env' s', REnv X.K H' env' σ' ∧ RSt X.K H' s' ∧ I m env' s', ⟨m0, Keep.refl H, env, s, re, rs, i0⟩, ?_⟩
  rintro m σ1 H1 ⟨k1, env1, s1, re1, rs1, i1⟩
  refine ⟨env1, s1, _, _, re1, rs1, turn m env1 s1 i1, fun d s2 q2 H2 k2 rs2 => ?_, (cl.keep k1).clE re1 (Keep.refl _)⟩
  have k12 := k1.trans k2
  cases d with
  | false => exact cl.nx _ _ q2 σ1 H2 k12 (re1.keep k2) rs2
  | true =>
    refine ⟨fun σ' H' => ∃ m', m' < m ∧ Keep H H' ∧ ∃ env' s', REnv X.K H' env' σ' ∧ RSt X.K H' s' ∧ I m' env' s', fun σ' H' ⟨m', h1, h2⟩ => ⟨m', h1, h2⟩, ?_⟩
    have fin : ∀ env' s', (∃ m', m' < m ∧ I m' env' s') → ∀ σ' H', Keep H2 H' → REnv X.K H' env' σ' → RSt X.K H' s' → ∃ m', m' < m ∧ Keep H H' ∧ ∃ env' s', REnv X.K H' env' σ' ∧ RSt X.K H' s' ∧ I m' env' s' :=
      fun env' s' ⟨m', h1, h2⟩ σ' H' k re' rs' => ⟨m', h1, k12.trans k, env', s', re', rs', h2⟩
    exact ⟨env1, s2, _, re1.keep k2, rs2, q2, ⟨fin, (cl.keep k12).rt, fun env' s' q => (cl.keep k12).nx env' s' q, fin, (cl.keep k12).ex⟩⟩

/-! ### iterables -/
structure DIt where
  at_ : Nat → Store → Option (Option Val)
structure RIt (K : PySem.W.Frag) (H0 : Hp) (J : It) (D : DIt) : Prop where
  stop : ∀ i H s, Keep H0 H → RSt K H s → D.at_ i s = some none → J.stop i H
  go : ∀ i H s x, Keep H0 H → RSt K H s → D.at_ i s = some (some x) → J.go i H
  yld : ∀ i H s x v H', Keep H0 H → RSt K H s → D.at_ i s = some (some x) → J.yld i H v H' → Keep H H' ∧ RSt K H' s ∧ RV K H' x v
abbrev WI := Env → Store → (DIt → Store → Prop) → QE → Prop
def tI (K : PySem.W.Frag) (W : WX) (w : WI) : TI := fun σ H R => ∃ env s Q0 E0, REnv K H env σ ∧ RSt K H s ∧ w env s Q0 E0 ∧
  (∀ D s', Q0 D s' → ∀ J H', Keep H H' → RSt K H' s' → RIt K H' J D → R J H') ∧ ClE K W σ H E0
abbrev JI (X : Cx) (W : WX) (tg iter : Expr) (w : WI) : Prop := PI X tg iter (tI X.K W w)
theorem PI.imp {X : Cx} {tg e : Expr} {t t' : TI} (h : PI X tg e t) (i : ∀ σ H R, t' σ H R → t σ H R) : PI X tg e t' := ⟨fun pins s σ H R I q => h.run pins s σ H R I (i σ H R q)⟩
def wFor (wi : WI) (t : Tg) (b : WS) : WS := fun D env s => wi env s (fun it s1 => ∃ (n : Nat) (I : Nat → Env → Store → Prop), I 0 env s1 ∧ ∀ i env2 s2, I i env2 s2 →
  (it.at_ i s2 = some none ∧ D.nx env2 s2) ∨ (i < n ∧ ∃ x env3, it.at_ i s2 = some (some x) ∧ t.put x env2 = some env3 ∧ b { D with nx := I (i + 1), ct := I (i + 1), bk := D.nx } env3 s2)) (fun x s1 => D.ex x env s1)
theorem js_for {tg iter : Expr} {body : List Stmt} {wi : WI} {t : Tg} {wb : WS} (hp : PassesOwn (model X.prog X.w) X.A X.env X.xe) (hc : X.calm = true) (hi : JI X W tg iter wi) (hg : JG X tg t) (hb : JB X W body wb)
    (hs : ∀ x, foldedSetIterable iter X.env x = pure x := by intro _; rfl) : JS X W (.For tg iter body [] pos) (wFor wi t wb) := PS.imp (ps_for hp hc hi hg hb hs) fun D σ H h => by
  obtain ⟨env, s, D0, re, rs, q, cl⟩ := h
  refine ⟨env, s, _, _, re, rs, q, fun it s1 q1 J H1 k1 rs1 rit => ?_, cl.clE re (Keep.refl H)⟩
  obtain ⟨n, I, i0, turn⟩ := q1
  refine ⟨fun i m σ' H' => m = n - i ∧ Keep H1 H' ∧ ∃ env' s', REnv X.K H' env' σ' ∧ RSt X.K H' s' ∧ I i env' s', ⟨n - 0, rfl, Keep.refl _, env, s1, re.keep k1, rs1, i0⟩, ?_⟩
  rintro i m σ2 H2 ⟨rfl, k2, env2, s2, re2, rs2, i2⟩
  have k12 := k1.trans k2
  rcases turn i env2 s2 i2 with ⟨e, q2⟩ | ⟨hlt, x, env3, e, hp, q2⟩
  · exact .inl ⟨rit.stop i H2 s2 k2 rs2 e, cl.nx _ _ q2 σ2 H2 k12 re2 rs2⟩
  · refine .inr ⟨rit.go i H2 s2 x k2 rs2 e, fun σ' H' => Keep H1 H' ∧ ∃ env' s', REnv X.K H' env' σ' ∧ RSt X.K H' s' ∧ I (i + 1) env' s', fun σ' H' z => ⟨n - (i + 1), by omega, rfl, z⟩, fun v H3 y => ?_⟩
    obtain ⟨k3, rs3, rv⟩ := rit.yld i H2 s2 x v H3 k2 rs2 e y
    have k13 := k12.trans k3
    refine t.run (vs := []) rv (re2.keep k3) hp fun σ3 re3 _ => ?_
    have fin : ∀ env' s', I (i + 1) env' s' → ∀ σ' H', Keep H3 H' → REnv X.K H' env' σ' → RSt X.K H' s' → Keep H1 H' ∧ ∃ env' s', REnv X.K H' env' σ' ∧ RSt X.K H' s' ∧ I (i + 1) env' s' :=
      fun env' s' h2 σ' H' k re' rs' => ⟨(k2.trans k3).trans k, env', s', re', rs', h2⟩
    exact ⟨env3, s2, _, re3, rs3, q2, ⟨fin, (cl.keep k13).rt, fun env' s' q => (cl.keep k13).nx env' s' q, fin, (cl.keep k13).ex⟩⟩

/-! ### comprehensions -/
/-- a clause's tests -/
abbrev JTs (X : Cx) (W : WX) (es : List Expr) (w : WB) : Prop := PTs X es (tWB X.K W w)
def wYes : WB := fun _ s Q _ => Q true s
theorem jts_nil : JTs X W [] wYes := ⟨fun pins s σ H Q I h => pts_nil.run pins s σ H Q I (by
  obtain ⟨env, s, Q0, E0, re, rs, q, cl, _⟩ := h
  exact cl _ _ q H (Keep.refl H) rs)⟩
theorem jts_one {c : Expr} {w : WB} (h : JT X W c w) : JTs X W [c] w := pts_one h
/-- what the comprehension's block wishes of exceptions: none -/
abbrev W0 : WX := fun _ _ _ _ => False
def wLc (wi : WI) (t : Tg) (tt : WB) (te : WE) (vs : List Nat) : WE := fun env s Q E => wi env s (fun it s1 => ∀ p, s1 p = none → ∃ (n : Nat) (I : Nat → Store → Prop), I 0 (updS s1 p (.lst [])) ∧ ∀ i s2, I i s2 →
  (it.at_ i s2 = some none ∧ Q (.ref p) s2) ∨ (i < n ∧ ∃ x env3, it.at_ i s2 = some (some x) ∧ t.put x (wipeE env vs) = some env3 ∧ tt env3 s2 (fun b s3 =>
    if b = true then te env3 s3 (fun v s4 => ∃ acc, s4 p = some (.lst acc) ∧ acc.length < 16777216 ∧ I (i + 1) (updS s4 p (.lst (acc ++ [v])))) (fun _ _ => False) else I (i + 1) s3) (fun _ _ => False))) E
theorem lc_of {wi : WI} {t : Tg} {tt : WB} {te : WE} {vs : List Nat} (hv : t.within vs = true) {σ : List (Option V)} {H : Hp} {Q : VK} (h : tW X.K W (wLc wi t tt te vs) σ H Q) :
    tLc (tI X.K W wi) (t.tg X.K) (tWB X.K W0 tt) (tW X.K W0 te) vs σ H Q := by
  obtain ⟨env, s, Q0, E0, re, rs, q, cl, ce⟩ := h
  refine ⟨env, s, _, _, re, rs, q, fun it s1 q1 J H1 k1 rs1 rit => ?_, ce⟩
  intro p hp
  obtain ⟨n, I, i0, turn⟩ := q1 p (rs1.free hp)
  have kp : Keep H1 (upd H1 p (.lst [])) := Keep.fresh hp
  refine ⟨fun i m H' => m = n - i ∧ Keep H1 H' ∧ ∃ s', RSt X.K H' s' ∧ I i s', ⟨n - 0, rfl, kp, _, rs1.newLst hp RVs.nil, i0⟩, ?_⟩
  rintro i m H2 ⟨rfl, k2, s2, rs2, i2⟩
  have k12 := k1.trans k2
  rcases turn i s2 i2 with ⟨e, q2⟩ | ⟨hlt, x, env3, e, hpt, q2⟩
  · exact .inl ⟨rit.stop i H2 s2 k2 rs2 e, cl _ _ q2 H2 _ k12 rs2 (rv_mk_ref _)⟩
  · refine .inr ⟨rit.go i H2 s2 x k2 rs2 e, fun H' => Keep H1 H' ∧ ∃ s', RSt X.K H' s' ∧ I (i + 1) s', fun H' z => ⟨n - (i + 1), by omega, rfl, z⟩, fun v H3 y => ?_⟩
    obtain ⟨k3, rs3, rv⟩ := rit.yld i H2 s2 x v H3 k2 rs2 e y
    have k13 := k12.trans k3
    refine t.run (vs := vs) rv ((re.keep k13).wipe vs) hpt fun σ3 re3 hw => ⟨?_, ?_⟩
    · rw [hw hv]
      apply List.ext_getElem?
      intro j
      rw [wipe_get, wipe_get]
      by_cases hm : j ∈ vs
      · rw [if_pos hm, if_pos hm, wipe_length]
      · rw [if_neg hm, if_neg hm]
    · refine ⟨env3, s2, _, _, re3, rs3, q2, fun b s4 q4 H4 k4 rs4 => ?_, fun _ _ z => z.elim⟩
      cases b with
      | false => exact ⟨(k2.trans k3).trans k4, s4, rs4, q4⟩
      | true =>
        refine ⟨env3, s4, _, _, re3.keep k4, rs4, q4, fun y s5 q5 H5 u5 k5 rs5 ry => ?_, fun _ _ z => z.elim⟩
        obtain ⟨acc, ha, hl, q5⟩ := q5
        obtain ⟨ws, e1, r1⟩ := rs5 p _ ha
        obtain ⟨k6, rs6⟩ := rs5.setLst (xs := acc ++ [y]) e1 (r1.append (RVs.cons ry RVs.nil))
        exact ⟨ws, e1, by rw [← r1.length, sizeLine_eq]; exact hl, (((k2.trans k3).trans k4).trans k5).trans k6, _, rs6, q5⟩
theorem je_lc {elt tg iter : Expr} {ifs : List Expr} {scope : Scope} {own : List (Str × Nat)} {wi : WI} {t : Tg} {tt : WB} {te : WE} (hc : X.calm = true) (hN : X.N.Nodup) (hi : JI X W tg iter wi) (ok : BlkOk X.N X.env.scope scope own)
    (hv : t.within (own.map (·.2)) = true)
    (hg : ∀ (s : Shared) (H : Hp) (C : Addr) (cl : List (Str × Addr)) (fp : List Addr), JG (X.blk s H scope (compEnvC scope cl C X.env) fp) tg t) (ht : ∀ (s : Shared) (H : Hp) (C : Addr) (cl : List (Str × Addr)) (fp : List Addr), JTs (X.blk s H scope (compEnvC scope cl C X.env) fp) W0 ifs tt)
    (he : ∀ (s : Shared) (H : Hp) (C : Addr) (cl : List (Str × Addr)) (fp : List Addr), JE (X.blk s H scope (compEnvC scope cl C X.env) fp) W0 elt te) (hs : ∀ x, foldedSetIterable iter X.env x = pure x := by intro _; rfl) :
    JE X W (.ListComp elt [⟨tg, iter, ifs, 0⟩] scope pos) (wLc wi t tt te (own.map (·.2))) :=
  PE.imp (pe_lc hc hN hi ok hg ht he hs) fun σ H Q h => lc_of hv h
/-- name = [..] -/
theorem js_setLc {i : Nat} {y : Str} {py : Pos} {elt tg iter : Expr} {ifs : List Expr} {scope : Scope} {own : List (Str × Nat)} {spos : Pos} {wi : WI} {t : Tg} {tt : WB} {te : WE} (hc : X.calm = true) (hN : X.N.Nodup) (hy : X.N[i]? = some y) (hyl : X.env.scope.names.lookup y = some .local)
    (hsw : swapsWith (.ListComp elt [⟨tg, iter, ifs, 0⟩] scope pos) (some (.Name y py)) spos.line X.env = pure true) (hi : JI X W tg iter wi) (ok : BlkOk X.N X.env.scope scope own) (hv : t.within (own.map (·.2)) = true)
    (hg : ∀ (s : Shared) (H : Hp) (C : Addr) (cl : List (Str × Addr)) (fp : List Addr), JG (X.blk s H scope (compEnvC scope cl C X.env) fp) tg t) (ht : ∀ (s : Shared) (H : Hp) (C : Addr) (cl : List (Str × Addr)) (fp : List Addr), JTs (X.blk s H scope (compEnvC scope cl C X.env) fp) W0 ifs tt)
    (he : ∀ (s : Shared) (H : Hp) (C : Addr) (cl : List (Str × Addr)) (fp : List Addr), JE (X.blk s H scope (compEnvC scope cl C X.env) fp) W0 elt te) (hs : ∀ x, foldedSetIterable iter X.env x = pure x := by intro _; rfl) :
    JS X W (.Assign [.Name y py] (.ListComp elt [⟨tg, iter, ifs, 0⟩] scope pos) spos) (wSet i (wLc wi t tt te (own.map (·.2)))) :=
  PS.imp (ps_setLc hc hN hy hyl hsw hi ok hg ht he hs) fun D σ H h => by
    obtain ⟨env, s, D0, re, rs, q, cl⟩ := h
    refine lc_of (W := W) hv ⟨env, s, _, _, re, rs, q, fun v s' q' H' u k rs' rv => cl.nx _ _ q' _ H' k ((re.keep k).set i rv) rs', cl.clE re (Keep.refl H)⟩
end
end Y
set_option Elab.async false
set_option linter.all false
set_option maxRecDepth 100000
set_option maxHeartbeats 4000000
set_option autoImplicit false
/-! Y: what a for walks. -/
namespace Y
open PySem PySem.Spec PyProof.Rows L2

/-! ### a list or a tuple -/
def iSeq (K : PySem.W.Frag) (tl : TE) : TI := fun σ H R => tl σ H fun x H1 => ∃ a, x = .ref a ∧ (((∃ xs, SqL K H1 a xs) ∧ R (Itl K a) H1) ∨ ((∃ xs, SqT K H1 a xs) ∧ R (Itt K a) H1))
theorem pi_seq {X : Cx} {tg l : Expr} {tl : TE} (hl : PE X l tl) : PI X tg l (iSeq X.K tl) := by
  refine ⟨fun pins s σ H R I h => ?_⟩
  refine thn (hl.run pins s σ H _ I h) fun v s1 ⟨x, H1, I1, r1, q1⟩ => ?_
  obtain ⟨a, e, ⟨⟨xs, hq⟩, q⟩ | ⟨⟨xs, hq⟩, q⟩⟩ := q1
  · subst e
    cases r1
    obtain ⟨its, rv, p, hz⟩ := I1.list hq
    refine wpAny_pyIter_list p.isList ?_
    refine ⟨s1.heap.objs.size, [s1.heap.objs.size], _, _, H1, rfl, I1.kept (t' := s1.toks) fun b o e => Heap.get?_push_of_some _ e, turn_list a _, ⟨_, Heap.get?_push_size _ rfl, rfl, rfl⟩, fun b hb => ?_, q⟩
    have e : b = s1.heap.objs.size := by simpa using hb
    subst e
    exact I1.fpOk (Nat.le_refl _) (I1.hok.fresh (Nat.le_refl _))
  · subst e
    cases r1
    obtain ⟨its, rv, p, hz⟩ := I1.tuple hq
    refine wpAny_pyIter_tuple (show s1.heap.IsTuple a its.toArray from p) ?_
    refine ⟨s1.heap.objs.size, [s1.heap.objs.size], _, _, H1, rfl, I1.kept (t' := s1.toks) fun b o e => Heap.get?_push_of_some _ e, turn_tuple a _, ⟨_, Heap.get?_push_size _ rfl, rfl, rfl⟩, fun b hb => ?_, q⟩
    have e : b = s1.heap.objs.size := by simpa using hb
    subst e
    exact I1.fpOk (Nat.le_refl _) (I1.hok.fresh (Nat.le_refl _))
/-- a list as it stands at each turn -/
def dL (a : Addr) : DIt := ⟨fun i s => match s a with | some (.lst xs) => some xs[i]? | _ => none⟩
def dT (xs : List Val) : DIt := ⟨fun i _ => some xs[i]?⟩
def wISeq (a : WE) : WI := fun env s Q E => a env s (fun v s1 => match v with
  | .tup xs => Q (dT xs) s1
  | .ref c => (∃ xs, s1 c = some (.lst xs)) ∧ Q (dL c) s1
  | _ => False) E
theorem dL_some {a : Addr} {i : Nat} {s : Store} {o : Option Val} (h : (dL a).at_ i s = some o) : ∃ xs, s a = some (.lst xs) ∧ o = xs[i]? := by
  simp only [dL] at h
  split at h
  · rename_i xs e
    cases h
    exact ⟨xs, e, rfl⟩
  · cases h
theorem RVs.len_none {K : PySem.W.Frag} {H : Hp} {xs : List Val} {vs : List V} {i : Nat} (r : RVs K H xs vs) (h : xs[i]? = none) : vs.length ≤ i := by
  rw [← r.length]
  exact List.getElem?_eq_none_iff.mp h
theorem rit_L {K : PySem.W.Frag} {H0 : Hp} {a : Addr} : RIt K H0 (Itl K a) (dL a) where
  stop := fun i H s k rs h => by
    obtain ⟨xs, e, h2⟩ := dL_some h
    obtain ⟨vs, e1, r⟩ := rs a _ e
    exact ⟨vs, SqL.of e1, r.len_none h2.symm⟩
  go := fun i H s x k rs h => by
    obtain ⟨xs, e, h2⟩ := dL_some h
    obtain ⟨vs, e1, r⟩ := rs a _ e
    obtain ⟨v, hv, _⟩ := r.get h2.symm
    exact ⟨vs, v, SqL.of e1, hv⟩
  yld := fun i H s x v H' k rs h y => by
    obtain ⟨xs, e, h2⟩ := dL_some h
    obtain ⟨vs, e1, r⟩ := rs a _ e
    obtain ⟨rfl, y⟩ := y
    obtain ⟨w, hw, rw⟩ := r.get h2.symm
    have := y vs (SqL.of e1)
    rw [hw] at this
    cases this
    exact ⟨Keep.refl _, rs, rw⟩
theorem rit_T {K : PySem.W.Frag} {H0 : Hp} {a : Addr} {xs : List Val} {vs : List V} (ha : H0 a = some (.tup vs)) (r : RVs K H0 xs vs) : RIt K H0 (Itt K a) (dT xs) where
  stop := fun i H s k rs h => by
    have h2 : xs[i]? = none := by simpa [dT] using h
    exact ⟨vs, SqT.tup (k.tup _ _ ha), r.len_none h2⟩
  go := fun i H s x k rs h => by
    have h2 : xs[i]? = some x := by simpa [dT] using h
    obtain ⟨v, hv, _⟩ := r.get h2
    exact ⟨vs, v, SqT.tup (k.tup _ _ ha), hv⟩
  yld := fun i H s x v H' k rs h y => by
    have h2 : xs[i]? = some x := by simpa [dT] using h
    obtain ⟨rfl, y⟩ := y
    obtain ⟨w, hw, rw⟩ := r.get h2
    have := y vs (SqT.tup (k.tup _ _ ha))
    rw [hw] at this
    cases this
    exact ⟨Keep.refl _, rs, rw.keep k⟩
section
variable {X : Cx} {W : WX} {tg e : Expr} {pos : Pos} {a : WE}
theorem ji_seq (he : JE X W e a) : JI X W tg e (wISeq a) := PI.imp (pi_seq he) fun σ H R h => by
  obtain ⟨env, s, Q0, E0, re, rs, q, cl, ce⟩ := h
  refine ⟨env, s, _, _, re, rs, q, fun v s1 q1 H1 u k1 rs1 rv => ?_, ce⟩
  split at q1
  · rename_i xs
    rw [RV] at rv
    obtain ⟨b, vs, rfl, hb, r⟩ := rv
    exact ⟨b, rfl, .inr ⟨⟨vs, SqT.tup hb⟩, cl _ _ q1 _ H1 k1 rs1 (rit_T hb r)⟩⟩
  · rename_i c
    obtain ⟨⟨xs, hc⟩, q1⟩ := q1
    obtain ⟨vs, e1, r⟩ := rs1 c _ hc
    rw [rv_ref rv]
    refine ⟨c, rfl, .inl ⟨⟨vs, SqL.of e1⟩, cl _ _ q1 _ H1 k1 rs1 rit_L⟩⟩
  · exact q1.elim

/-! ### ranges -/
def dR (lo : Int) (n : Nat) : DIt := ⟨fun i _ => some (if i < n then some (.int (lo + i)) else none)⟩
theorem rit_R {K : PySem.W.Frag} {H0 : Hp} {lo : Int} {n : Nat} : RIt K H0 (Itr lo n) (dR lo n) where
  stop := fun i H s k rs h => by
    simp only [dR] at h
    split at h
    · cases h
    · show n ≤ i; omega
  go := fun i H s x k rs h => by
    simp only [dR] at h
    split at h
    · assumption
    · cases h
  yld := fun i H s x v H' k rs h y => by
    simp only [dR] at h
    split at h
    · obtain ⟨rfl, rfl⟩ := y
      cases h
      exact ⟨Keep.refl _, rs, rv_mk_int _⟩
    · cases h
/-- range(n) -/
def wIR1 (a : WA) : WI := fun env s Q E => a env s (fun vs s1 => ∃ j : Int, vs = [.int j] ∧ -(2 ^ 62) ≤ j ∧ j < 2 ^ 62 ∧ Q (dR 0 j.toNat) s1) E
def wIR2 (a : WA) : WI := fun env s Q E => a env s (fun vs s1 => ∃ i j : Int, vs = [.int i, .int j] ∧ (-(2 ^ 62) ≤ i ∧ i < 2 ^ 62 ∧ -(2 ^ 62) ≤ j ∧ j < 2 ^ 62) ∧ Q (dR i (j - i).toNat) s1) E
theorem rvs1 {K : PySem.W.Frag} {H : Hp} {x : Val} {vs : List V} (r : RVs K H [x] vs) : ∃ v, vs = [v] ∧ RV K H x v := by
  rw [RVs] at r
  obtain ⟨v, t, rfl, h1, h2⟩ := r
  rw [RVs] at h2
  subst h2
  exact ⟨v, rfl, h1⟩
theorem rvs2 {K : PySem.W.Frag} {H : Hp} {x y : Val} {vs : List V} (r : RVs K H [x, y] vs) : ∃ v w, vs = [v, w] ∧ RV K H x v ∧ RV K H y w := by
  rw [RVs] at r
  obtain ⟨v, t, rfl, h1, h2⟩ := r
  obtain ⟨w, rfl, h3⟩ := rvs1 h2
  exact ⟨v, w, rfl, h1, h3⟩
theorem ji_range1 {e : Expr} {a : WA} {p : Pos} (hg : Gl X "range") (hm : X.mg "range" = none) (ha : JA X W [e] a) (hs : starEach [e] X.env = [(false, eval e X.env)] := by rfl) : JI X W tg (.Call (.Name "range" p) [e] [] pos) (wIR1 a) :=
  PI.imp (pi_range1 hg hm ha hs) fun σ H R h => by
    obtain ⟨env, s, Q0, E0, re, rs, q, cl, ce⟩ := h
    refine ⟨env, s, _, _, re, rs, q, fun vs s1 q1 H1 us k1 rs1 rv => ?_, ce⟩
    obtain ⟨j, rfl, h1, h2, q1⟩ := q1
    obtain ⟨v, rfl, r⟩ := rvs1 rv
    rw [rv_int r]
    exact ⟨j, rfl, h1, h2, cl _ _ q1 _ H1 k1 rs1 rit_R⟩
theorem ji_range2 {e1 e2 : Expr} {a : WA} {p : Pos} (hg : Gl X "range") (hm : X.mg "range" = none) (ha : JA X W [e1, e2] a) (hs : starEach [e1, e2] X.env = [(false, eval e1 X.env), (false, eval e2 X.env)] := by rfl)
    (hs2 : starEach [e2] X.env = [(false, eval e2 X.env)] := by rfl) : JI X W tg (.Call (.Name "range" p) [e1, e2] [] pos) (wIR2 a) :=
  PI.imp (pi_range2 hg hm ha hs hs2) fun σ H R h => by
    obtain ⟨env, s, Q0, E0, re, rs, q, cl, ce⟩ := h
    refine ⟨env, s, _, _, re, rs, q, fun vs s1 q1 H1 us k1 rs1 rv => ?_, ce⟩
    obtain ⟨i, j, rfl, h1, q1⟩ := q1
    obtain ⟨v, w, rfl, r, r2⟩ := rvs2 rv
    rw [rv_int r, rv_int r2]
    exact ⟨i, j, rfl, h1, cl _ _ q1 _ H1 k1 rs1 rit_R⟩
end

/-! ### enumerate of a list or a tuple -/
set_option maxHeartbeats 1000000 in
theorem meets_enum_new1 {v : Value} {o : Obj} {H : Heap → Prop} (B : Begins v o H) :
    Meets (Builtin.«enumerate.__new__» ⟨[.type "enumerate", v], []⟩) (fun _ R s => H s.heap ∧
      R (.ok (.ret (.ref (s.heap.push o).objs.size))) { s with heap := (s.heap.push o).push { cls := .type "enumerate", data := .fields #[.none, .bool false, .ref s.heap.objs.size, rawInt 0, .none, .none] } }) :=
  .of_wp fun prog w A R s h => by
    obtain ⟨hp, g, d, tk, os⟩ := s; obtain ⟨h1, h⟩ := h
    have hsub := sub_enumerate
    have q1 : ∀ {A' : Around} {E : Value → Shared → Prop} {Q : Value → Shared → Prop}, Q (.ref hp.objs.size) ⟨hp.push o, g, d, tk, os⟩ → wpAny (model prog w) A' (pyIter v) Q E ⟨hp, g, d, tk, os⟩ :=
      fun q => B.iter prog w _ _ ⟨hp, g, d, tk, os⟩ _ h1 q
    wp_walk using q1
    refine wpAny_stack_any fun st => wpAny_pure ?_
    split
    · rename_i c _ _ _ _ _
      cases (c == Value.type "enumerate")
      · wp_walk using q1
        exact ⟨_, rfl, h⟩
      · wp_walk using q1
        exact ⟨_, rfl, h⟩
    · wp_walk using q1
      exact ⟨_, rfl, h⟩
theorem enum_begins1 {prog : Program} {w : World} {A : Around} {E : Value → Shared → Prop} {s : Shared} {v : Value} {o : Obj} {H : Heap → Prop} {Q : Value → Shared → Prop} (B : Begins v o H) (h1 : H s.heap)
    (h : ∀ h', IsEnum h' (s.heap.objs.size + 1) s.heap.objs.size 0 .none → h'.get? s.heap.objs.size = some o → h'.objs.size = s.heap.objs.size + 2 →
      (∀ b o, s.heap.get? b = some o → h'.get? b = some o) → Q (.ref (s.heap.objs.size + 1)) { s with heap := h' }) :
    wpAny (model prog w) A (call (.type "enumerate") [v]) Q E s := by
  refine callType_new F.called_enumerate (by decide) (F.typeCall_enumerate_1 _) (F.newCall_enumerate_1 _) (fun obj => F.args_object_init_2 obj _) F.entry_enumerate_new
    (meets_enum_new1 B) ⟨h1, ?_⟩
  have hz : (s.heap.push o).objs.size = s.heap.objs.size + 1 := Heap.size_push ..
  show _ ∧ _
  rw [hz]
  have he : IsEnum ((s.heap.push o).push { cls := .type "enumerate", data := .fields #[.none, .bool false, .ref s.heap.objs.size, rawInt 0, .none, .none] }) (s.heap.objs.size + 1) s.heap.objs.size 0 .none := by
    have := Heap.get?_push_size (s.heap.push o) (o := { cls := .type "enumerate", data := .fields #[.none, .bool false, .ref s.heap.objs.size, rawInt 0, .none, .none] }) rfl
    rw [hz] at this; exact this
  refine ⟨⟨_, he, rfl⟩, h _ he (Heap.get?_push_of_some _ (Heap.get?_push_size _ B.free)) (by rw [Heap.size_push, hz]) fun b o x => Heap.get?_push_of_some _ (Heap.get?_push_of_some _ x)⟩
/-- the tuple at a, each item in a new pair -/
def IteT (K : PySem.W.Frag) (a : Addr) : It :=
  ⟨fun i H => ∃ (xs : List V) (x : V), SqT K H a xs ∧ xs[i]? = some x, fun i H v H' => ∃ T x, v = .ref T ∧ H T = none ∧ H' = upd H T (.tup [.int (i : Nat), x]) ∧ ∀ xs, SqT K H a xs → xs[i]? = some x, fun i H => ∃ xs : List V, SqT K H a xs ∧ xs.length ≤ i⟩
theorem tupIter_ne {h : Heap} {it a : Addr} {i : Nat} {items : Array Value} (h1 : h.IsTupleIter it a i) (h2 : h.IsTuple a items) : a ≠ it := by
  rintro rfl
  obtain ⟨o, e, c, _⟩ := h1
  obtain ⟨o2, e2, c2, _⟩ := h2
  rw [e] at e2
  cases e2
  rw [c] at c2
  exact absurd c2 (by decide)
theorem turn_enumT {P : Program} {w : World} {K : PySem.W.Frag} {elts : List Expr} {kk : Nat} {tpos : Pos} (a e it : Addr) :
    Turn P w K (.Tuple elts kk tpos) (IteT K a) [e, it] e (fun i h => (∃ old, IsEnum h e it ((i : Nat) : Int) old) ∧ h.IsTupleIter it a i ∧ e ≠ it) where
  mem := by simp
  obj := fun i h st b hb => by
    obtain ⟨⟨old, he⟩, ⟨o, ho, hc, hd⟩, _⟩ := st
    have e' : b = e ∨ b = it := by simpa using hb
    rcases e' with z | z
    · rw [z]; exact ⟨_, he, fun v q => nomatch q⟩
    · rw [z]; exact ⟨o, ho, fun v q => by rw [hd] at q; cases q⟩
  keep := fun i h h' st k => let ⟨⟨old, he⟩, hi, hne⟩ := st; ⟨⟨old, k e (by simp) _ he⟩, hi.at fun o q => k it (by simp) o q, hne⟩
  item := by
    intro X hP hw hK hc i pins s σ H E I hf st hg
    subst hP hw hK
    obtain ⟨⟨old, he⟩, hit, hne⟩ := st
    obtain ⟨xs, x, hq, hx⟩ := hg
    obtain ⟨its, rv, p, hz⟩ := I.tuple hq
    obtain ⟨u, hu, ru⟩ := rv.get hx
    have hel : e < s.heap.objs.size := Heap.lt_size he
    have hil : it < s.heap.objs.size := by obtain ⟨_, q, _⟩ := hit; exact Heap.lt_size q
    have hnt : a ≠ it := tupIter_ne hit p
    have hea : e ≠ a := by
      rintro rfl
      obtain ⟨o2, e2, c2, _⟩ := id p
      have he' : s.heap.get? e = some _ := he
      rw [he'] at e2
      cases e2
      have z : Value.type "enumerate" = Value.type "tuple" := c2
      exact absurd z (by decide)
    have hlt : i < its.toArray.size := by
      have := (List.getElem?_eq_some_iff.mp hu).1
      simpa using this
    refine wpAny_pyNext_enum_itemD (Draws.tuple (show X.A.in1.handled = none from I.ok.hd hc) it a hnt its.toArray) he ⟨hit, p⟩ hlt hne (by simp [hne, hea]) fun y h' tk hy ho st' hT hsz hk => ?_
    have hyu : y = u := by
      have h1 : its.toArray[i]? = some y := hy
      rw [show its.toArray[i]? = some u by simpa using hu] at h1
      exact (Option.some.inj h1).symm
    subst hyu
    obtain ⟨hit', _⟩ := st'
    refine ⟨_, rfl, wpAny_letOwnedTupleGo_enum (s := { s with heap := h', toks := tk + 1 }) ho fun h'' he' sb => ?_⟩
    have hT2 : h''.get? s.heap.objs.size = some { cls := .type "tuple", data := .seq #[.int i tk, y] } := (sb.2 _ (Nat.ne_of_gt hel)).trans hT
    have new : ObjOk X.prog X.w (upd H s.heap.objs.size (.tup [.int (i : Nat), x])) h'' s.heap.objs.size (.tup [.int (i : Nat), x]) :=
      ⟨by show 2 ≤ sizeLine; decide, [.int i tk, y], .cons ⟨_, rfl⟩ (.cons ru .nil), ⟨_, hT2, rfl, _, rfl⟩⟩
    have I1 : Inv X pins σ (upd H s.heap.objs.size (.tup [.int (i : Nat), x])) { s with heap := h'', toks := tk + 1 } :=
      I.turnedNew (ch := [e, it]) (fun b ob hb q => (sb.2 b (fun z => hb (by simp [z]))).trans (hk b ob (fun z => hb (by simp [z])) (fun z => hb (by simp [z])) q)) hf (Nat.le_refl _) new
    refine ⟨.ref s.heap.objs.size, _, I1, rfl, ⟨_, x, rfl, I.hok.fresh (Nat.le_refl _), rfl, fun ys hy => by rw [I.tuple_inj hy hq]; exact hx⟩, ⟨⟨y, ?_⟩, hit'.at fun o q => (sb.2 it (Ne.symm hne)).trans q, hne⟩, fun b hb => ?_⟩
    · have e1 : ((i + 1 : Nat) : Int) = (i : Int) + 1 := by omega
      rw [e1]; exact he'
    · have hb' : b < s.heap.objs.size := by
        have e' : b = e ∨ b = it := by simpa using hb
        rcases e' with z | z
        · rw [z]; exact hel
        · rw [z]; exact hil
      rw [upd_ne (Nat.ne_of_lt hb')]
      exact (hf b hb).1
  done := by
    intro X hP hw hK hc i pins s σ H E I hf st hg
    subst hP hw hK
    obtain ⟨⟨old, he⟩, hit, hne⟩ := st
    obtain ⟨xs, hq, hx⟩ := hg
    obtain ⟨its, rv, p, hz⟩ := I.tuple hq
    obtain ⟨f0, f1, f2, f3, f4, f5⟩ := hf it (by simp)
    have hl := rv.length
    have hT : s.TypeIs (.ref e) "enumerate" := ⟨_, he, rfl⟩
    unfold pyNext
    refine wpAny_bind (wpAny_attempt (wpAny_callSpecial?_slot (name := Str.ofString "__next__") hT F.slot_enumerate_next
      (wpAny_call_entry F.slot_enumerate_next hT F.entry_enumerate_next ?_ (F.args_enumerate_next_1 _))))
    show wpAny _ _ (field (.ref e) 2 >>= _) _ _ _
    refine wpAny_bind (wpAny_field he rfl (x := .ref it) rfl ?_)
    refine wpAny_bind (wpAny_nextOf_tuple_end (show X.A.in1.handled = none from I.ok.hd hc) hit p (by simp; omega) fun h' x he' hx' => ?_)
    obtain ⟨o, ho, hc⟩ := hx'
    refine wpAny_bind (wpAny_isInstance (T := "StopIteration") (b := true) ⟨o, ho, hc⟩ isSubtype_stop ?_)
    exact wpAny_pure ⟨rfl, I.turned (t' := s.toks) (fun b o hb q => he' b o hb q) f0 f1 f3 f4 f5⟩
  self := fun A i s Q E st h => let ⟨⟨_, he⟩, _⟩ := st; wpAny_pyIter_enum he h
def iEnumA (K : PySem.W.Frag) (ta : TA) : TI := fun σ H R => ta σ H fun vs H1 => ∃ a xs, vs = [.ref a] ∧ ((SqL K H1 a xs ∧ R (Ite K a) H1) ∨ (SqT K H1 a xs ∧ R (IteT K a) H1))
theorem pi_enumA {X : Cx} {e : Expr} {ta : TA} {p pos tpos : Pos} {elts : List Expr} {kk : Nat} (hg : Gl X "enumerate") (hm : X.mg "enumerate" = none) (ha : PA X [e] ta) (hs : starEach [e] X.env = [(false, eval e X.env)] := by rfl) :
    PI X (.Tuple elts kk tpos) (.Call (.Name "enumerate" p) [e] [] pos) (iEnumA X.K ta) := by
  refine ⟨fun pins s σ H R I h => ?_⟩
  refine Call_ (ld_blt I hg hm boot_enumerate (PyProof.Rows.callWith_type1 (thn (ha.run pos pins s σ H _ I h) fun us s1 ⟨vs, H1, I1, r1, q1⟩ => ?_) hs rfl))
  obtain ⟨a, xs, ex, q1⟩ := q1
  subst ex
  cases r1 with
  | cons r rr =>
    cases rr
    cases r
    have fresh2 : ∀ b ∈ [s1.heap.objs.size + 1, s1.heap.objs.size], FpOk X pins H1 b := fun b hb => by
      have e' : b = s1.heap.objs.size + 1 ∨ b = s1.heap.objs.size := by simpa using hb
      have hle : s1.heap.objs.size ≤ b := by
        rcases e' with z | z
        · rw [z]; exact Nat.le_add_right _ _
        · rw [z]; exact Nat.le_refl _
      exact I1.fpOk hle (I1.hok.fresh hle)
    rcases q1 with ⟨hq, q⟩ | ⟨hq, q⟩
    · obtain ⟨its, rv, p', hz⟩ := I1.list hq
      refine call_enumerate_list p'.isList fun h' he hit hsz hk => wpAny_pyIter_enum he ?_
      have I2 : Inv X pins σ H1 { s1 with heap := h' } := I1.kept (t' := s1.toks) hk
      exact ⟨s1.heap.objs.size + 1, [s1.heap.objs.size + 1, s1.heap.objs.size], _, _, H1, rfl, I2, turn_enum a (s1.heap.objs.size + 1) s1.heap.objs.size, ⟨⟨.none, he⟩, hit, Nat.succ_ne_self _⟩, fresh2, q⟩
    · obtain ⟨its, rv, p', hz⟩ := I1.tuple hq
      refine enum_begins1 (begins_tuple a its.toArray) p' fun h' he hit hsz hk => wpAny_pyIter_enum he ?_
      have I2 : Inv X pins σ H1 { s1 with heap := h' } := I1.kept (t' := s1.toks) hk
      exact ⟨s1.heap.objs.size + 1, [s1.heap.objs.size + 1, s1.heap.objs.size], _, _, H1, rfl, I2, turn_enumT a (s1.heap.objs.size + 1) s1.heap.objs.size, ⟨⟨.none, he⟩, ⟨_, hit, rfl, rfl⟩, Nat.succ_ne_self _⟩, fresh2, q⟩
/-- items in new pairs -/
def pairD (i : Nat) (o : Option Val) : Option Val := match o with
  | some x => some (.tup [.int (i : Int), x])
  | none => none
def dEL (a : Addr) : DIt := ⟨fun i s => match s a with | some (.lst xs) => some (pairD i xs[i]?) | _ => none⟩
def dET (xs : List Val) : DIt := ⟨fun i _ => some (pairD i xs[i]?)⟩
theorem pairD_none {i : Nat} {o : Option Val} (h : pairD i o = none) : o = none := by cases o <;> first | rfl | cases h
theorem pairD_some {i : Nat} {o : Option Val} {x : Val} (h : pairD i o = some x) : ∃ y, o = some y ∧ x = .tup [.int (i : Int), y] := by
  cases o with
  | none => cases h
  | some y => cases h; exact ⟨y, rfl, rfl⟩
theorem dEL_some {a : Addr} {i : Nat} {s : Store} {o : Option Val} (h : (dEL a).at_ i s = some o) : ∃ xs, s a = some (.lst xs) ∧ o = pairD i xs[i]? := by
  simp only [dEL] at h
  split at h
  · rename_i xs e
    cases h
    exact ⟨xs, e, rfl⟩
  · cases h
/-- a pair is laid -/
theorem pair_new {K : PySem.W.Frag} {H : Hp} {s : Store} {T : Addr} {x y : Val} {v w : V} (rs : RSt K H s) (hT : H T = none) (rx : RV K H x v) (ry : RV K H y w) :
    Keep H (upd H T (.tup [v, w])) ∧ RSt K (upd H T (.tup [v, w])) s ∧ RV K (upd H T (.tup [v, w])) (.tup [x, y]) (.ref T) :=
  ⟨Keep.fresh hT, rs.fresh hT, rv_tup_new hT (RVs.cons rx (RVs.cons ry RVs.nil))⟩
theorem rit_EL {K : PySem.W.Frag} {H0 : Hp} {a : Addr} : RIt K H0 (Ite K a) (dEL a) where
  stop := fun i H s k rs h => by
    obtain ⟨xs, e, h2⟩ := dEL_some h
    obtain ⟨vs, e1, r⟩ := rs a _ e
    exact ⟨vs, SqL.of e1, r.len_none (pairD_none h2.symm)⟩
  go := fun i H s x k rs h => by
    obtain ⟨xs, e, h2⟩ := dEL_some h
    obtain ⟨vs, e1, r⟩ := rs a _ e
    obtain ⟨y, h3, _⟩ := pairD_some h2.symm
    obtain ⟨v, hv, _⟩ := r.get h3
    exact ⟨vs, v, SqL.of e1, hv⟩
  yld := fun i H s x v H' k rs h y => by
    obtain ⟨xs, e, h2⟩ := dEL_some h
    obtain ⟨vs, e1, r⟩ := rs a _ e
    obtain ⟨z, h3, rfl⟩ := pairD_some h2.symm
    obtain ⟨T, w, rfl, hT, rfl, y⟩ := y
    obtain ⟨w', hw, rw⟩ := r.get h3
    have := y vs (SqL.of e1)
    rw [hw] at this
    cases this
    exact pair_new rs hT (rv_mk_int _) rw
theorem rit_ET {K : PySem.W.Frag} {H0 : Hp} {a : Addr} {xs : List Val} {vs : List V} (ha : H0 a = some (.tup vs)) (r : RVs K H0 xs vs) : RIt K H0 (IteT K a) (dET xs) where
  stop := fun i H s k rs h => by
    have h2 : pairD i xs[i]? = none := by simpa [dET] using h
    exact ⟨vs, SqT.tup (k.tup _ _ ha), r.len_none (pairD_none h2)⟩
  go := fun i H s x k rs h => by
    have h2 : pairD i xs[i]? = some x := by simpa [dET] using h
    obtain ⟨y, h3, _⟩ := pairD_some h2
    obtain ⟨v, hv, _⟩ := r.get h3
    exact ⟨vs, v, SqT.tup (k.tup _ _ ha), hv⟩
  yld := fun i H s x v H' k rs h y => by
    have h2 : pairD i xs[i]? = some x := by simpa [dET] using h
    obtain ⟨z, h3, rfl⟩ := pairD_some h2
    obtain ⟨T, w, rfl, hT, rfl, y⟩ := y
    obtain ⟨w', hw, rw⟩ := r.get h3
    have := y vs (SqT.tup (k.tup _ _ ha))
    rw [hw] at this
    cases this
    exact pair_new rs hT (rv_mk_int _) (rw.keep k)
def wIEnum (a : WA) : WI := fun env s Q E => a env s (fun vs s1 => match vs with
  | [.tup xs] => Q (dET xs) s1
  | [.ref c] => (∃ xs, s1 c = some (.lst xs)) ∧ Q (dEL c) s1
  | _ => False) E
section
variable {X : Cx} {W : WX} {e : Expr} {pos : Pos} {a : WA}
theorem ji_enum {p tpos : Pos} {elts : List Expr} {kk : Nat} (hg : Gl X "enumerate") (hm : X.mg "enumerate" = none) (ha : JA X W [e] a) (hs : starEach [e] X.env = [(false, eval e X.env)] := by rfl) :
    JI X W (.Tuple elts kk tpos) (.Call (.Name "enumerate" p) [e] [] pos) (wIEnum a) := PI.imp (pi_enumA hg hm ha hs) fun σ H R h => by
  obtain ⟨env, s, Q0, E0, re, rs, q, cl, ce⟩ := h
  refine ⟨env, s, _, _, re, rs, q, fun vs s1 q1 H1 us k1 rs1 rv => ?_, ce⟩
  split at q1
  · rename_i xs
    obtain ⟨v, rfl, r⟩ := rvs1 rv
    rw [RV] at r
    obtain ⟨b, ws, rfl, hb, r⟩ := r
    exact ⟨b, ws, rfl, .inr ⟨SqT.tup hb, cl _ _ q1 _ H1 k1 rs1 (rit_ET hb r)⟩⟩
  · rename_i c
    obtain ⟨⟨xs, hc⟩, q1⟩ := q1
    obtain ⟨v, rfl, r⟩ := rvs1 rv
    obtain ⟨vs, e1, r1⟩ := rs1 c _ hc
    rw [rv_ref r]
    exact ⟨c, vs, rfl, .inl ⟨SqL.of e1, cl _ _ q1 _ H1 k1 rs1 rit_EL⟩⟩
  · exact q1.elim
end

/-! ### zip of two lists or two tuples -/
def pair2 (o1 o2 : Option Val) : Option Val := match o1, o2 with
  | some x, some y => some (.tup [x, y])
  | _, _ => none
theorem pair2_none {o1 o2 : Option Val} (h : pair2 o1 o2 = none) : o1 = none ∨ o2 = none := by cases o1 <;> cases o2 <;> first | exact .inl rfl | exact .inr rfl | cases h
theorem pair2_some {o1 o2 : Option Val} {x : Val} (h : pair2 o1 o2 = some x) : ∃ y z, o1 = some y ∧ o2 = some z ∧ x = .tup [y, z] := by
  cases o1 <;> cases o2 <;> first | (cases h; exact ⟨_, _, rfl, rfl, rfl⟩) | cases h
def dZL (a b : Addr) : DIt := ⟨fun i s => match s a, s b with | some (.lst xs), some (.lst ys) => some (pair2 xs[i]? ys[i]?) | _, _ => none⟩
def dZT (xs ys : List Val) : DIt := ⟨fun i _ => some (pair2 xs[i]? ys[i]?)⟩
theorem dZL_some {a b : Addr} {i : Nat} {s : Store} {o : Option Val} (h : (dZL a b).at_ i s = some o) : ∃ xs ys, s a = some (.lst xs) ∧ s b = some (.lst ys) ∧ o = pair2 xs[i]? ys[i]? := by
  simp only [dZL] at h
  split at h
  · rename_i xs ys e1 e2
    cases h
    exact ⟨xs, ys, e1, e2, rfl⟩
  · cases h
theorem rit_ZL {K : PySem.W.Frag} {H0 : Hp} {a b : Addr} : RIt K H0 (Itz K a b) (dZL a b) where
  stop := fun i H s k rs h => by
    obtain ⟨xs, ys, e, e', h2⟩ := dZL_some h
    obtain ⟨vs, e1, r⟩ := rs a _ e
    obtain ⟨ws, e2, r'⟩ := rs b _ e'
    refine ⟨vs, ws, SqL.of e1, SqL.of e2, ?_⟩
    rcases pair2_none h2.symm with z | z
    · exact .inl (r.len_none z)
    · exact .inr (r'.len_none z)
  go := fun i H s x k rs h => by
    obtain ⟨xs, ys, e, e', h2⟩ := dZL_some h
    obtain ⟨vs, e1, r⟩ := rs a _ e
    obtain ⟨ws, e2, r'⟩ := rs b _ e'
    obtain ⟨y, z, h3, h4, _⟩ := pair2_some h2.symm
    obtain ⟨v, hv, _⟩ := r.get h3
    obtain ⟨w, hw, _⟩ := r'.get h4
    exact ⟨vs, ws, v, w, SqL.of e1, SqL.of e2, hv, hw⟩
  yld := fun i H s x v H' k rs h y => by
    obtain ⟨xs, ys, e, e', h2⟩ := dZL_some h
    obtain ⟨vs, e1, r⟩ := rs a _ e
    obtain ⟨ws, e2, r'⟩ := rs b _ e'
    obtain ⟨y1, z1, h3, h4, rfl⟩ := pair2_some h2.symm
    obtain ⟨T, v1, w1, rfl, hT, rfl, q1, q2⟩ := y
    obtain ⟨v', hv, rv⟩ := r.get h3
    obtain ⟨w', hw, rw⟩ := r'.get h4
    have a1 := q1 vs (SqL.of e1)
    have a2 := q2 ws (SqL.of e2)
    rw [hv] at a1
    rw [hw] at a2
    cases a1
    cases a2
    exact pair_new rs hT rv rw
theorem rit_ZT {K : PySem.W.Frag} {H0 : Hp} {a b : Addr} {xs ys : List Val} {vs ws : List V} (ha : H0 a = some (.tup vs)) (r : RVs K H0 xs vs) (hb : H0 b = some (.tup ws)) (r' : RVs K H0 ys ws) : RIt K H0 (RZ.ItzT K a b) (dZT xs ys) where
  stop := fun i H s k rs h => by
    have h2 : pair2 xs[i]? ys[i]? = none := by simpa [dZT] using h
    refine ⟨vs, ws, SqT.tup (k.tup _ _ ha), SqT.tup (k.tup _ _ hb), ?_⟩
    rcases pair2_none h2 with z | z
    · exact .inl (r.len_none z)
    · exact .inr (r'.len_none z)
  go := fun i H s x k rs h => by
    have h2 : pair2 xs[i]? ys[i]? = some x := by simpa [dZT] using h
    obtain ⟨y, z, h3, h4, _⟩ := pair2_some h2
    obtain ⟨v, hv, _⟩ := r.get h3
    obtain ⟨w, hw, _⟩ := r'.get h4
    exact ⟨vs, ws, v, w, SqT.tup (k.tup _ _ ha), SqT.tup (k.tup _ _ hb), hv, hw⟩
  yld := fun i H s x v H' k rs h y => by
    have h2 : pair2 xs[i]? ys[i]? = some x := by simpa [dZT] using h
    obtain ⟨y1, z1, h3, h4, rfl⟩ := pair2_some h2
    obtain ⟨T, v1, w1, rfl, hT, rfl, q1, q2⟩ := y
    obtain ⟨v', hv, rv⟩ := r.get h3
    obtain ⟨w', hw, rw⟩ := r'.get h4
    have a1 := q1 vs (SqT.tup (k.tup _ _ ha))
    have a2 := q2 ws (SqT.tup (k.tup _ _ hb))
    rw [hv] at a1
    rw [hw] at a2
    cases a1
    cases a2
    exact pair_new rs hT (rv.keep k) (rw.keep k)
def wIZip (a : WA) : WI := fun env s Q E => a env s (fun vs s1 => match vs with
  | [.tup xs, .tup ys] => Q (dZT xs ys) s1
  | [.ref c, .ref d] => (∃ xs, s1 c = some (.lst xs)) ∧ (∃ ys, s1 d = some (.lst ys)) ∧ Q (dZL c d) s1
  | _ => False) E
section
variable {X : Cx} {W : WX} {e e2 : Expr} {pos : Pos} {a : WA}
theorem ji_zip {p tpos : Pos} {elts : List Expr} {kk : Nat} (hg : Gl X "zip") (hm : X.mg "zip" = none) (ha : JA X W [e, e2] a) (hs : starEach [e, e2] X.env = (false, eval e X.env) :: starEach [e2] X.env := by rfl)
    (hpl : (backTo pos (starEach [e2] X.env)).any (·.1) = false := by rfl) :
    JI X W (.Tuple elts kk tpos) (.Call (.Name "zip" p) [e, e2] [] pos) (wIZip a) := PI.imp (RZ.pi_zipA hg hm ha hs hpl) fun σ H R h => by
  obtain ⟨env, s, Q0, E0, re, rs, q, cl, ce⟩ := h
  refine ⟨env, s, _, _, re, rs, q, fun vs s1 q1 H1 us k1 rs1 rv => ?_, ce⟩
  split at q1
  · rename_i xs ys
    obtain ⟨v, w, rfl, r, r'⟩ := rvs2 rv
    rw [RV] at r r'
    obtain ⟨b, ws, rfl, hb, r⟩ := r
    obtain ⟨b', ws', rfl, hb', r'⟩ := r'
    exact ⟨b, b', ws, ws', rfl, .inr ⟨SqT.tup hb, SqT.tup hb', cl _ _ q1 _ H1 k1 rs1 (rit_ZT hb r hb' r')⟩⟩
  · rename_i c d
    obtain ⟨⟨xs, hc⟩, ⟨ys, hd⟩, q1⟩ := q1
    obtain ⟨v, w, rfl, r, r'⟩ := rvs2 rv
    obtain ⟨vs, e1, r1⟩ := rs1 c _ hc
    obtain ⟨ws, e2, r2⟩ := rs1 d _ hd
    rw [rv_ref r, rv_ref r']
    exact ⟨c, d, vs, ws, rfl, .inl ⟨SqL.of e1, SqL.of e2, cl _ _ q1 _ H1 k1 rs1 rit_ZL⟩⟩
  · exact q1.elim
end
end Y
set_option Elab.async false
set_option linter.all false
set_option maxRecDepth 100000
set_option maxHeartbeats 4000000
set_option autoImplicit false
/-! Y: calls of built-ins, methods. -/
namespace Y
open PySem PySem.Spec PyProof.Rows L2

/-- arguments, store, end -/
abbrev OC := List Val → Store → QV → Prop
def CallS (K : PySem.W.Frag) (r : List V → Hp → VK → Prop) (c : OC) : Prop := ∀ xs s H vs Q0 Q, RSt K H s → RVs K H xs vs → c xs s Q0 → Cl K H Q0 Q → r vs H Q
def wCall (c : OC) (a : WA) : WE := fun env s Q E => a env s (fun xs s1 => c xs s1 Q) E
section
variable {X : Cx} {W : WX} {e : Expr} {es : List Expr} {pos p : Pos} {x : Str} {id T : String} {r : List V → Hp → VK → Prop} {c : OC} {a : WA}
theorem call_of (hs : CallS X.K r c) {σ : L2.St} {H : Hp} {Q : VK} (h : tW X.K W (wCall c a) σ H Q) : tCB r (tWA X.K W a) σ H Q := by
  obtain ⟨env, s, Q0, E0, re, rs, q, cl, ce⟩ := h
  exact ⟨env, s, _, E0, re, rs, q, fun xs s1 q1 H1 us k1 rs1 rx => hs xs s1 H1 us Q0 Q rs1 rx q1 (Cl.keep cl k1), ce⟩
theorem je_callB (hc : CallR X (.builtin id) r) (hs : CallS X.K r c) (hg : Gl X x) (hm : X.mg x = none) (hv : bootBuiltins x = some (.builtin id)) (ha : JA X W (e :: es) a) (hn : x ≠ "__name__" := by decide) (hdb : (x == ("__debug__" : Str)) = false := by decide)
    (he : starEach (e :: es) X.env = (false, eval e X.env) :: starEach es X.env := by rfl) (hpl : (backTo pos (starEach es X.env)).any (·.1) = false := by rfl) : JE X W (.Call (.Name x p) (e :: es) [] pos) (wCall c a) :=
  PE.imp (pe_callB hc hg hm hv ha hn hdb he hpl) fun σ H Q h => call_of hs h
theorem je_callTy (hc : CallR X (.type T) r) (hs : CallS X.K r c) (hg : Gl X x) (hm : X.mg x = none) (hv : bootBuiltins x = some (.type T)) (ha : JA X W (e :: es) a) (hn : x ≠ "__name__" := by decide) (hdb : (x == ("__debug__" : Str)) = false := by decide)
    (he : starEach (e :: es) X.env = (false, eval e X.env) :: starEach es X.env := by rfl) (hpl : (backTo pos (starEach es X.env)).any (·.1) = false := by rfl) : JE X W (.Call (.Name x p) (e :: es) [] pos) (wCall c a) :=
  PE.imp (pe_callTy hc hg hm hv ha hn hdb he hpl) fun σ H Q h => call_of hs h
theorem je_callBfun (hc : CallR X (.builtin id) r) (hs : CallS X.K r c) (hg : Gl X x) (hm : X.mg x = some (.builtin id)) (ha : JA X W (e :: es) a)
    (hdb : (x == ("__debug__" : Str)) = false := by decide)
    (he : starEach (e :: es) X.env = (false, eval e X.env) :: starEach es X.env := by rfl) (hpl : (backTo pos (starEach es X.env)).any (·.1) = false := by rfl) : JE X W (.Call (.Name x p) (e :: es) [] pos) (wCall c a) :=
  PE.imp (pe_callBfun hc hg hm ha hdb he hpl) fun σ H Q h => call_of hs h
end
section
variable {K : PySem.W.Frag}
theorem CallR.or {X : Cx} {f : Value} {r r' : List V → Hp → VK → Prop} (h : CallR X f r) (h' : CallR X f r') : CallR X f (fun vs H Q => r vs H Q ∨ r' vs H Q) := by
  intro pins s σ H xs us Q I rv z
  rcases z with z | z
  · exact h pins s σ H xs us Q I rv z
  · exact h' pins s σ H xs us Q I rv z
theorem RVs.one {H : Hp} {x : Val} {vs : List V} (r : RVs K H [x] vs) : ∃ v, vs = [v] ∧ RV K H x v := by
  rw [RVs] at r
  obtain ⟨v, t, rfl, r1, r2⟩ := r
  rw [RVs] at r2
  subst r2
  exact ⟨v, rfl, r1⟩
theorem RVs.two {H : Hp} {x y : Val} {vs : List V} (r : RVs K H [x, y] vs) : ∃ v w, vs = [v, w] ∧ RV K H x v ∧ RV K H y w := by
  rw [RVs] at r
  obtain ⟨v, t, rfl, r1, r2⟩ := r
  obtain ⟨w, ew, r3⟩ := RVs.one r2
  subst ew
  exact ⟨v, w, rfl, r1, r3⟩
/-- the items of a sequence value -/
def seqOf (s : Store) : Val → Option (List Val)
  | .tup xs => some xs
  | .scr xs => some xs
  | .ref a => match s a with
    | some (.lst xs) => some xs
    | _ => none
  | _ => none
theorem seqOf_ref {s : Store} {a : Addr} {xs : List Val} (h : seqOf s (.ref a) = some xs) : s a = some (.lst xs) := by
  unfold seqOf at h
  simp only at h
  split at h
  · cases h; assumption
  · cases h
theorem seq_of {H : Hp} {s : Store} {x : Val} {xs : List Val} {v : V} (rs : RSt K H s) (h : seqOf s x = some xs) (r : RV K H x v) :
    ∃ a vs, v = .ref a ∧ RVs K H xs vs ∧ (SqL K H a vs ∨ SqT K H a vs) := by
  cases x with
  | tup ys =>
    cases h
    rw [RV] at r
    obtain ⟨a, vs, rfl, ha, rv⟩ := r
    exact ⟨a, vs, rfl, rv, .inr (SqT.tup ha)⟩
  | scr ys =>
    cases h
    rw [RV] at r
    obtain ⟨a, vs, rfl, ha, rv⟩ := r
    exact ⟨a, vs, rfl, rv, .inl ha.seq⟩
  | ref a =>
    obtain ⟨vs, e1, rv⟩ := rs a _ (seqOf_ref h)
    exact ⟨a, vs, rv_ref r, rv, .inl (SqL.of e1)⟩
  | non => cases h
  | bl _ => cases h
  | int _ => cases h
  | str _ => cases h
  | ty _ => cases h
/-- len -/
def cLen : OC := fun xs s Q => ∃ x ys, xs = [x] ∧ seqOf s x = some ys ∧ Q (.int (ys.length : Nat)) s
theorem calls_len : CallS K (fun xs H Q => ∃ p ys, xs = [V.ref p] ∧ (SqL K H p ys ∨ SqT K H p ys) ∧ Q (.int ys.length) H) cLen := by
  intro xs s H vs Q0 Q rs rv h cl
  obtain ⟨x, ys, rfl, hx, q⟩ := h
  obtain ⟨v, rfl, rx⟩ := rv.one
  obtain ⟨a, ws, rfl, r1, r2⟩ := seq_of rs hx rx
  exact ⟨a, ws, rfl, r2, cl _ _ q H _ (Keep.refl H) rs (by rw [← r1.length]; exact rv_mk_int _)⟩
def cLenStr : OC := fun xs s Q => ∃ z : Str, xs = [.str z] ∧ z.length ≤ 16777216 ∧ Q (.int (z.length : Nat)) s
theorem calls_lenStr : CallS K (fun xs H Q => ∃ z : Str, xs = [V.str z] ∧ z.length ≤ sizeLine ∧ Q (.int z.length) H) cLenStr := by
  intro xs s H vs Q0 Q rs rv h cl
  obtain ⟨z, rfl, hz, q⟩ := h
  obtain ⟨v, rfl, rx⟩ := rv.one
  exact ⟨z, by rw [rv_str rx], by rw [sizeLine_eq]; exact hz, cl _ _ q H _ (Keep.refl H) rs (rv_mk_int _)⟩
/-- int(n) -/
def cInt : OC := fun xs s Q => ∃ i : Int, xs = [.int i] ∧ Q (.int i) s
theorem calls_int : CallS K (fun xs H Q => (∃ i, xs = [V.int i] ∧ Q (.int i) H) ∨ ∃ k, xs = [V.bl k] ∧ Q (.int (if k then 1 else 0)) H) cInt := by
  intro xs s H vs Q0 Q rs rv h cl
  obtain ⟨i, rfl, q⟩ := h
  obtain ⟨v, rfl, rx⟩ := rv.one
  exact .inl ⟨i, by rw [rv_int rx], cl _ _ q H _ (Keep.refl H) rs (rv_mk_int _)⟩
def cAbs : OC := fun xs s Q => ∃ i : Int, xs = [.int i] ∧ Q (.int (if i < 0 then -i else i)) s
theorem calls_abs : CallS K (fun xs H Q => ∃ i, xs = [V.int i] ∧ Q (.int (if i < 0 then -i else i)) H) cAbs := by
  intro xs s H vs Q0 Q rs rv h cl
  obtain ⟨i, rfl, q⟩ := h
  obtain ⟨v, rfl, rx⟩ := rv.one
  exact ⟨i, by rw [rv_int rx], cl _ _ q H _ (Keep.refl H) rs (rv_mk_int _)⟩
def cGcd : OC := fun xs s Q => ∃ i j : Int, xs = [.int i, .int j] ∧ Q (.int ((Nat.gcd i.natAbs j.natAbs : Nat) : Int)) s
theorem calls_gcd : CallS K rGcd cGcd := by
  intro xs s H vs Q0 Q rs rv h cl
  obtain ⟨i, j, rfl, q⟩ := h
  obtain ⟨v, w, rfl, rx, ry⟩ := rv.two
  exact ⟨i, j, by rw [rv_int rx, rv_int ry], cl _ _ q H _ (Keep.refl H) rs (rv_mk_int _)⟩
/-- list(xs) -/
def cList : OC := fun xs s Q => ∃ x ys, xs = [x] ∧ seqOf s x = some ys ∧ ∀ p, s p = none → Q (.ref p) (updS s p (.lst ys))
theorem calls_list : CallS K (fun xs H Q => ∃ p ys, xs = [V.ref p] ∧ (SqL K H p ys ∨ SqT K H p ys) ∧ ∀ l, H l = none → Q (.ref l) (upd H l (.lst ys))) cList := by
  intro xs s H vs Q0 Q rs rv h cl
  obtain ⟨x, ys, rfl, hx, q⟩ := h
  obtain ⟨v, rfl, rx⟩ := rv.one
  obtain ⟨a, ws, rfl, r1, r2⟩ := seq_of rs hx rx
  exact ⟨a, ws, rfl, r2, fun l hl => cl _ _ (q l (rs.free hl)) _ _ (Keep.fresh hl) (rs.newLst hl r1) (rv_mk_ref _)⟩
/-- tuple(xs) -/
def cTuple : OC := fun xs s Q => ∃ x ys, xs = [x] ∧ seqOf s x = some ys ∧ Q (.tup ys) s
theorem calls_tuple : CallS K (fun xs H Q => ∃ p ys, xs = [V.ref p] ∧ ((SqL K H p ys ∧ ∀ l, H l = none → Q (.ref l) (upd H l (.tup ys))) ∨ (SqT K H p ys ∧ Q (.ref p) H))) cTuple := by
  intro xs s H vs Q0 Q rs rv h cl
  obtain ⟨x, ys, rfl, hx, q⟩ := h
  obtain ⟨v, rfl, rx⟩ := rv.one
  cases x with
  | tup zs =>
    cases hx
    rw [RV] at rx
    obtain ⟨a, vs, rfl, ha, r⟩ := rx
    refine ⟨a, vs, rfl, .inr ⟨SqT.tup ha, cl _ _ q H _ (Keep.refl H) rs ?_⟩⟩
    rw [RV]
    exact ⟨a, vs, rfl, ha, r⟩
  | scr zs =>
    cases hx
    rw [RV] at rx
    obtain ⟨a, vs, rfl, ha, r⟩ := rx
    exact ⟨a, vs, rfl, .inl ⟨ha.seq, fun l hl => cl _ _ q _ _ (Keep.fresh hl) (rs.fresh hl) (rv_tup_new hl r)⟩⟩
  | ref a =>
    obtain ⟨vs, e1, r⟩ := rs a _ (seqOf_ref hx)
    exact ⟨a, vs, by rw [rv_ref rx], .inl ⟨SqL.of e1, fun l hl => cl _ _ q _ _ (Keep.fresh hl) (rs.fresh hl) (rv_tup_new hl r)⟩⟩
  | non => cases hx
  | bl _ => cases hx
  | int _ => cases hx
  | str _ => cases hx
  | ty _ => cases hx
/-- any, all of a list of truth values -/
def cAny : OC := fun xs s Q => ∃ (a : Addr) (bs : List Bool), xs = [.ref a] ∧ s a = some (.lst (bs.map Val.bl)) ∧ Q (.bl (bs.any id)) s
def cAll : OC := fun xs s Q => ∃ (a : Addr) (bs : List Bool), xs = [.ref a] ∧ s a = some (.lst (bs.map Val.bl)) ∧ Q (.bl (bs.all id)) s
theorem calls_any : CallS K (rAny K) cAny := by
  intro xs s H vs Q0 Q rs rv h cl
  obtain ⟨a, bs, rfl, hx, q⟩ := h
  obtain ⟨v, rfl, rx⟩ := rv.one
  obtain ⟨ws, e1, r⟩ := rs a _ hx
  rw [RVs.bls r] at e1
  exact ⟨a, bs, by rw [rv_ref rx], SqL.of e1, cl _ _ q H _ (Keep.refl H) rs (rv_mk_bl _)⟩
theorem calls_all : CallS K (rAll K) cAll := by
  intro xs s H vs Q0 Q rs rv h cl
  obtain ⟨a, bs, rfl, hx, q⟩ := h
  obtain ⟨v, rfl, rx⟩ := rv.one
  obtain ⟨ws, e1, r⟩ := rs a _ hx
  rw [RVs.bls r] at e1
  exact ⟨a, bs, by rw [rv_ref rx], SqL.of e1, cl _ _ q H _ (Keep.refl H) rs (rv_mk_bl _)⟩
/-- sorted, whole numbers -/
def cSortI : OC := fun xs s Q => ∃ (x : Val) (ns : List Int), xs = [x] ∧ seqOf s x = some (ns.map Val.int) ∧ (∀ ys, x ≠ .tup ys) ∧ ∀ (p : Addr) (ns' : List Int), ns'.Perm ns → ns'.Pairwise (· ≤ ·) → s p = none → Q (.ref p) (updS s p (.lst (ns'.map Val.int)))
theorem calls_sortI : CallS K (rSortedI K) cSortI := by
  intro xs s H vs Q0 Q rs rv h cl
  obtain ⟨x, ns, rfl, hx, nt, q⟩ := h
  obtain ⟨v, rfl, rx⟩ := rv.one
  have hl : ∃ a, v = .ref a ∧ SqL K H a (ns.map V.int) := by
    cases x with
    | tup zs => exact absurd rfl (nt zs)
    | scr zs =>
      rw [RV] at rx
      obtain ⟨a, vs, rfl, ha, r⟩ := rx
      cases hx
      rw [RVs.ints r] at ha
      exact ⟨a, rfl, ha.seq⟩
    | ref a =>
      obtain ⟨vs, e1, r⟩ := rs a _ (seqOf_ref hx)
      rw [RVs.ints r] at e1
      exact ⟨a, rv_ref rx, SqL.of e1⟩
    | non => cases hx
    | bl _ => cases hx
    | int _ => cases hx
    | str _ => cases hx
    | ty _ => cases hx
  obtain ⟨a, rfl, hl⟩ := hl
  exact ⟨a, ns, rfl, hl, fun ns' p pm pw hp => cl _ _ (q p ns' pm pw (rs.free hp)) _ _ (Keep.fresh hp) (rs.newLst hp (RVs.of_ints ns')) (rv_mk_ref _)⟩
end
end Y
set_option Elab.async false
set_option linter.all false
set_option maxRecDepth 100000
set_option maxHeartbeats 4000000
set_option autoImplicit false
/-! Y: methods of built-in types, xs[i] op= e, dicts. -/
namespace Y
open PySem PySem.Spec PyProof.Rows L2

/-! ### methods -/
abbrev OM := Val → List Val → Store → QV → Prop
def MetS (K : PySem.W.Frag) (r : V → List V → Hp → VK → Prop) (m : OM) : Prop := ∀ x xs s H v vs Q0 Q, RSt K H s → RV K H x v → RVs K H xs vs → m x xs s Q0 → Cl K H Q0 Q → r v vs H Q
def tyS (T : String) (x : Val) (s : Store) : Prop := (T = "list" ∧ ∃ a xs, x = .ref a ∧ s a = some (.lst xs)) ∨ (T = "dict" ∧ ∃ a t kvs, x = .ref a ∧ s a = some (.dic t kvs)) ∨ (T = "str" ∧ ∃ z, x = .str z)
theorem tyS.v {K : PySem.W.Frag} {T : String} {x : Val} {s : Store} {H : Hp} {v : V} (h : tyS T x s) (rs : RSt K H s) (r : RV K H x v) : tyV K T v H := by
  rcases h with ⟨rfl, a, xs, rfl, e⟩ | ⟨rfl, a, t, kvs, rfl, e⟩ | ⟨rfl, z, rfl⟩
  · obtain ⟨vs, e1, _⟩ := rs a _ e
    rw [rv_ref r]
    exact .inl ⟨rfl, vs, SqL.of e1⟩
  · rw [rv_ref r]
    rcases rs a _ e with ⟨_, ks, h1, _⟩ | ⟨_, ks, h1, _⟩
    · exact .inr (.inr (.inl ⟨rfl, .inl ⟨_, h1⟩⟩))
    · exact .inr (.inr (.inl ⟨rfl, .inr ⟨_, h1⟩⟩))
  · rw [rv_str r]
    exact rfl
def wMeth (T : String) (m : OM) (o : WE) (a : WA) : WE := fun env s Q E => o env s (fun x s1 => tyS T x s1 ∧ a env s1 (fun xs s2 => m x xs s2 Q) E) E
section
variable {X : Cx} {W : WX} {o e : Expr} {es : List Expr} {name : Str} {apos cpos : Pos} {T id : String} {r : V → List V → Hp → VK → Prop} {m : OM} {wo : WE} {wa : WA}
theorem je_bm (pa : PlainAttrs T) (slot : Slot T name id) (hty : typeOf (.builtin id) = pure (.type "method_descriptor")) (hm : MtR X id r) (hs : MetS X.K r m) (ho : JE X W o wo) (ha : JA X W (e :: es) wa)
    (hbase : attributeBase o name X.env (eval o X.env) = eval o X.env := by rfl)
    (hfew : ((backTo cpos (starEach (e :: es) X.env)).all (fun x => !x.1) && (backToKw cpos (keywordEach [] X.env)).all (fun x => x.1.isSome)
      && decide ((e :: es).length + ([] : List Keyword).length + (if ([] : List Keyword).isEmpty then 0 else 1) < 30)) = true := by rfl)
    (hline : (apos.endLine == cpos.line) = true := by rfl) (hst : starEach (e :: es) X.env = (false, eval e X.env) :: starEach es X.env := by rfl) (hplain : (backTo cpos (starEach es X.env)).any (·.1) = false := by rfl) :
    JE X W (.Call (.Attribute o name apos) (e :: es) [] cpos) (wMeth T m wo wa) :=
  PE.imp (pe_bm pa slot hty hm ho ha hbase hfew hline hst hplain) fun σ H Q h => by
    obtain ⟨env, s, Q0, E0, re, rs, q, cl, ce⟩ := h
    refine ⟨env, s, _, E0, re, rs, q, fun x s1 q1 H1 u k1 rs1 rx => ⟨q1.1.v rs1 rx, ?_⟩, ce⟩
    exact ⟨env, s1, _, E0, re.keep k1, rs1, q1.2, fun xs s2 q2 H2 us k2 rs2 rxs => hs x xs s2 H2 u us Q0 Q rs2 (rx.keep k2) rxs q2 (Cl.keep (Cl.keep cl k1) k2), ce.keep k1⟩
end
def mAppend : OM := fun x xs s Q => ∃ l ys y, x = .ref l ∧ xs = [y] ∧ s l = some (.lst ys) ∧ ys.length < 16777216 ∧ Q .non (updS s l (.lst (ys ++ [y])))
theorem mets_append {K : PySem.W.Frag} : MetS K rAppend mAppend := by
  intro x xs s H v vs Q0 Q rs rx rxs h cl
  obtain ⟨l, ys, y, rfl, rfl, e, hl, q⟩ := h
  obtain ⟨u, rfl, ry⟩ := rxs.one
  obtain ⟨ws, e1, r1⟩ := rs l _ e
  obtain ⟨k, rs'⟩ := rs.setLst (xs := ys ++ [y]) e1 (r1.append (RVs.cons ry RVs.nil))
  exact ⟨l, ws, u, rv_ref rx, rfl, e1, by rw [← r1.length, sizeLine_eq]; exact hl, cl _ _ q _ _ k rs' rv_mk_non⟩
section
variable {X : Cx} {W : WX} {o e : Expr} {name : Str} {apos cpos : Pos} {wo wi : WE} {wa : WA}
theorem je_append (ho : JE X W o wo) (ha : JA X W [e] wa) (hbase : attributeBase o "append" X.env (eval o X.env) = eval o X.env := by rfl)
    (hfew : ((backTo cpos (starEach (e :: []) X.env)).all (fun x => !x.1) && (backToKw cpos (keywordEach [] X.env)).all (fun x => x.1.isSome)
      && decide ((e :: []).length + ([] : List Keyword).length + (if ([] : List Keyword).isEmpty then 0 else 1) < 30)) = true := by rfl)
    (hline : (apos.endLine == cpos.line) = true := by rfl) (hst : starEach (e :: []) X.env = (false, eval e X.env) :: starEach [] X.env := by rfl) (hplain : (backTo cpos (starEach [] X.env)).any (·.1) = false := by rfl) :
    JE X W (.Call (.Attribute o "append" apos) [e] [] cpos) (wMeth "list" mAppend wo wa) :=
  je_bm PySem.F.plainAttrs_list PySem.F.slot_list_append PySem.F.type_list_append mt_append mets_append ho ha hbase hfew hline hst hplain
/-- xs.index(n), whole numbers -/
def mIndex : OM := fun x xs s Q => ∃ (y : Int) (ns : List Int), xs = [.int y] ∧ (∀ zs, x ≠ .tup zs) ∧ seqOf s x = some (ns.map Val.int) ∧ y ∈ ns ∧ Q (.int (ns.idxOf y : Nat)) s
theorem flat_ints (ns : List Int) : (ns.map V.int).all flatV = true := by
  rw [List.all_eq_true]
  intro x h
  obtain ⟨n, _, rfl⟩ := List.mem_map.mp h
  rfl
theorem eqV_int {i j : Int} : eqV (V.int i) (V.int j) = (i == j) := rfl
theorem mets_index {K : PySem.W.Frag} : MetS K (rIndex K) mIndex := by
  intro x xs s H v vs Q0 Q rs rx rxs h cl
  obtain ⟨y, ns, rfl, nt, e, hm, q⟩ := h
  obtain ⟨u, rfl, ry⟩ := rxs.one
  rw [rv_int ry]
  have hl : ∃ a, v = .ref a ∧ SqL K H a (ns.map V.int) := by
    cases x with
    | tup zs => exact absurd rfl (nt zs)
    | scr zs =>
      rw [RV] at rx
      obtain ⟨a, ws, rfl, ha, r⟩ := rx
      cases e
      rw [RVs.ints r] at ha
      exact ⟨a, rfl, ha.seq⟩
    | ref a =>
      obtain ⟨ws, e1, r⟩ := rs a _ (seqOf_ref e)
      rw [RVs.ints r] at e1
      exact ⟨a, rv_ref rx, SqL.of e1⟩
    | non => cases e
    | bl _ => cases e
    | int _ => cases e
    | str _ => cases e
    | ty _ => cases e
  obtain ⟨a, rfl, hl⟩ := hl
  have hlt := List.idxOf_lt_length_of_mem hm
  refine ⟨a, ns.map V.int, .int y, ns.idxOf y, .int y, rfl, rfl, hl, rfl, flat_ints ns, ?_, by rw [eqV_int]; simp, fun m z hz hg => ?_, cl _ _ q H _ (Keep.refl H) rs (rv_mk_int _)⟩
  · rw [List.getElem?_map, List.getElem?_eq_getElem hlt, List.getElem_idxOf hlt]
    rfl
  · rw [List.getElem?_map] at hg
    cases hn : ns[m]? with
    | none => rw [hn] at hg; cases hg
    | some n =>
      rw [hn] at hg
      cases hg
      rw [eqV_int]
      have := List.not_of_lt_findIdx (show m < ns.findIdx (· == y) from hz)
      obtain ⟨hm', rfl⟩ := List.getElem?_eq_some_iff.mp hn
      simpa using this
theorem je_index (ho : JE X W o wo) (ha : JA X W [e] wa) (hbase : attributeBase o "index" X.env (eval o X.env) = eval o X.env := by rfl)
    (hfew : ((backTo cpos (starEach (e :: []) X.env)).all (fun x => !x.1) && (backToKw cpos (keywordEach [] X.env)).all (fun x => x.1.isSome)
      && decide ((e :: []).length + ([] : List Keyword).length + (if ([] : List Keyword).isEmpty then 0 else 1) < 30)) = true := by rfl)
    (hline : (apos.endLine == cpos.line) = true := by rfl) (hst : starEach (e :: []) X.env = (false, eval e X.env) :: starEach [] X.env := by rfl) (hplain : (backTo cpos (starEach [] X.env)).any (·.1) = false := by rfl) :
    JE X W (.Call (.Attribute o "index" apos) [e] [] cpos) (wMeth "list" mIndex wo wa) :=
  je_bm PySem.F.plainAttrs_list PySem.F.slot_list_index PySem.F.type_list_index mt_index mets_index ho ha hbase hfew hline hst hplain
/-- d.get(k) -/
def wGet (o i : WE) : WE := fun env s Q E => o env s (fun x s1 => (∃ a t kvs, x = .ref a ∧ s1 a = some (.dic t kvs)) ∧ i env s1 (fun y s2 => ∃ a t kvs, x = .ref a ∧ s2 a = some (.dic t kvs) ∧ isKey t y ∧ Q ((dlook kvs y).getD .non) s2) E) E
theorem je_get {k : Nat} (hr : Room k X.A) (ho : JE X W o wo) (hi : JE X W e wi) (m : M1 X o "get" apos e cpos := by exact ⟨by rfl, by rfl, by rfl, by rfl⟩) : JE X W (.Call (.Attribute o "get" apos) [e] [] cpos) (wGet wo wi) :=
  PE.imp (pe_dget1 (by have := hr.units; omega) ho hi m) fun σ H Q h => by
    obtain ⟨env, s, Q0, E0, re, rs, q, cl, ce⟩ := h
    refine ⟨env, s, _, E0, re, rs, q, fun x s1 q1 H1 u k1 rs1 rx => ?_, ce⟩
    obtain ⟨⟨a, t, kvs, rfl, ea⟩, q1⟩ := q1
    refine ⟨a, rv_ref rx, ?_, env, s1, _, E0, re.keep k1, rs1, q1, fun y s2 q2 H2 w k2 rs2 ry => ?_, ce.keep k1⟩
    · rcases rs1 a _ ea with ⟨_, ks, h1, _⟩ | ⟨_, ks, h1, _⟩
      · exact .inl ⟨_, .inl h1⟩
      · exact .inr ⟨_, .inl h1⟩
    · obtain ⟨a', t', kvs', e', ea', hk, q2⟩ := q2
      cases e'
      rcases dget_of rs2 ea' hk ry with ⟨e1, hg⟩ | ⟨x, v, e1, hg, r⟩
      · rw [e1] at q2
        exact ⟨none, hg, cl _ _ q2 H2 _ (k1.trans k2) rs2 rv_mk_non⟩
      · rw [e1] at q2
        exact ⟨some v, hg, cl _ _ q2 H2 _ (k1.trans k2) rs2 r⟩
end
end Y
set_option Elab.async false
set_option linter.all false
set_option maxRecDepth 100000
set_option maxHeartbeats 4000000
set_option autoImplicit false
/-! Y: xs[i] op= e, dicts, tuple(range(n)), sorted tuples, keys. -/
namespace Y
open PySem PySem.Spec PyProof.Rows L2

/-! ### xs[i] op= e -/
theorem get_listL {X : Cx} : PGet X (fun o i H Q => ∃ p xs k v, o = .ref p ∧ i = .int k ∧ 0 ≤ k ∧ SqL X.K H p xs ∧ xs[k.toNat]? = some v ∧ Q v H) := by
  intro pins s σ H o i ov iv Q I ro ri h
  obtain ⟨p, xs, k, v, rfl, rfl, h0, hq, he, q⟩ := h
  cases ro
  obtain ⟨t, rfl⟩ := ri
  obtain ⟨its, r, pl, hz⟩ := I.list hq
  obtain ⟨w, ew, rw'⟩ := r.get he
  have hl := r.length
  have hn := line63
  obtain ⟨hlt, _⟩ := List.getElem?_eq_some_iff.mp he
  exact wpAny_getItem_list pl.isList h0 (by omega) (by simpa using ew) ⟨v, H, I, rw', q⟩
/-- o[i] op= e, o a list -/
def wAugS (o i : WE) (op : O2) (a : WE) : WS := fun D env s => o env s (fun x s1 => i env s1 (fun y s2 => ∃ (p : Addr) (k : Nat) (xs : List Val) (v : Val), x = .ref p ∧ y = .int (k : Nat) ∧ s2 p = some (.lst xs) ∧ xs[k]? = some v ∧
  a env s2 (fun z s3 => op v z s3 (fun u s4 => ∃ ys, s4 p = some (.lst ys) ∧ k < ys.length ∧ D.nx env (updS s4 p (.lst (ys.set k u))))) (fun x s1 => D.ex x env s1)) (fun x s1 => D.ex x env s1)) (fun x s1 => D.ex x env s1)
theorem ixN_nat {n k : Nat} (h : k < n) (hn : n ≤ 16777216) : ixN n (k : Nat) = some k := by
  unfold ixN
  simp
  omega
theorem js_augS {X : Cx} {W : WX} {oe ie e : Expr} {pos tpos : Pos} {o i a : WE} {op : Operator} {ti : TIp} {oo : O2} {k : Nat} (hr : Room k X.A) (ho : JE X W oe o) (hi : JE X W ie i) (he : JE X W e a) (hp : PIp X op ti) (hs : OpS X.K ti oo)
    (ha : ∀ ov iv new, augStore ie ov iv new = (do holding [new, ov, iv] (setItem ov iv new); release [new, ov, iv] []; pure .next) := by intros; rfl) : JS X W (.AugAssign (.Subscript oe ie tpos) op e pos) (wAugS o i oo a) :=
  PS.imp (ps_augS ho hi get_listL he hp (set_any (by have := hr.units; omega)) ha) fun D σ H h => by
    obtain ⟨env, s, D0, re, rs, q, cl⟩ := h
    refine ⟨env, s, _, _, re, rs, q, fun x s1 q1 H1 u1 k1 rs1 rx => ?_, cl.clE re (Keep.refl H)⟩
    refine ⟨env, s1, _, _, re.keep k1, rs1, q1, fun y s2 q2 H2 u2 k2 rs2 ry => ?_, cl.clE (re.keep k1) k1⟩
    have k12 := k1.trans k2
    obtain ⟨p, k, xs, v, rfl, rfl, e, hg, q2⟩ := q2
    obtain ⟨vs, e1, r1⟩ := rs2 p _ e
    obtain ⟨w, hw, rw'⟩ := r1.get hg
    rw [rv_ref rx, rv_int ry]
    refine ⟨p, vs, _, w, rfl, rfl, by omega, SqL.of e1, by simpa using hw, ?_⟩
    refine ⟨env, s2, _, _, re.keep k12, rs2, q2, fun z s3 q3 H3 u3 k3 rs3 rz => ?_, cl.clE (re.keep k12) k12⟩
    refine hs v z s3 H3 w u3 _ _ rs3 (rw'.keep k3) rz q3 fun u s4 q4 H4 u4 k4 rs4 ru => ?_
    obtain ⟨ys, e4, hl4, q4⟩ := q4
    have kk := (k12.trans k3).trans k4
    obtain ⟨ws, e5, r5⟩ := rs4 p _ e4
    obtain ⟨kp, rs'⟩ := rs4.setLst (xs := ys.set k u) e5 (r5.set ru k)
    have hz : ixN ws.length ((k : Nat) : Int) = some k := by
      unfold ixN
      have := r5.length
      simp
      omega
    exact .inl ⟨p, ws, _, k, rfl, rfl, e5, hz, cl.nx _ _ q4 σ _ (kk.trans kp) (re.keep (kk.trans kp)) rs'⟩

/-! ### dicts -/
def wNewD (t : Nat) : WE := fun _ s Q _ => ∀ p, s p = none → Q (.ref p) (updS s p (.dic t []))
section
variable {X : Cx} {W : WX} {pos : Pos}
theorem je_newK : JE X W (.Dict [] [] pos) (wNewD 0) := PE.imp pe_dnewK fun σ H Q h => by
  obtain ⟨env, s, Q0, E0, re, rs, q, cl, ce⟩ := h
  intro p hp
  have kp : Keep H (upd H p (.dK [])) := Keep.fresh hp
  exact cl _ _ (q p (rs.free hp)) _ _ kp (rs.cell kp (.inl ⟨rfl, _, upd_same, .nil⟩)) (rv_mk_ref _)
theorem je_newT : JE X W (.Dict [] [] pos) (wNewD 1) := PE.imp pe_dnewT fun σ H Q h => by
  obtain ⟨env, s, Q0, E0, re, rs, q, cl, ce⟩ := h
  intro p hp
  have kp : Keep H (upd H p (.dT [])) := Keep.fresh hp
  exact cl _ _ (q p (rs.free hp)) _ _ kp (rs.cell kp (.inr ⟨rfl, _, upd_same, .nil⟩)) (rv_mk_ref _)
theorem RSt.setK {K : PySem.W.Frag} {H : Hp} {s : Store} {p : Addr} {kvs : List (Val × Val)} {ks ks' : List (Key × V)} (rs : RSt K H s) (hp : H p = some (.dK ks)) (r : RKs K H kvs ks') : Keep H (upd H p (.dK ks')) ∧ RSt K (upd H p (.dK ks')) (updS s p (.dic 0 kvs)) := by
  have kp : Keep H (upd H p (.dK ks')) := Keep.at hp ⟨(fun _ z => nomatch z), fun _ _ z => nomatch z⟩
  exact ⟨kp, rs.cell kp (.inl ⟨rfl, _, upd_same, Paired.imp r fun p q z => ⟨z.1, z.2.keep kp⟩⟩)⟩
theorem RSt.newK {K : PySem.W.Frag} {H : Hp} {s : Store} {p : Addr} (rs : RSt K H s) (hp : H p = none) : Keep H (upd H p (.dK [])) ∧ RSt K (upd H p (.dK [])) (updS s p (.dic 0 [])) := by
  have kp : Keep H (upd H p (.dK [])) := Keep.fresh hp
  exact ⟨kp, rs.cell kp (.inl ⟨rfl, _, upd_same, .nil⟩)⟩
theorem RSt.dK {K : PySem.W.Frag} {H : Hp} {s : Store} {p : Addr} {kvs : List (Val × Val)} (rs : RSt K H s) (e : s p = some (.dic 0 kvs)) : ∃ ks, H p = some (.dK ks) ∧ RKs K H kvs ks := by
  rcases rs p _ e with ⟨_, h⟩ | ⟨z, _⟩
  · exact h
  · cases z
/-- {k: e}, one pair -/
def wDisp1 (a b : WE) : WE := fun env s Q E => ∀ p, s p = none → a env (updS s p (.dic 0 [])) (fun x s1 => b env s1 (fun y s2 => (∃ k : Key, x = kVal k) ∧ s2 p = some (.dic 0 []) ∧ Q (.ref p) (updS s2 p (.dic 0 [(x, y)]))) E) E
theorem je_disp1 {e1 e2 : Expr} {a b : WE} (ha : JE X W e1 a) (hb : JE X W e2 b) : JE X W (.Dict [some e1] [e2] pos) (wDisp1 a b) :=
  PE.imp (pe_disp (pps_cons ha hb pps_nil) rfl rfl (by simp) (by simp)) fun σ H Q h => by
    obtain ⟨env, s, Q0, E0, re, rs, q, cl, ce⟩ := h
    intro p hp
    obtain ⟨k0, rs0⟩ := rs.newK hp
    refine ⟨env, _, _, E0, re.keep k0, rs0, q p (rs.free hp), fun x s1 q1 H1 u k1 rs1 rx => ?_, ce.keep k0⟩
    refine ⟨env, s1, _, E0, re.keep (k0.trans k1), rs1, q1, fun y s2 q2 H2 w k2 rs2 ry => ?_, ce.keep (k0.trans k1)⟩
    obtain ⟨⟨k, rfl⟩, e, q2⟩ := q2
    obtain ⟨ks, hk, rk⟩ := rs2.dK e
    cases rk
    refine ⟨hk, [(k, w)], ?_, by simp, ?_⟩
    · rw [rv_key rx]; rfl
    · obtain ⟨k3, rs3⟩ := rs2.setK (kvs := [(kVal k, y)]) (ks' := [(k, w)]) hk (.cons ⟨rfl, ry⟩ .nil)
      exact cl _ _ q2 _ _ (((k0.trans k1).trans k2).trans k3) rs3 (rv_mk_ref _)
def wDc (wi : WI) (t : Tg) (tt : WB) (tk tv : WE) (vs : List Nat) : WE := fun env s Q E => wi env s (fun it s1 => ∀ p, s1 p = none → ∃ (n : Nat) (I : Nat → Store → Prop), I 0 (updS s1 p (.dic 0 [])) ∧ ∀ i s2, I i s2 →
  (it.at_ i s2 = some none ∧ Q (.ref p) s2) ∨ (i < n ∧ ∃ x env3, it.at_ i s2 = some (some x) ∧ t.put x (wipeE env vs) = some env3 ∧ tt env3 s2 (fun b s3 =>
    if b = true then tk env3 s3 (fun y s4 => tv env3 s4 (fun z s5 => ∃ kvs, (∃ k : Key, y = kVal k) ∧ s5 p = some (.dic 0 kvs) ∧ kvs.length < 16777216 ∧ I (i + 1) (updS s5 p (.dic 0 (dput kvs y z)))) (fun _ _ => False)) (fun _ _ => False) else I (i + 1) s3) (fun _ _ => False))) E
theorem je_dc {kx vx tg iter : Expr} {ifs : List Expr} {scope : Scope} {own : List (Str × Nat)} {wi : WI} {t : Tg} {tt : WB} {tk tv : WE} (hc : X.calm = true) (hN : X.N.Nodup) (hi : JI X W tg iter wi) (ok : BlkOk X.N X.env.scope scope own)
    (hv : t.within (own.map (·.2)) = true)
    (hg : ∀ (s : Shared) (H : Hp) (C : Addr) (cl : List (Str × Addr)) (fp : List Addr), JG (X.blk s H scope (compEnvC scope cl C X.env) fp) tg t) (ht : ∀ (s : Shared) (H : Hp) (C : Addr) (cl : List (Str × Addr)) (fp : List Addr), JTs (X.blk s H scope (compEnvC scope cl C X.env) fp) W0 ifs tt)
    (hk : ∀ (s : Shared) (H : Hp) (C : Addr) (cl : List (Str × Addr)) (fp : List Addr), JE (X.blk s H scope (compEnvC scope cl C X.env) fp) W0 kx tk)
    (he : ∀ (s : Shared) (H : Hp) (C : Addr) (cl : List (Str × Addr)) (fp : List Addr), JE (X.blk s H scope (compEnvC scope cl C X.env) fp) W0 vx tv) (hs : ∀ x, foldedSetIterable iter X.env x = pure x := by intro _; rfl) :
    JE X W (.DictComp kx vx [⟨tg, iter, ifs, 0⟩] scope pos) (wDc wi t tt tk tv (own.map (·.2))) :=
  PE.imp (pe_dc (g := t.tg X.K) (tt := tWB X.K W0 tt) (tk := tW X.K W0 tk) (tv := tW X.K W0 tv) hc hN hi ok hg ht hk he hs) fun σ H Q h => by
    obtain ⟨env, s, Q0, E0, re, rs, q, cl, ce⟩ := h
    refine ⟨env, s, _, _, re, rs, q, fun it s1 q1 J H1 k1 rs1 rit => ?_, ce⟩
    intro p hp
    obtain ⟨n, I, i0, turn⟩ := q1 p (rs1.free hp)
    obtain ⟨kp, rs0⟩ := rs1.newK hp
    refine ⟨fun i m H' => m = n - i ∧ Keep H1 H' ∧ ∃ s', RSt X.K H' s' ∧ I i s', ⟨n - 0, rfl, kp, _, rs0, i0⟩, ?_⟩
    rintro i m H2 ⟨rfl, k2, s2, rs2, i2⟩
    have k12 := k1.trans k2
    rcases turn i s2 i2 with ⟨e, q2⟩ | ⟨hlt, x, env3, e, hpt, q2⟩
    · exact .inl ⟨rit.stop i H2 s2 k2 rs2 e, cl _ _ q2 H2 _ k12 rs2 (rv_mk_ref _)⟩
    · refine .inr ⟨rit.go i H2 s2 x k2 rs2 e, fun H' => Keep H1 H' ∧ ∃ s', RSt X.K H' s' ∧ I (i + 1) s', fun H' z => ⟨n - (i + 1), by omega, rfl, z⟩, fun v H3 y => ?_⟩
      obtain ⟨k3, rs3, rv⟩ := rit.yld i H2 s2 x v H3 k2 rs2 e y
      have k13 := k12.trans k3
      refine t.run (vs := own.map (·.2)) rv ((re.keep k13).wipe _) hpt fun σ3 re3 hw => ⟨?_, ?_⟩
      · rw [hw hv]
        apply List.ext_getElem?
        intro j
        rw [wipe_get, wipe_get]
        by_cases hm : j ∈ own.map (·.2)
        · rw [if_pos hm, if_pos hm, wipe_length]
        · rw [if_neg hm, if_neg hm]
      · refine ⟨env3, s2, _, _, re3, rs3, q2, fun b s4 q4 H4 k4 rs4 => ?_, fun _ _ z => z.elim⟩
        cases b with
        | false => exact ⟨(k2.trans k3).trans k4, s4, rs4, q4⟩
        | true =>
          refine ⟨env3, s4, _, _, re3.keep k4, rs4, q4, fun y s5 q5 H5 u5 k5 rs5 ry => ?_, fun _ _ z => z.elim⟩
          refine ⟨env3, s5, _, _, re3.keep (k4.trans k5), rs5, q5, fun z s6 q6 H6 u6 k6 rs6 rz => ?_, fun _ _ z => z.elim⟩
          obtain ⟨kvs, ⟨k, rfl⟩, ha, hl, q6⟩ := q6
          obtain ⟨ks, hk6, rk⟩ := rs6.dK ha
          obtain ⟨k7, rs7⟩ := rs6.setK (kvs := dput kvs (kVal k) z) hk6 (put_k rz rk)
          exact ⟨ks, k, by rw [rv_key ry], hk6, by rw [← Paired.length rk, sizeLine_eq]; exact hl, ((((k2.trans k3).trans k4).trans k5).trans k6).trans k7, _, rs7, q6⟩
end
end Y
set_option Elab.async false
set_option linter.all false
set_option maxRecDepth 100000
set_option maxHeartbeats 4000000
set_option autoImplicit false
/-! Y: fields, classes, own defs, their promises. -/
namespace Y
open PySem PySem.Spec PyProof.Rows L2

/-! ### fields -/
def putV (f : Str) (v : Val) : List (Str × Val) → List (Str × Val)
  | [] => [(f, v)]
  | (g, x) :: r => if g = f then (g, v) :: r else (g, x) :: putV f v r
section
variable {K : PySem.W.Frag} {H : Hp}
theorem rfs_put {f : Str} {x : Val} {v : V} (rv : RV K H x v) : ∀ {fs : List (Str × Val)} {gs : List (Str × V)}, RFs K H fs gs → RFs K H (putV f x fs) (putF f v gs)
  | _, _, .nil => .cons ⟨rfl, rv⟩ .nil
  | _, _, .cons (a := p) (b := q) h t => by
    obtain ⟨g, y⟩ := p
    obtain ⟨g', y'⟩ := q
    obtain ⟨e, r⟩ := h
    have e : g = g' := e
    subst e
    unfold putV putF
    by_cases hg : g = f
    · rw [if_pos hg, if_pos hg]
      exact .cons ⟨rfl, rv⟩ t
    · rw [if_neg hg, if_neg hg]
      exact .cons ⟨rfl, r⟩ (rfs_put rv t)
theorem rfs_look {f : Str} {x : Val} : ∀ {fs : List (Str × Val)} {gs : List (Str × V)}, RFs K H fs gs → fs.lookup f = some x → ∃ v, gs.lookup f = some v ∧ RV K H x v
  | _, _, .nil, e => by cases e
  | _, _, .cons (a := p) (b := q) h t, e => by
    obtain ⟨g, y⟩ := p
    obtain ⟨g', y'⟩ := q
    obtain ⟨e1, r⟩ := h
    have e1 : g = g' := e1
    subst e1
    rw [List.lookup_cons] at e ⊢
    cases hb : f == g with
    | true =>
      rw [hb] at e
      cases e
      exact ⟨_, rfl, r⟩
    | false =>
      rw [hb] at e
      exact rfs_look t e
theorem rfs_none {f : Str} : ∀ {fs : List (Str × Val)} {gs : List (Str × V)}, RFs K H fs gs → fs.lookup f = none → gs.lookup f = none
  | _, _, .nil, e => rfl
  | _, _, .cons (a := p) (b := q) h t, e => by
    obtain ⟨g, y⟩ := p
    obtain ⟨g', y'⟩ := q
    obtain ⟨e1, r⟩ := h
    have e1 : g = g' := e1
    subst e1
    rw [List.lookup_cons] at e ⊢
    cases hb : f == g with
    | true =>
      rw [hb] at e
      cases e
    | false =>
      rw [hb] at e
      exact rfs_none t e
theorem RSt.insAt {s : Store} {p : Addr} {C : Addr} {fs : List (Str × Val)} (rs : RSt K H s) (e : s p = some (.ins C fs)) : ∃ dx gs, H p = some (.ins C dx gs) ∧ RFs K H fs gs := rs p _ e
end
def wFld (C : Addr) (f : Str) (a : WE) : WE := fun env s Q E => a env s (fun x s1 => ∃ p fs v, x = .ref p ∧ s1 p = some (.ins C fs) ∧ fs.lookup f = some v ∧ Q v s1) E
section
variable {X : Cx} {W : WX} {C : Addr} {f : Str} {e o : Expr} {a wo : WE} {pos pos' : Pos}
theorem je_fld (c : Cls X.K C) (n : NoAttr X.K C f) (ha : JE X W e a) (hb : attributeBase e f X.env (eval e X.env) = eval e X.env := by rfl) : JE X W (.Attribute e f pos) (wFld C f a) :=
  PE.imp (pe_fld ha hb) fun σ H Q h => by
    obtain ⟨env, s, Q0, E0, re, rs, q, cl, ce⟩ := h
    refine ⟨env, s, _, E0, re, rs, q, fun x s1 q1 H1 u k1 rs1 rx => ?_, ce⟩
    obtain ⟨p, fs, v, rfl, e1, hl, q1⟩ := q1
    obtain ⟨dx, gs, h1, h2⟩ := rs1.insAt e1
    obtain ⟨w, hw, rw'⟩ := rfs_look h2 hl
    exact ⟨p, C, dx, gs, w, rv_ref rx, h1, c, n, hw, cl _ _ q1 H1 _ k1 rs1 rw'⟩
/-- o.f = e -/
def wSetF (C : Addr) (f : Str) (wo a : WE) : WS := fun D env s => a env s (fun y s1 => wo env s1 (fun x s2 => ∃ p fs, x = .ref p ∧ s2 p = some (.ins C fs) ∧ fs.length < 1000 ∧ D.nx env (updS s2 p (.ins C (putV f y fs)))) (fun x s1 => D.ex x env s1)) (fun x s1 => D.ex x env s1)
theorem js_setF (c : Cls X.K C) (n : NoAttr X.K C f) (ho : JE X W o wo) (he : JE X W e a) (hs : swapsWith e (some (.Attribute o f pos')) pos.line X.env = pure false := by rfl) : JS X W (.Assign [.Attribute o f pos'] e pos) (wSetF C f wo a) :=
  PS.imp (ps_fld ho he hs) fun D σ H h => by
    obtain ⟨env, s, D0, re, rs, q, cl⟩ := h
    refine ⟨env, s, _, _, re, rs, q, fun y s1 q1 H1 u1 k1 rs1 ry => ?_, cl.clE re (Keep.refl H)⟩
    refine ⟨env, s1, _, _, re.keep k1, rs1, q1, fun x s2 q2 H2 u2 k2 rs2 rx => ?_, cl.clE (re.keep k1) k1⟩
    obtain ⟨p, fs, rfl, e1, hl, q2⟩ := q2
    obtain ⟨dx, gs, h1, h2⟩ := rs2.insAt e1
    have kp : Keep H2 (upd H2 p (.ins C dx (putF f u1 gs))) := Keep.at h1 ⟨(fun _ z => nomatch z), fun _ _ z => nomatch z⟩
    refine ⟨p, C, dx, gs, rv_ref rx, h1, c, n, by rw [← Paired.length h2]; exact hl, ?_⟩
    have kk := (k1.trans k2).trans kp
    exact cl.nx _ _ q2 σ _ kk (re.keep kk) (rs2.cell kp ⟨dx, _, upd_same, Paired.imp (rfs_put (ry.keep k2) h2) fun p q z => ⟨z.1, z.2.keep kp⟩⟩)
/-- C.f, a constant of the class -/
theorem je_cval {mc u : Value} {v : Val} {w : V} {x : Str} (hg : Gl X x) (hm : X.mg x = some (.ref C)) (rd : ClX.CRead X.K C mc) (cv : ClX.CVal X.K C mc f w u) (r : ∀ H, RV X.K H v w) (hd : (x == ("__debug__" : Str)) = false := by decide)
    (hb : attributeBase (.Name x pos') f X.env (eval (.Name x pos') X.env) = eval (.Name x pos') X.env := by rfl) : JE X W (.Attribute (.Name x pos') f pos) (wC v) :=
  PE.imp (ClX.pe_cval (pe_glob (v := .ref C) hg hm rfl hd) hb) fun σ H Q h => by
    obtain ⟨env, s, Q0, E0, re, rs, q, cl, ce⟩ := h
    exact ⟨C, mc, w, u, rfl, rd, cv, cl _ _ q H _ (Keep.refl H) rs (r H)⟩
end

/-! ### own defs -/
abbrev PT := List Val → Store → QV → QE → Prop
def spP (K : PySem.W.Frag) (n : Nat) (p : PT) : Sp := fun vs H Q E => vs.length = n ∧ ∃ xs s Q0 E0, RVs K H xs vs ∧ RSt K H s ∧ p xs s Q0 E0 ∧ Cl K H Q0 Q ∧
  ∀ x s', E0 x s' → ∀ H' d, Keep H H' → RSt K H' s' → RX K H' x d → E (.ref x.cls) d H'
structure CalP (P : Program) (w : World) (K : PySem.W.Frag) (mg : Str → Option Value) (base : Heap) (k : Nat) (x : Str) (n : Nat) (p : PT) : Prop where
  ex : ∃ (f : Addr) (fd : FuncData) (ps : List Str), ps.length = n ∧ FnOk P w K mg base (L2.CX P w) k f fd ps (spP K n p) ∧ mg x = some (.ref f) ∧ PySem.W.keepIn K (.ref f) = true ∧ Binds K fd ps []
theorem CalP.mono {P : Program} {w : World} {K : PySem.W.Frag} {mg : Str → Option Value} {base : Heap} {j k : Nat} {x : Str} {n : Nat} {p : PT} (c : CalP P w K mg base j x n p) (h : j ≤ k) : CalP P w K mg base k x n p := by
  obtain ⟨f, fd, ps, hl, F, hm, hk, hb⟩ := c.ex
  exact ⟨f, fd, ps, hl, F.mono h, hm, hk, hb⟩
/-- a method of the class at C -/
structure MetP (P : Program) (w : World) (K : PySem.W.Frag) (mg : Str → Option Value) (base : Heap) (k : Nat) (C : Addr) (m : Str) (n : Nat) (p : PT) : Prop where
  ex : ∃ (f : Addr) (fd : FuncData) (ps : List Str), ps.length = n ∧ FnOk P w K mg base (L2.CX P w) k f fd ps (spP K n p) ∧ Meth K C m f ∧ Binds K fd ps []
/-- a class that is made -/
structure MakP (P : Program) (w : World) (K : PySem.W.Frag) (mg : Str → Option Value) (base : Heap) (k : Nat) (x : Str) (C : Addr) (n : Nat) (p : PT) : Prop where
  ex : ∃ (f : Addr) (fd : FuncData) (ps : List Str), ps.length = n ∧ FnOk P w K mg base (L2.CX P w) k f fd ps (spP K n p) ∧ mg x = some (.ref C) ∧ Mk K C f ∧ Binds K fd ps []
def wCallF (n : Nat) (p : PT) (a : WA) : WE := fun env s Q E => a env s (fun xs s1 => xs.length = n ∧ p xs s1 Q E) E
def wMethF (C : Addr) (m : Str) (n : Nat) (p : PT) (o : WE) (a : WA) : WE := fun env s Q E => o env s (fun x s1 => ∃ q fs, x = .ref q ∧ s1 q = some (.ins C fs) ∧ fs.lookup m = none ∧ a env s1 (fun xs s2 => xs.length + 1 = n ∧ p (x :: xs) s2 Q E) E) E
def wMakeF (C : Addr) (n : Nat) (p : PT) (a : WA) : WE := fun env s Q E => a env s (fun xs s1 => xs.length + 1 = n ∧ ∀ q, s1 q = none → p (.ref q :: xs) (updS s1 q (.ins C [])) (fun v s2 => v = .non ∧ Q (.ref q) s2) E) E
section
variable {X : Cx} {W : WX} {k n : Nat} {x m : Str} {p pos apos : Pos} {C : Addr} {q : PT} {e o : Expr} {es : List Expr} {wa : WA} {wo : WE}
theorem je_call (c : CalP X.prog X.w X.K X.mg X.base k x n q) (hr : Room k X.A) (hg : Gl X x) (tk : Takes X W) (ha : JA X W (e :: es) wa) (hdb : (x == ("__debug__" : Str)) = false := by decide)
    (he : starEach (e :: es) X.env = (false, eval e X.env) :: starEach es X.env := by rfl) (hpl : (backTo pos (starEach es X.env)).any (·.1) = false := by rfl) : JE X W (.Call (.Name x p) (e :: es) [] pos) (wCallF n q wa) := by
  obtain ⟨f, fd, ps, hl, F, hm, hk, hb⟩ := c.ex
  refine PE.imp (pe_callSD (E := L2.WE W) F hr hg hm hk hb .nil (passAt tk) ha hdb he hpl) fun σ H Q h => ?_
  obtain ⟨env, s, Q0, E0, re, rs, qq, cl, ce⟩ := h
  refine ⟨env, s, _, E0, re, rs, qq, fun xs s1 q1 H1 us k1 rs1 rx => ?_, ce⟩
  show spP X.K n q (us ++ []) H1 Q (L2.WE W σ)
  rw [List.append_nil]
  exact ⟨by rw [← rx.length]; exact q1.1, xs, s1, Q0, E0, rx, rs1, q1.2, Cl.keep cl k1, fun y s' z H' d kk rs' rx' => ce.keep k1 y s' z H' d kk rs' rx'⟩
end
section
variable {X : Cx} {E : XK} {k n : Nat} {x m : Str} {p pos apos : Pos} {C : Addr} {q : PT} {e o : Expr} {es : List Expr} {wa : WA} {wo : WE}
abbrev WK (E : XK) : WX := fun c d _ H => E c d H
theorem passK {W : WX} (tk : Takes X (WK E)) : Passes (L2.CX X.prog X.w) X E := fun pins σ H s e s' I c => passAt tk σ pins H s e s' I c
theorem je_meth {pl : Sem Bool} (c : Cls X.K C) (mp : MetP X.prog X.w X.K X.mg X.base k C m n q) (hr : Room k X.A) (tk : Takes X (WK E)) (ho : JE X (WK E) o wo) (ha : JA X (WK E) (e :: es) wa)
    (hst : starEach (e :: es) X.env = (false, eval e X.env) :: starEach es X.env := by rfl) (hpl : (backTo pos (starEach es X.env)).any (·.1) = false := by rfl)
    (ht : eval (.Call (.Attribute o m apos) (e :: es) [] pos) X.env = (do
      let ov ← eval o X.env
      standAt apos.atName
      let (f, first) ← holding [ov] (getMethod ov m pl)
      callWith pos f first (backTo pos (starEach (e :: es) X.env)) (backToKw pos (keywordEach [] X.env))) := by rfl) : JE X (WK E) (.Call (.Attribute o m apos) (e :: es) [] pos) (wMethF C m n q wo wa) := by
  obtain ⟨f, fd, ps, hl, F, hm, hb⟩ := mp.ex
  refine PE.imp (pe_meth (E := E) ho c hm F hr hb .nil (passK (W := WK E) tk) ha hst hpl ht) fun σ H Q h => ?_
  obtain ⟨env, s, Q0, E0, re, rs, qq, cl, ce⟩ := h
  refine ⟨env, s, _, E0, re, rs, qq, fun v s1 q1 H1 u k1 rs1 rx => ?_, ce⟩
  obtain ⟨a, fs, rfl, e1, hl, q1⟩ := q1
  obtain ⟨dx, gs, h1, h2⟩ := rs1.insAt e1
  refine ⟨a, dx, gs, rv_ref rx, h1, rfs_none h2 hl, env, s1, _, E0, re.keep k1, rs1, q1, fun xs s2 q2 H2 us k2 rs2 rxs => ?_, ce.keep k1⟩
  show spP X.K n q (u :: (us ++ [])) H2 Q E
  rw [List.append_nil]
  exact ⟨by rw [List.length_cons, ← rxs.length]; exact q2.1, .ref a :: xs, s2, Q0, E0, RVs.cons (rx.keep k2) rxs, rs2, q2.2, Cl.keep (Cl.keep cl k1) k2, fun y s' z H' d kk rs' rx' => (ce.keep (k1.trans k2)) y s' z H' d kk rs' rx'⟩
theorem je_make (mp : MakP X.prog X.w X.K X.mg X.base k x C n q) (hr : Room (k + 1) X.A) (hg : Gl X x) (tk : Takes X (WK E)) (ha : JA X (WK E) (e :: es) wa) (hdb : (x == ("__debug__" : Str)) = false := by decide)
    (he : starEach (e :: es) X.env = (false, eval e X.env) :: starEach es X.env := by rfl) (hpl : (backTo pos (starEach es X.env)).any (·.1) = false := by rfl) : JE X (WK E) (.Call (.Name x p) (e :: es) [] pos) (wMakeF C n q wa) := by
  obtain ⟨f, fd, ps, hl, F, hm, M, hb⟩ := mp.ex
  refine PE.imp (pe_make (E := E) M F hr hg hm hb .nil (passK (W := WK E) tk) ha hdb he hpl) fun σ H Q h => ?_
  obtain ⟨env, s, Q0, E0, re, rs, qq, cl, ce⟩ := h
  refine ⟨env, s, _, E0, re, rs, qq, fun xs s1 q1 H1 us k1 rs1 rx => ?_, ce⟩
  intro a dx na ndx ne
  have ka : Keep H1 (upd (upd H1 dx (.own a)) a (.ins C dx [])) := (Keep.fresh ndx).trans (Keep.fresh (by rw [upd_ne (fun z => ne z.symm)]; exact na))
  have rs2 : RSt X.K (upd (upd H1 dx (.own a)) a (.ins C dx [])) (updS s1 a (.ins C [])) := by
    have r1 : RSt X.K (upd H1 dx (.own a)) s1 := rs1.fresh ndx
    exact r1.cell (Keep.fresh (by rw [upd_ne (fun z => ne z.symm)]; exact na)) ⟨dx, [], upd_same, .nil⟩
  rw [List.append_nil]
  refine ⟨by rw [List.length_cons, ← rx.length]; exact q1.1, .ref a :: xs, _, _, E0, RVs.cons (rv_mk_ref _) (rx.keep ka), rs2, q1.2 a (rs1.free na), ?_, fun y s' z H' d kk rs' rx' => (ce.keep (k1.trans ka)) y s' z H' d kk rs' rx'⟩
  intro v s' q2 H' u kk rs' rv
  obtain ⟨rfl, q2⟩ := q2
  rw [RV] at rv
  exact ⟨rv, cl _ _ q2 H' _ ((k1.trans ka).trans kk) rs' (rv_mk_ref _)⟩
end

/-! ### a def keeps its promise -/
def startE (N : Nat) (xs : List Val) : Env := xs.map some ++ List.replicate (N - xs.length) none
theorem renv_start {K : PySem.W.Frag} {H : Hp} {N : List Str} {xs : List Val} {vs : List V} (r : RVs K H xs vs) : REnv K H (startE N.length xs) (L2.start N vs) := by
  have hl := r.length
  refine ⟨by simp [startE, L2.start, hl], fun i v e => ?_⟩
  unfold startE at e
  unfold L2.start
  by_cases hi : i < xs.length
  · rw [List.getElem?_append_left (by simpa using hi), List.getElem?_map] at e
    rw [List.getElem?_append_left (by simpa using (by omega : i < vs.length)), List.getElem?_map]
    cases hx : xs[i]? with
    | none => rw [hx] at e; cases e
    | some x =>
      rw [hx] at e
      cases e
      obtain ⟨u, hu, ru⟩ := r.get hx
      exact ⟨u, by rw [hu]; rfl, ru⟩
  · rw [List.getElem?_append_right (by simpa using hi), List.getElem?_replicate] at e
    split at e <;> cases e
/-- the ends of a def's body -/
def DF (Q0 : QV) (E0 : QE) : DE := { nx := fun _ s => Q0 .non s, rt := Q0, bk := fun _ _ => False, ct := fun _ _ => False, ex := fun x _ s => E0 x s }
section
variable {P : Program} {w : World} {K : PySem.W.Frag} {mg : Str → Option Value} {base : Heap}
theorem fn_p {x qual : Str} {st : Stmt} {f : Addr} {fd : FuncData} {N ps : List Str} {k n : Nat} {q : PT} (F : Fun K x qual st f fd) (S : FnScope N ps (defScope st)) (hn : ps.length = n)
    (hbody : ∀ (cdv : Value) (A : Around) (outer : List PySem.Env) (s : Shared) (H : Hp) (E : XK), Room k (A.deeper (envOfC qual (defScope st) s.heap.objs.size f cdv)) → Takes (cxOf (L2.CX P w) P w K mg base N qual (defScope st) f cdv A outer s H E) (WK E) →
      ∃ b, JB (cxOf (L2.CX P w) P w K mg base N qual (defScope st) f cdv A outer s H E) (WK E) (defBody st) b ∧ ∀ xs s0 Q0 E0, xs.length = n → q xs s0 Q0 E0 → b (DF Q0 E0) (startE N.length xs) s0) :
    FnOk P w K mg base (L2.CX P w) (k + 1) f fd ps (spP K n q) := by
  refine F.okX S (fun vs H Q E h => by rw [hn]; exact h.1) fun cdv A outer s H vs Q E hr h => ?_
  obtain ⟨b, hb, hq⟩ := hbody cdv A outer s H E hr (takes_of rfl rfl rfl rfl)
  obtain ⟨hl, xs, s0, Q0, E0, rx, rs, h, cl, ce⟩ := h
  refine ⟨_, hb, startE N.length xs, s0, DF Q0 E0, renv_start rx, rs, hq xs s0 Q0 E0 (by rw [rx.length]; exact hl) h, ⟨fun env s' z σ H' k re rs' => ?_, fun v s' z H' u k rs' rv => ?_, fun env s' z => z.elim, fun env s' z => z.elim, fun y env s' z σ H' d k re rs' rx' => ?_⟩⟩
  · exact cl _ _ z H' _ k rs' rv_mk_non
  · exact cl _ _ z H' _ k rs' rv
  · exact ce y s' z H' d k rs' rx'
end
end Y
set_option Elab.async false
set_option linter.all false
set_option maxRecDepth 100000
set_option maxHeartbeats 4000000
set_option autoImplicit false
/-! Y: keys of a dict, isinstance, sorted tuples, tuple(range(n)). -/
namespace Y
open PySem PySem.Spec PyProof.Rows L2

/-! ### list(d.keys()), keys are tuples -/
def keysO (p d : Addr) : HO := .ext fun h => PySem.W.KdlKeysView h p d
theorem keysO_ok {P : Program} {w : World} {H : Hp} {h : Heap} {p d : Addr} (e : h.get? p = some { cls := .type "dict_keys", data := .fields #[.ref d] }) : ObjOk P w H h p (keysO p d) :=
  ⟨⟨_, e, rfl, rfl⟩, ⟨_, e⟩, fun h1 h2 x k => let ⟨o, ho, r⟩ := x; ⟨o, k o ho, r⟩⟩
section
variable {prog : Program} {w : World} {A : Around} {E : Value → Shared → Prop} {s : Shared}
theorem call_keys {d : Addr} {es : Array DictEntry} {ep : Nat} {o : Obj} {Q : Value → Shared → Prop} (hd : (d == sysModules) = false) (ho : s.heap.get? d = some o) (hx : o.ExactDict) (hdt : o.data = .dict es ep)
    (h : Q (.ref s.heap.objs.size) { s with heap := s.heap.push { cls := .type "dict_keys", data := .fields #[.ref d] } }) : wpAny (model prog w) A (call (.builtin "dict.keys") [.ref d]) Q E s := by
  have ty : s.TypeIs (.ref d) "dict" := ⟨o, ho, hx.1⟩
  refine wpAny_call_entry PySem.F.slot_dict_keys ty PySem.F.entry_dict_keys ?_ (PySem.F.args_dict_keys_1 _)
  unfold Builtin.«dict.keys»
  refine wpAny_bind ?_
  unfold Builtin.Dict.noArgs
  refine wpAny_bind (wpAny_notOrdered_dict ty ?_)
  show wpAny _ _ (pure d) _ _ s
  refine wpAny_pure ?_
  show wpAny _ _ (Builtin.Dict.showsAll d >>= _) _ _ s
  unfold Builtin.Dict.showsAll
  rw [if_neg (by rw [hd]; exact Bool.false_ne_true)]
  refine wpAny_bind (wpAny_pure ?_)
  exact wpAny_bind (wpAny_newObj_type (wpAny_pure ⟨_, rfl, h⟩))
end
section
variable {X : Cx}
def rKeysT : V → List V → Hp → VK → Prop := fun x xs H Q => ∃ (a : Addr) (kvs : List (List L2.Key × V)), x = .ref a ∧ xs = [] ∧ H a = some (.dT kvs) ∧ ∀ p, H p = none → Q (.ref p) (upd H p (keysO p a))
theorem mt_keysT : MtR X "dict.keys" rKeysT := by
  intro pins s σ H x xs v us Q I rx rxs h
  obtain ⟨a, kvs, rfl, rfl, ha, q⟩ := h
  cases rx
  cases rxs
  obtain ⟨z, hd, xs', rel, o, es, ep, ho, hx, hdat, _⟩ := dt_of I.hok ha
  refine call_keys hd ho hx hdat ?_
  exact ⟨.ref s.heap.objs.size, upd H s.heap.objs.size (keysO s.heap.objs.size a), I.laid (t' := s.toks) (fun b u e => Heap.get?_push_of_some _ e) (Nat.le_refl _) (keysO_ok (Heap.get?_push_size _ rfl)), rfl, q _ (I.hok.fresh (Nat.le_refl _))⟩
def rListKeys : List V → Hp → VK → Prop := fun xs H Q => ∃ v d kvs, xs = [V.ref v] ∧ H v = some (keysO v d) ∧ H d = some (.dT kvs) ∧ ∀ p bs, H p = none → IsKeys H kvs bs → Q (.ref p) (upd H p (.lst (bs.map V.ref)))
theorem call_listKeys (hc : X.calm = true) : CallR X (.type "list") rListKeys := by
  intro pins s σ H xs us Q I r h
  obtain ⟨v, d, kvs, rfl, hv, hd, q⟩ := h
  obtain ⟨u, rfl, rx⟩ := r.one
  cases rx
  have view : PySem.W.KdlKeysView s.heap v d := (show ObjOk X.prog X.w H s.heap v (keysO v d) from I.hok v _ hv).1
  obtain ⟨z, hs, ks, pr, o, es, ep, ho, hx, hdt, he, hn⟩ := (show ObjOk X.prog X.w H s.heap d (.dT kvs) from I.hok d _ hd)
  have l1 : es.size = ks.length := size_of_entries he
  have l2 : kvs.length = ks.length := Paired.length pr
  refine PySem.W.kdl_call (PySem.KdlSrc.rawKeys (r := v) (d := d) (es := es) (ep := ep)) (I.ok.hd hc) ⟨view, o, ho, hx, hdt⟩ (by omega) fun h' tk acc' c' kp e it => ?_
  have ea : acc'.toList = (ks.map fun x => x.2.1).map Value.ref := by
    apply List.ext_getElem?
    intro j
    rw [List.getElem?_map, List.getElem?_map]
    by_cases hj : j < ks.length
    · have hj' : j < acc'.size := by rw [it.1]; omega
      obtain ⟨hi, hv2⟩ := it.2 j acc'[j] (Array.getElem?_eq_getElem hj')
      have qe := entry_at he j
      rw [Array.getElem?_eq_getElem hi, List.getElem?_eq_getElem hj] at qe
      have e2 := Option.some.inj qe
      rw [Array.getElem?_toList, Array.getElem?_eq_getElem hj', List.getElem?_eq_getElem hj, hv2, e2]
      rfl
    · have h0 : acc'.toList.length = es.size := by rw [Array.length_toList]; exact it.1
      rw [List.getElem?_eq_none (by omega), List.getElem?_eq_none (by omega)]
      rfl
  have rv : Vals ((ks.map fun x => x.2.1).map V.ref) acc'.toList := by rw [ea]; exact vals_refs _
  refine ⟨.ref s.heap.objs.size, _, I.laid (t' := tk) (o := .lst ((ks.map fun x => x.2.1).map V.ref)) kp (Nat.le_refl _) ?_, rfl, q _ _ (I.hok.fresh (Nat.le_refl _)) (isKeys_of pr)⟩
  exact ⟨by rw [List.length_map, List.length_map]; omega, acc'.toList, c', rv, by rw [Array.toArray_toList]; exact e⟩
end
section
variable {X : Cx} {W : WX} {e : Expr} {a b : WE} {wa : WA} {pos p cp ap : Pos} {k : Nat}
theorem keys_rv {K : PySem.W.Frag} {H : Hp} : ∀ {kvs : List (Val × Val)} {ks : List (List Key × V)} {bs : List Addr}, RTs K H kvs ks → IsKeys H ks bs → RVs K H (kvs.map (·.1)) (bs.map V.ref)
  | _, _, _, .nil, .nil => RVs.nil
  | _, _, _, .cons (a := x) (b := y) h t, .cons h' t' => by
    rw [List.map_cons, List.map_cons]
    refine RVs.cons ?_ (keys_rv t t')
    rw [h.1, RV]
    exact ⟨_, _, rfl, h', rv_keys y.1⟩
where rv_keys : ∀ ks : List Key, RVs K H (ks.map kVal) (ks.map kV)
  | [] => RVs.nil
  | k :: ks => by
    rw [List.map_cons, List.map_cons]
    refine RVs.cons ?_ (rv_keys ks)
    cases k <;> simp [kVal, kV, RV]
def wKeys (a : WE) : WE := fun env s Q E => a env s (fun x s1 => ∃ d kvs, x = .ref d ∧ s1 d = some (.dic 1 kvs) ∧ ∀ q, s1 q = none → Q (.ref q) (updS s1 q (.lst (kvs.map (·.1))))) E
theorem je_listKeys (hc : X.calm = true) (hg : Gl X "list") (hm : X.mg "list" = none) (ha : JE X W e a)
    (hbase : attributeBase e "keys" X.env (eval e X.env) = eval e X.env := by rfl) (hline : (ap.endLine == cp.line) = true := by rfl)
    (he : starEach [.Call (.Attribute e "keys" ap) [] [] cp] X.env = (false, eval (.Call (.Attribute e "keys" ap) [] [] cp) X.env) :: starEach [] X.env := by rfl) (hpl : (backTo pos (starEach [] X.env)).any (·.1) = false := by rfl) :
    JE X W (.Call (.Name "list" p) [.Call (.Attribute e "keys" ap) [] [] cp] [] pos) (wKeys a) :=
  PE.imp (pe_callTy (call_listKeys hc) hg hm (by decide +kernel) (pa_cons (pe_bm0 PySem.F.plainAttrs_dict PySem.F.slot_dict_keys PySem.F.type_dict_keys mt_keysT ha hbase hline) pa_nil he) (by decide) (by decide) he hpl) fun σ H Q h => by
    obtain ⟨env, s, Q0, E0, re, rs, q, cl, ce⟩ := h
    refine ⟨env, s, _, E0, re, rs, q, fun x s1 q1 H1 u k1 rs1 rx => ?_, ce⟩
    obtain ⟨d, kvs, rfl, ed, q1⟩ := q1
    rw [rv_ref rx]
    rcases rs1 d _ ed with ⟨z, _⟩ | ⟨_, ks, h1, h2⟩
    · cases z
    refine ⟨.inr (.inr (.inl ⟨rfl, .inr ⟨_, h1⟩⟩)), d, ks, rfl, rfl, h1, fun v hv => ?_⟩
    have kv : Keep H1 (upd H1 v (keysO v d)) := Keep.fresh hv
    have hne : d ≠ v := fun z => by rw [z, hv] at h1; cases h1
    refine ⟨v, d, ks, rfl, upd_same, by rw [upd_ne hne]; exact h1, fun q bs hq hk => ?_⟩
    have hq1 : H1 q = none := by
      by_cases z : q = v
      · rw [z, upd_same] at hq; cases hq
      · rw [upd_ne z] at hq; exact hq
    have r2 : RVs X.K (upd H1 v (keysO v d)) (kvs.map (·.1)) (bs.map V.ref) := keys_rv (Paired.imp h2 fun a b z => ⟨z.1, z.2.keep kv⟩) hk
    exact cl _ _ (q1 q (rs1.free hq1)) _ _ ((k1.trans kv).trans (Keep.fresh hq)) ((rs1.fresh hv).newLst hq r2) (rv_mk_ref _)
end

/-! ### isinstance -/
def tyName (s : Store) : Val → Option String
  | .non => some "NoneType"
  | .bl _ => some "bool"
  | .int _ => some "int"
  | .str _ => some "str"
  | .tup _ => some "tuple"
  | .ref a => match s a with
    | some (.lst _) => some "list"
    | some (.dic _ _) => some "dict"
    | _ => none
  | _ => none
theorem tyName_of {K : PySem.W.Frag} {H : Hp} {s : Store} {x : Val} {v : V} {t : String} (rs : RSt K H s) (r : RV K H x v) (h : tyName s x = some t) : TyOf K H v (.type t) := by
  cases x with
  | non => cases h; rw [RV] at r; subst r; exact .non
  | bl b => cases h; rw [RV] at r; subst r; exact .bl b
  | int i => cases h; rw [RV] at r; subst r; exact .int i
  | str z => cases h; rw [RV] at r; subst r; exact .str z
  | tup xs =>
    cases h
    rw [RV] at r
    obtain ⟨a, vs, rfl, ha, _⟩ := r
    exact .tup ha
  | ref a =>
    rw [rv_ref r]
    unfold tyName at h
    simp only at h
    split at h
    · rename_i xs e
      cases h
      obtain ⟨vs, e1, _⟩ := rs a _ e
      exact .lst e1
    · rename_i t kvs e
      cases h
      rcases rs a _ e with ⟨_, ks, h1, _⟩ | ⟨_, ks, h1, _⟩
      · exact .dK h1
      · exact .dT h1
    · cases h
  | scr _ => cases h
  | ty _ => cases h
def isiB (t n : String) : Bool := t == n || (t == "bool" && n == "int")
def cIsi : OC := fun xs s Q => ∃ x n t, xs = [x, .ty n] ∧ tyName s x = some t ∧ kitB t n = some (isiB t n) ∧ Q (.bl (isiB t n)) s
theorem calls_isi {K : PySem.W.Frag} : CallS K (rIsi K) cIsi := by
  intro xs s H vs Q0 Q rs rv h cl
  obtain ⟨x, n, t, rfl, ht, hk, q⟩ := h
  obtain ⟨v, w, rfl, rx, ry⟩ := rv.two
  rw [RV] at ry
  subst ry
  exact ⟨v, .ty n, .type t, .type n, isiB t n, rfl, .ty n, .base (tyName_of rs rx ht), kit_ty hk, cl _ _ q H _ (Keep.refl H) rs (rv_mk_bl _)⟩
section
variable {X : Cx} {W : WX} {pos p : Pos} {x : Str} {n : String} {es : List Expr} {e : Expr} {wa : WA}
theorem je_tyn (hg : Gl X x) (hm : X.mg x = none) (hv : bootBuiltins x = some (.type n)) (hn : x ≠ "__name__" := by decide) (hd : (x == ("__debug__" : Str)) = false := by decide) : JE X W (.Name x pos) (wC (.ty n)) :=
  je_const (pe_bltn (v := .ty n) hg hm hv rfl hn hd) fun H => by rw [RV]
end

/-! ### sorted: tuples of whole numbers -/
theorem RVs.perm {K : PySem.W.Frag} {H : Hp} {vs ws : List V} (p : vs.Perm ws) : ∀ {xs : List Val}, RVs K H xs vs → ∃ ys, xs.Perm ys ∧ RVs K H ys ws := by
  induction p with
  | nil => exact fun r => ⟨_, .refl _, r⟩
  | cons v _ ih =>
    intro xs r
    cases xs with
    | nil => rw [RVs] at r; cases r
    | cons x xs =>
      rw [RVs] at r
      obtain ⟨_, _, e, r1, r2⟩ := r
      cases e
      obtain ⟨ys, p, r⟩ := ih r2
      exact ⟨x :: ys, p.cons x, RVs.cons r1 r⟩
  | swap a b l =>
    intro xs r
    cases xs with
    | nil => rw [RVs] at r; cases r
    | cons x xs =>
      rw [RVs] at r
      obtain ⟨_, _, e, r1, r2⟩ := r
      cases e
      cases xs with
      | nil => rw [RVs] at r2; cases r2
      | cons y ys =>
        rw [RVs] at r2
        obtain ⟨_, _, e, r3, r4⟩ := r2
        cases e
        exact ⟨y :: x :: ys, .swap y x ys, RVs.cons r3 (RVs.cons r1 r4)⟩
  | trans _ _ ih1 ih2 =>
    intro xs r
    obtain ⟨ys, p1, r1⟩ := ih1 r
    obtain ⟨zs, p2, r2⟩ := ih2 r1
    exact ⟨zs, p1.trans p2, r2⟩
def vT (ns : List Int) : Val := .tup (ns.map Val.int)
def unI : Val → Int
  | .int i => i
  | _ => 0
def unT : Val → List Int
  | .tup xs => xs.map unI
  | _ => []
theorem unT_vT (ns : List Int) : unT (vT ns) = ns := by
  show (ns.map Val.int).map unI = ns
  rw [List.map_map]
  exact List.map_id'' (fun _ => rfl) ns
theorem vT_inj {a b : List Int} (h : vT a = vT b) : a = b := by rw [← unT_vT a, h, unT_vT]
theorem perm_vT {ts : List (List Int)} {ys : List Val} (h : (ts.map vT).Perm ys) : ts.Perm (ys.map unT) ∧ ys = (ys.map unT).map vT := by
  constructor
  · have := h.map unT
    rw [List.map_map] at this
    rwa [List.map_congr_left (f := unT ∘ vT) (g := id) (fun a _ => unT_vT a), List.map_id] at this
  · rw [List.map_map]
    symm
    rw [List.map_congr_left (g := id), List.map_id]
    intro y hy
    obtain ⟨t, _, rfl⟩ := List.mem_map.mp (h.mem_iff.mpr hy)
    show vT (unT (vT t)) = vT t
    rw [unT_vT]
theorem rv_vT {K : PySem.W.Frag} {H : Hp} {ns : List Int} {v : V} (r : RV K H (vT ns) v) : TupI K H v ns := by
  unfold vT at r
  rw [RV] at r
  obtain ⟨a, vs, rfl, ha, rs⟩ := r
  rw [RVs.ints rs] at ha
  exact ⟨a, rfl, SqT.tup ha⟩
theorem rvs_vT {K : PySem.W.Frag} {H : Hp} {d : Nat} {B : Int} : ∀ {ts : List (List Int)} {vs : List V}, (∀ t ∈ ts, t.length = d ∧ TS.Bd B t) → RVs K H (ts.map vT) vs → ∀ x ∈ vs, ∃ ns, TupI K H x ns ∧ ns.length = d ∧ TS.Bd B ns
  | [], _, _, r => by
    rw [List.map_nil, RVs] at r
    subst r
    exact fun x h => nomatch h
  | t :: ts, _, ht, r => by
    rw [List.map_cons, RVs] at r
    obtain ⟨v, w, rfl, r1, r2⟩ := r
    intro x hx
    rcases List.mem_cons.mp hx with rfl | hx
    · exact ⟨t, rv_vT r1, ht t List.mem_cons_self⟩
    · exact rvs_vT (fun t h => ht t (List.mem_cons_of_mem _ h)) r2 x hx
/-- ordered by their codes in base B -/
def cSortT (d : Nat) (B : Int) : OC := fun xs s Q => ∃ (a : Addr) (ts : List (List Int)), xs = [.ref a] ∧ s a = some (.lst (ts.map vT)) ∧ ts.length < 64 ∧ (∀ t ∈ ts, t.length = d ∧ TS.Bd B t) ∧
  ∀ (p : Addr) (us : List (List Int)), us.Perm ts → us.Pairwise (fun n m => TS.code B n ≤ TS.code B m) → s p = none → Q (.ref p) (updS s p (.lst (us.map vT)))
theorem pw_vT {K : PySem.W.Frag} {H : Hp} {B : Int} : ∀ {us : List (List Int)} {vs : List V}, RVs K H (us.map vT) vs → vs.Pairwise (fun x y => ∀ n m, TupI K H x n → TupI K H y m → TS.code B n ≤ TS.code B m) → us.Pairwise (fun n m => TS.code B n ≤ TS.code B m)
  | [], _, _, _ => .nil
  | t :: ts, _, r, h => by
    rw [List.map_cons, RVs] at r
    obtain ⟨v, w, rfl, r1, r2⟩ := r
    rw [List.pairwise_cons] at h ⊢
    refine ⟨fun m hm => ?_, pw_vT r2 h.2⟩
    obtain ⟨i, hi⟩ := List.mem_iff_getElem?.mp hm
    obtain ⟨u, hu, ru⟩ := r2.get (i := i) (x := vT m) (by rw [List.getElem?_map, hi]; rfl)
    exact h.1 u (List.mem_of_getElem? hu) _ _ (rv_vT r1) (rv_vT ru)
theorem calls_sortT {K : PySem.W.Frag} {d : Nat} {B : Int} : CallS K (rSortU K d B) (cSortT d B) := by
  intro xs s H vs Q0 Q rs rv h cl
  obtain ⟨a, ts, rfl, ea, h64, hd, q⟩ := h
  obtain ⟨v, rfl, rx⟩ := rv.one
  obtain ⟨ws, e1, r1⟩ := rs a _ ea
  have hl := r1.length
  rw [List.length_map] at hl
  refine ⟨a, ws, by rw [rv_ref rx], SqL.of e1, by omega, rvs_vT hd r1, fun ys p pm pw hp => ?_⟩
  obtain ⟨zs, p2, r2⟩ := RVs.perm pm.symm r1
  obtain ⟨p3, e3⟩ := perm_vT p2
  rw [e3] at r2
  exact cl _ _ (q p _ p3.symm (pw_vT r2 pw) (rs.free hp)) _ _ (Keep.fresh hp) (rs.newLst hp r2) (rv_mk_ref _)

/-! ### tuple(range(n)) -/
def rgI (n : Int) : List Val := (List.range n.toNat).map fun i => .int (i : Nat)
def wTupRg (a : WE) : WE := fun env s Q E => a env s (fun x s1 => ∃ n, x = .int n ∧ n ≤ 16777216 ∧ -1000000 ≤ n ∧ Q (.tup (rgI n)) s1) E
theorem rvs_rg {K : PySem.W.Frag} {H : Hp} {n : Int} : RVs K H (rgI n) (rgV 0 n) := by
  unfold rgI rgV
  rw [Int.sub_zero]
  induction (List.range n.toNat) with
  | nil => exact RVs.nil
  | cons i r ih => exact RVs.cons (by simpa using rv_mk_int _) ih
section
variable {X : Cx} {W : WX} {e : Expr} {a : WE} {pos p p2 pos2 : Pos}
theorem je_tupRg (hc : X.calm = true) (hg : Gl X "tuple") (hm : X.mg "tuple" = none) (hg2 : Gl X "range") (hm2 : X.mg "range" = none) (ha : JE X W e a) (na : starEach [e] X.env = (false, eval e X.env) :: starEach [] X.env := by rfl)
    (nb : starEach [.Call (.Name "range" p2) [e] [] pos2] X.env = (false, eval (.Call (.Name "range" p2) [e] [] pos2) X.env) :: starEach [] X.env := by rfl) :
    JE X W (.Call (.Name "tuple" p) [.Call (.Name "range" p2) [e] [] pos2] [] pos) (wTupRg a) :=
  PE.imp (pe_tupRg hc hg hm (prg_1 hg2 hm2 ha na) nb) fun σ H Q h => by
    obtain ⟨env, s, Q0, E0, re, rs, q, cl, ce⟩ := h
    refine ⟨env, s, _, E0, re, rs, q, fun x s1 q1 H1 u k1 rs1 rx => ?_, ce⟩
    obtain ⟨n, rfl, h1, h2, q1⟩ := q1
    refine ⟨n, rv_int rx, ⟨by omega, by omega, by omega, by omega, by omega⟩, fun q hq => ?_⟩
    refine cl _ _ q1 _ _ (k1.trans (Keep.fresh hq)) (rs1.fresh hq) (rv_tup_new hq rvs_rg)
end
end Y
set_option Elab.async false
set_option linter.all false
set_option maxRecDepth 100000
set_option maxHeartbeats 4000000
set_option autoImplicit false
/-! Y: own exceptions over ValueError whose __init__ says super().__init__(e); self.f = a. -/
namespace Y
open PySem PySem.W PySem.Calls PyProof.Rows PySem.HandSPX
abbrev mroVE : List Value := [.type "ValueError", .type "Exception", .type "BaseException", .type "object"]
structure Sup (prog : Program) (K : Frag) (C fI : Addr) (qual : Str) (st : Stmt) (f a : Str) (e : Expr) : Prop where
  ini : excInitIn K C mroVE "ValueError.__new__" = true
  cd : ∃ cd, clsIn K C = some cd ∧ refsVE cd.mro = true ∧ cd.hasDict = true
  sa : findIn K (.ref C) "__setattr__" = some (some (.builtin "object.__setattr__"))
  noF : findIn K (.ref C) f = some none
  iC : findIn K (.ref C) "__init__" = some (some (.ref fI))
  tC : typeIn K (.ref fI) = some (.type "function")
  supI : ks_superIn K C C "__init__" = some (some (.builtin "ValueError.__init__"))
  subV : subIn K (.ref C) (.type "ValueError") = some true
  mroC : mroIn K C (.ref C) = some true
  third : nsIn K cStatics "thirdparty.any" = some none
  top : (prog.main.scope.names.lookup ("super" : Str)).isSome = false
  fn : ∃ (oc : Value) (od : Option Addr) (doc pm : Value) (an : Option Addr) (cda cc : Addr) (ct : Value) (osl : Array (Option Value)),
    K.lookup fI = some ⟨oc, od, .func (ksFn "__init__" qual (L2.defArgs st) (L2.defBody st) (L2.defScope st) .none .none doc pm an (.ref cda) ct cc), osl⟩ ∧ codeIn K (.ref cda) qual = true ∧
    (∃ (ccl : Value) (cdd : Option Addr) (vs : Array Value) (ccs : Array (Option Value)) (file : Str) (tf : Tok), K.lookup cda = some ⟨ccl, cdd, .fields vs, ccs⟩ ∧ vs[2]? = some (.str file tf) ∧ ((prog.main.file : Str) == file) = true) ∧
    ∃ (cl : Value) (cld : Option Addr) (csl : Array (Option Value)), K.lookup cc = some ⟨cl, cld, .cell (some (.ref C)), csl⟩
/-- the text of __init__ -/
structure SupSt (st : Stmt) (f a : Str) (e : Expr) : Prop where
  body : ∃ p0 p1 p2 p3 p4 q1 q2 q3 q4, L2.defBody st = [.Expr (.Call (.Attribute (.Call (.Name "super" p0) [] [] p1) "__init__" p2) [e] [] p3) p4, .Assign [.Attribute (.Name "self" q1) f q2] (.Name a q3) q4] ∧
    (∀ env, ∃ pl, eval (.Call (.Attribute (.Call (.Name "super" p0) [] [] p1) "__init__" p2) [e] [] p3) env = (do
      let ov ← attributeBase (.Call (.Name "super" p0) [] [] p1) "__init__" env (eval (.Call (.Name "super" p0) [] [] p1) env)
      standAt p2.atName
      let (f, first) ← holding [ov] (getMethod ov "__init__" pl)
      callWith p3 f first (backTo p3 (starEach [e] env)) [])) ∧
    ∀ env, swapsWith (.Name a q3) (some (.Attribute (.Name "self" q1) f q2)) q4.line env = pure false
  first : ∃ ar : Arg, ((L2.defArgs st).posonlyargs ++ (L2.defArgs st).args).head? = some ar ∧ ar.arg = ("self" : Str)
  bind : ∀ (qual : Str) (doc pm : Value) (an : Option Addr) (cdv ct : Value) (cc : Addr) (x v : Value), bindArgs (ksFn "__init__" qual (L2.defArgs st) (L2.defBody st) (L2.defScope st) .none .none doc pm an cdv ct cc) ⟨[x, v], []⟩ = pure ([(("self" : Str), x), (a, v)] : List (Str × Value))
  star : ∀ env, starEach [e] env = (false, eval e env) :: starEach [] env
  nself : ("self" : Str) ≠ a
  ndbg : (a == ("__debug__" : Str)) = false
  kind : (L2.defScope st).kind = .function
  co : (L2.defScope st).isCoroutine = false
  gen : (L2.defScope st).isGenerator = false
  cell : ∀ x ∈ (L2.defScope st).names, x.2 ≠ .cell
  lself : (L2.defScope st).names.lookup ("self" : Str) = some .local
  larg : (L2.defScope st).names.lookup a = some .local
  lsup : (L2.defScope st).names.lookup ("super" : Str) = some .globalImplicit
  lcls : (L2.defScope st).names.lookup ("__class__" : Str) = some .free
/-- the argument of super().__init__ is told and nothing else happens -/
def Told (prog : Program) (w : World) (K : Frag) (mg : Str → Option Value) (qual : Str) (st : Stmt) (a : Str) (e : Expr) (v : Value) : Prop :=
  ∀ (L fI cda cc : Addr) (A : Around) (E : Value → Shared → Prop) (s : Shared) (m : Str → Option Value) (Q : Value → Shared → Prop), A.handled = none → s.heap.Ns L m → m a = some v → s.heap.Ns mainGlobals mg → (∃ mb, s.heap.Ns builtinsNs mb ∧ ∀ x : Str, x ≠ "__name__" → mb x = bootBuiltins x) →
    (∀ u tk, Q u { s with toks := tk }) → wpAny (model prog w) A (eval e (ksEnv qual (L2.defScope st) L fI (.ref cda) cc)) Q E s
theorem told_str {prog : Program} {w : World} {K : Frag} {mg : Str → Option Value} {qual : Str} {st : Stmt} {a x : Str} {j : Nat} {pos : Pos} {v : Value} : Told prog w K mg qual st a (.Constant (.str x) j pos) v :=
  fun L fI cda cc A E s m Q _ _ _ _ _ h => Constant_str (h _ _)
/-- what __init__ leaves of a fresh exception at x -/
structure SupEnd (h h' : Heap) (x C dx t1 : Addr) (f : Str) (v : Value) : Prop where
  keep : ∀ b o, b ≠ x → h.get? b = some o → h'.get? b = some o
  obj : h'.get? x = some (excO C t1 |> fun o => { o with dict := some dx })
  dbig : h.objs.size ≤ dx
  dne : dx ≠ x
  ns : h'.Ns1 dx (fun y => if y = f then some v else none)
section
variable {prog : Program} {w : World} {A : Around} {E : Value → Shared → Prop} {R : Result → Shared → Prop} {s : Shared} {K : Frag} {mg : Str → Option Value} {C fI : Addr} {qual f a : Str} {st : Stmt} {e : Expr}
theorem sup_init (T : Sup prog K C fI qual st f a e) (S : SupSt st f a e) {x t0 : Addr} {v : Value} (ht : Told prog w K mg qual st a e v) (X : K.In s.heap) (hlim : s.heap.NoLimit) (hg : s.heap.Ns mainGlobals mg) (hms : mg "super" = none)
    (hb : ∃ mb, s.heap.Ns builtinsNs mb ∧ ∀ x : Str, x ≠ "__name__" → mb x = bootBuiltins x) (hx : s.heap.get? x = some (excO C t0)) (hnx : K.lookup x = none) (hxg : x ≠ mainGlobals) (hxb : x ≠ builtinsNs) (hh : A.handled = none) (hroom : A.depth < recursionLimit)
    (hq : ∀ h' tk dx t1, SupEnd s.heap h' x C dx t1 f v → R (.ok (.ret .none)) { s with heap := h', toks := tk }) :
    codeAny (model prog w) A (.call (.ref fI) ⟨[.ref x, v], []⟩) R s := by
  obtain ⟨oc, od, doc, pm, an, cda, cc, ct, osl, ho, hcd, ⟨ccl, cdd, vs, ccs, file, tf, hcode, hvs, hfile⟩, cl, cld, csl, hcell⟩ := T.fn
  obtain ⟨cd, hcl, hmr, hhd⟩ := T.cd
  obtain ⟨p0, p1, p2, p3, p4, q1, q2, q3, q4, hbody, hmeth, hswap⟩ := S.body
  obtain ⟨ar, har, hself⟩ := S.first
  have hbind : BindsTo s (ksFn "__init__" qual (L2.defArgs st) (L2.defBody st) (L2.defScope st) .none .none doc pm an (.ref cda) ct cc) ⟨[.ref x, v], []⟩ [("self", .ref x), (a, v)] :=
    BindsTo.of_eq (S.bind _ _ _ _ _ _ _ _ _)
  refine ks_codeAny_call_defAt (body := L2.defBody st) (binds := [("self", .ref x), (a, v)]) hroom (X _ _ ho) rfl hlim (codeRec_of X hcd) rfl hbind S.cell (fun y hy => ?_) (fun h₁ hns hk => ?_) S.co S.gen S.kind
  · rcases List.mem_cons.mp hy with rfl | hy
    · exact S.lself
    · rcases List.mem_cons.mp hy with rfl | hy
      · exact S.larg
      · cases hy
  · have hxL : x ≠ s.heap.objs.size := Nat.ne_of_lt (Heap.lt_size hx)
    have F0 : Fr (hideAll s.heap [x]) s.heap.objs.size h₁ (fun y => [(("self" : Str), Value.ref x), (a, v)].reverse.lookup y) := ⟨hns, fun b o e => hk b o (of_hideAll _ e), Nat.le_of_eq (hideAll_size _ _)⟩
    have X0 : K.In (hideAll s.heap [x]) := fun b o e => hideAll_get [x] (X b o e) (fun z => by
      rw [List.mem_singleton] at z
      rw [z, hnx] at e
      cases e)
    have N0 : News (hideAll s.heap [x]) s.heap.objs.size h₁ [(x, excObj C t0 none .none)] := fun p hp => by
      rw [List.mem_singleton] at hp
      subst hp
      exact ⟨hk _ _ hx, hxL, hideAll_none _ (List.mem_singleton.mpr rfl)⟩
    have msl : ([(("self" : Str), Value.ref x), (a, v)].reverse.lookup ("self" : Str)) = some (.ref x) := by
      have : (("self" : Str) == a) = false := by simpa using S.nself
      simp [List.lookup, this]
    have mar : ([(("self" : Str), Value.ref x), (a, v)].reverse.lookup a) = some v := by simp [List.lookup]
    have hg1 : h₁.Ns mainGlobals mg := hg.keeps hk
    rw [hbody]
    have hb1 : ∃ mb, h₁.Ns builtinsNs mb ∧ ∀ x : Str, x ≠ "__name__" → mb x = bootBuiltins x := let ⟨mb, z1, z2⟩ := hb; ⟨mb, z1.keeps hk, z2⟩
    have X1 : K.In h₁ := X.keeps hk
    have hint : interactive (ksEnv qual (L2.defScope st) s.heap.objs.size fI (.ref cda) cc) = false := by
      unfold interactive
      simp [S.kind]
    obtain ⟨pl, hmeth⟩ := hmeth (ksEnv qual (L2.defScope st) s.heap.objs.size fI (.ref cda) cc)
    refine ks_wpAt_execs_cons (ks_wpAt_Expr_any (ks_wpAt_MethodCall ?_ hmeth) hint)
    refine ks_wpAt_super_base (env := ksEnv qual (L2.defScope st) s.heap.objs.size fI (.ref cda) cc) S.lsup S.lcls rfl rfl (X1 _ _ ho) rfl har rfl (X1 _ _ hcode) rfl hvs hfile T.top ?_
    obtain ⟨mb, hb2, hb3⟩ := hb1
    refine ks_loadName_global S.kind S.lsup (loadGlobal_builtin (env := ksEnv qual (L2.defScope st) s.heap.objs.size fI (.ref cda) cc) hg1 hms hb2 ((hb3 _ (by decide +kernel)).trans (by decide +kernel : bootBuiltins ("super" : Str) = some (.type "super"))) ⟨rfl, ?_⟩)
    refine wpAny_loadName_free S.kind S.lcls rfl ⟨_, X1 _ _ hcell, rfl⟩ ?_
    rw [hself]
    refine wpAny_loadName_local S.kind S.lself hns msl ?_
    obtain ⟨oD, hD1, hD2⟩ : ∃ oD, h₁.get? C = some oD ∧ oD.data = .cls cd := by
      unfold clsIn at hcl
      split at hcl
      · rename_i c d cd' sl ho
        cases hcl
        exact ⟨_, X1 _ _ ho, rfl⟩
      · cases hcl
    refine ks_wpAny_isType_cls hD1 hD2 ⟨rfl, ?_⟩
    refine ks_wpAny_call_super hD1 hD2 (hk _ _ hx) rfl (fun c z => nomatch z) (looks_mroIn X1 T.mroC) (fun h2 e2 k2 => ?_)
    obtain ⟨F2, N2, l2⟩ := ks_newsPush (s := { s with heap := h₁, toks := s.toks + [(("self" : Str), Value.ref x), (a, v)].length }) F0 N0 rfl e2 k2
    refine kxs_method kxs_ValueError F2 X0 N2 (.head _) (InstAt.of_exc0 N2 (.tail _ (.head _))) T.third T.supI T.subV (by decide +kernel) fun q h3 F3 N3 l3 => ?_
    refine kxs_callWith1 N3 (.head _) ?_ (S.star _) rfl
    rw [S.star]
    show wpAny _ _ (spliced ((false, eval e _) :: [])) _ _ _
    have hx3 : h3.get? x = some (excO C t0) := (N3 _ (.tail _ (.tail _ (.head _)))).1
    have hg0 : (hideAll s.heap [x]).Ns mainGlobals mg := let ⟨o, es, ep, z, r⟩ := hg; ⟨o, es, ep, hideAll_get [x] z (fun y => hxg (List.mem_singleton.mp y).symm), r⟩
    have hb0 : ∃ mb, (hideAll s.heap [x]).Ns builtinsNs mb ∧ ∀ x : Str, x ≠ "__name__" → mb x = bootBuiltins x := let ⟨mb, ⟨o, es, ep, z, r⟩, z2⟩ := hb; ⟨mb, ⟨o, es, ep, hideAll_get [x] z (fun y => hxb (List.mem_singleton.mp y).symm), r⟩, z2⟩
    refine spliced_cons (ht _ _ _ _ _ _ _ _ _ hh F3.ns mar (hg0.keeps F3.keep) (let ⟨mb, z1, z2⟩ := hb0; ⟨mb, z1.keeps F3.keep, z2⟩) fun u tk => ?_)
    refine spliced_nil ⟨kxs_at N3 (.head _), ?_⟩
    refine kxs_call (s := { s with heap := h3, toks := tk }) F3 X0 N3 PySem.F.excBase_ValueError T.ini (.head _) (.tail (Nat.ne_of_gt (l3 _ (.tail _ (.head _)))) (.tail (Nat.ne_of_gt (l2 _ (.head _))) (.head fun p hp => nomatch hp))) (by rw [sizeLine_eq]; simp) fun t' h4 F4 N4 l4 => ?_
    have hx4 : h4.get? x = some (excO C t') := (N4 _ (.tail _ (.tail _ (.tail _ (.head _))))).1
    have k4 : ∀ b o, b ≠ x → s.heap.get? b = some o → h4.get? b = some o := fun b o hb e => F4.keep b o (hideAll_get [x] e (fun z => hb (List.mem_singleton.mp z)))
    have X4 : K.In h4 := X0.keeps F4.keep
    refine wpAt_of_wpAny (wpAny_execs_cons (plainObj_wpAny_Assign_Attribute ?_ (hswap _)))
    refine wpAny_Name (wpAny_loadName_local S.kind S.larg F4.ns mar ?_) S.ndbg
    refine wpAny_Name (wpAny_loadName_local S.kind S.lself F4.ns msl ?_) rfl
    refine set_plain X4 (ox := excO C t') (od := none) ⟨hx4, rfl, rfl, trivial⟩ T.sa ?_
    refine exc_osa X4 hx4 hcl hmr hhd T.noF (fun h5 tk5 dx k5 dn dne hx5 hn5 => ?_)
    refine wpAny_execs_nil (hq h5 tk5 dx t' ⟨fun b o hb e => k5 b o hb (k4 b o hb e), hx5, ?_, dne, hn5⟩)
    exact Nat.le_of_lt (Nat.lt_of_lt_of_le F4.ns.lt dn)
/-- a made exception -/
structure SupMade (h h' : Heap) (e C d : Addr) (f : Str) (v : Value) : Prop where
  keep : ∀ b o, h.get? b = some o → h'.get? b = some o
  new : h.objs.size ≤ e
  obj : ∃ oe vs, h'.get? e = some oe ∧ oe.cls = .ref C ∧ oe.dict = some d ∧ oe.data = .fields vs ∧ vs[1]? = some .none
  dbig : h.objs.size ≤ d
  dne : d ≠ e
  ns : h'.Ns1 d (fun y => if y = f then some v else none)
theorem sup_made (T : Sup prog K C fI qual st f a e) (S : SupSt st f a e) {v : Value} (ht : Told prog w K mg qual st a e v) (X : K.In s.heap) (hlim : s.heap.NoLimit) (hg : s.heap.Ns mainGlobals mg) (hms : mg "super" = none)
    (hb : ∃ mb, s.heap.Ns builtinsNs mb ∧ ∀ x : Str, x ≠ "__name__" → mb x = bootBuiltins x) (hh : A.handled = none) (hroom : A.depth + 1 < recursionLimit)
    (hq : ∀ h' tk e d, SupMade s.heap h' e C d f v → R (.ok (.ret (.ref e))) { s with heap := h', toks := tk }) :
    codeAny (model prog w) A (.call (.ref C) ⟨[v], []⟩) R s := by
  obtain ⟨nm, N, q, bs, bm, hdct, sn, sub, ab, col, dd, k0, k1, k2, k3, k5, hC, hbm⟩ := excInit_of X T.ini
  obtain ⟨hp, g, dr, tk, os⟩ := s
  have k : ∀ b o, hp.get? b = some o → ((hp.push (kdv_tup [v])).push (excO C hp.objs.size)).get? b = some o := fun b o e => Heap.get?_push_of_some _ (Heap.get?_push_of_some _ e)
  have hget : ((hp.push (kdv_tup [v])).push (excO C hp.objs.size)).get? (hp.objs.size + 1) = some (excO C hp.objs.size) := by heap_get
  have old1 : ∀ {b o}, hp.get? b = some o → b ≠ hp.objs.size + 1 := fun e => Nat.ne_of_lt (Nat.lt_succ_of_lt (Heap.lt_size e))
  have hnx : K.lookup (hp.objs.size + 1) = none := by
    cases e : K.lookup (hp.objs.size + 1) with
    | none => rfl
    | some o => exact absurd rfl (old1 (X _ _ e))
  have hxg : hp.objs.size + 1 ≠ mainGlobals := fun z => let ⟨o, _, _, y, _⟩ := hg; old1 y z.symm
  have hxb : hp.objs.size + 1 ≠ builtinsNs := fun z => let ⟨_, ⟨o, _, _, y, _⟩, _⟩ := hb; old1 y z.symm
  refine call_own F.excBase_ValueError hbm hC (looks_findIn X T.iC) (fun self => bind_fn X self T.tC) (by rw [sizeLine_eq]; simp) ?_
  refine sup_init (s := ⟨(hp.push (kdv_tup [v])).push (excO C hp.objs.size), g, dr, tk, os⟩) T S ht (X.keeps k) (hlim.keeps k) (hg.keeps k) hms (let ⟨mb, z1, z2⟩ := hb; ⟨mb, z1.keeps k, z2⟩) hget hnx hxg hxb ?_ ?_ fun h' tk' dx t1 Z => ?_
  · exact hh
  · show A.depth + 1 < recursionLimit
    exact hroom
  · have old : ∀ b o, hp.get? b = some o → h'.get? b = some o := fun b o e => Z.keep b o (old1 e) (k b o e)
    have z : hp.objs.size + 1 + 1 ≤ dx := by
      have q := Z.dbig
      rw [Heap.size_push, Heap.size_push] at q
      exact q
    exact ⟨rfl, hq h' tk' (hp.objs.size + 1) dx ⟨old, Nat.le_succ _, ⟨_, _, Z.obj, rfl, rfl, rfl, rfl⟩, Nat.le_trans (Nat.le_trans (Nat.le_succ _) (Nat.le_succ _)) z, Z.dne, Z.ns⟩⟩
end
end Y

namespace Y
open PySem PySem.Spec PyProof.Rows L2
theorem relO_one {f : Str} {v : V} {v' : Value} (r : RelV v v') (g : Str) : RelO (List.lookup g [(f, v)]) (if g = f then some v' else none) := by
  by_cases hw : g = f
  · subst hw
    rw [if_pos rfl]
    have q : List.lookup g [(g, v)] = some v := by simp [List.lookup]
    rw [q]
    exact r
  · rw [if_neg hw]
    have qw : (g == f) = false := by simpa using hw
    have q2 : List.lookup g [(f, v)] = none := by simp [List.lookup, qw]
    rw [q2]
    trivial
/-- what else of the class -/
structure SupC (K : PySem.W.Frag) (mg : Str → Option Value) (n : Str) (C : Addr) : Prop where
  mgC : mg n = some (.ref C)
  kC : PySem.W.keepIn K (.ref C) = true
  exC : PySem.W.subIn K (.ref C) (.type "BaseException") = some true
  tyC : PySem.W.typeIn K (.ref C) = some (.type "type")
  sup : mg "super" = none
def tMk1 (C : Addr) (f : Str) (ta : TA) : L2.St → Hp → XK → Prop := fun σ H Q => ta σ H fun vs H1 => ∃ v, vs = [v] ∧ ∀ d, H1 d = none → Q (.ref C) (some d) (upd H1 d (.xd [(f, v)]))
section
variable {X : Cx} {C fI : Addr} {qual n f a : Str} {st : Stmt} {e : Expr}
theorem pmk_sup {x : Expr} {ta : TA} {p pos : Pos} {k : Nat} (hc : X.calm = true) (T : Sup X.prog X.K C fI qual st f a e) (S : SupSt st f a e) (U : SupC X.K X.mg n C) (ht : ∀ v, Told X.prog X.w X.K X.mg qual st a e v) (hr : Room k X.A) (ha : PA X [x] ta) (hg : Gl X n := by rfl)
    (hdb : (n == ("__debug__" : Str)) = false := by decide)
    (he : starEach (x :: []) X.env = (false, eval x X.env) :: starEach [] X.env := by rfl) (hpl : (backTo pos (starEach [] X.env)).any (·.1) = false := by rfl) :
    PMk X (.Call (.Name n p) [x] [] pos) (tMk1 C f ta) := by
  intro pins s σ H Q I h
  refine wpAny_Call_Name_kw (ld_glob I hg U.mgC ?_ hdb)
  refine PySem.W.callWith_K (h₀ := X.base) I.ok.mod.kin U.kC (thn (ha.run pos pins s σ H _ I h) fun us s1 hh => ?_) he hpl
  obtain ⟨vs, H1, I1, r1, v, ev, q1⟩ := hh
  subst ev
  refine ⟨I1.kIn, ?_⟩
  obtain ⟨v', rfl, rv⟩ := r1.one
  show wpAny _ _ (call (.ref C) [v']) _ _ _
  have hlim := I1.nolimit
  have hgl : s1.heap.Ns mainGlobals X.mg := I1.ok.mod.glob.keeps I1.bk
  have hbl : ∃ mb, s1.heap.Ns builtinsNs mb ∧ ∀ x : Str, x ≠ "__name__" → mb x = bootBuiltins x := let ⟨mb, z1, z2⟩ := I1.ok.mod.blt; ⟨mb, z1.keeps I1.bk, z2⟩
  obtain ⟨hp, g, dr, tk, os⟩ := s1
  refine wpAny_call (sup_made T S (ht v') I1.kIn hlim hgl U.sup hbl (I1.ok.hd hc) (by have := hr.dp; omega) fun h' tk' e d M => ?_)
  show MkP X pins σ Q (.ref e) ⟨h', g, dr, tk', os⟩
  obtain ⟨oe, fv, hoe, hcl, hd, hdat, h1⟩ := M.obj
  have hns := M.ns
  obtain ⟨G', g1, g2⟩ := restrict h' fun b => decide (b ≠ e)
  have gk : ∀ b, b ≠ e → G'.get? b = h'.get? b := fun b hb => g1 b (decide_eq_true hb)
  have ge : G'.get? e = none := g2 e (by simp)
  have old : ∀ b o, hp.get? b = some o → G'.get? b = some o := fun b o q => (gk b (Nat.ne_of_lt (Nat.lt_of_lt_of_le (Heap.lt_size q) M.new))).trans (M.keep b o q)
  have ob : ObjOk X.prog X.w (upd H1 d (.xd [(f, v)])) G' d (.xd [(f, v)]) :=
    ⟨_, hns.at (fun o q => (gk d M.dne).trans q), fun g => relO_one rv g⟩
  have J : Inv X pins σ (upd H1 d (.xd [(f, v)])) ⟨G', g, dr, tk', os⟩ := I1.laid (t' := tk') old M.dbig ob
  refine ⟨e, oe, fv, ⟨G', g, dr, tk', os⟩, _, .ref C, some d, rfl, J, fun b o q => ?_, ge, hoe, ⟨hcl, hd⟩, hdat, h1, ?_, rfl, I1.bare, raises_own U.exC U.tyC, q1 d (I1.hok.fresh M.dbig)⟩
  · by_cases hb : b = e
    · have q' : G'.get? b = some o := q
      rw [hb, ge] at q'; cases q'
    · exact (gk b hb).symm.trans q
  · rw [upd_ne (Ne.symm M.dne)]
    exact I1.hok.fresh M.new
def wRaise (C : Addr) (f : Str) (a : WA) : WS := fun D env s => a env s (fun xs s1 => ∃ x, xs = [x] ∧ D.ex ⟨C, [(f, x)]⟩ env s1) (fun x s1 => D.ex x env s1)
/-- all that a raise of such a class wants -/
structure Rai (prog : Program) (w : World) (K : PySem.W.Frag) (mg : Str → Option Value) (n : Str) (C : Addr) (f : Str) : Prop where
  ex : ∃ (fI : Addr) (qual a : Str) (st : Stmt) (e : Expr), Sup prog K C fI qual st f a e ∧ SupSt st f a e ∧ SupC K mg n C ∧ ∀ v, Told prog w K mg qual st a e v
theorem js_raise {W : WX} {x : Expr} {wa : WA} {p pos pos2 : Pos} {k : Nat} (R : Rai X.prog X.w X.K X.mg n C f) (hr : Room k X.A) (tk : Takes X W) (ha : JA X W [x] wa) (hc : X.calm = true := by rfl) (hg : Gl X n := by rfl)
    (hdb : (n == ("__debug__" : Str)) = false := by decide)
    (he : starEach (x :: []) X.env = (false, eval x X.env) :: starEach [] X.env := by rfl) (hpl : (backTo pos (starEach [] X.env)).any (·.1) = false := by rfl) :
    JS X W (.Raise (some (.Call (.Name n p) [x] [] pos)) none pos2) (wRaise C f wa) := by
  obtain ⟨fI, qual, a, st, e, T, S, U, ht⟩ := R.ex
  refine PS.imp (ps_raise hc tk (pmk_sup hc T S U ht hr ha hg hdb he hpl)) fun D σ H h => ?_
  obtain ⟨env, s, D0, re, rs, q, cl⟩ := h
  refine ⟨env, s, _, _, re, rs, q, fun xs s1 q1 H1 us k1 rs1 rx => ?_, cl.clE re (Keep.refl H)⟩
  obtain ⟨y, rfl, q1⟩ := q1
  obtain ⟨v, rfl, rv⟩ := rx.one
  refine ⟨v, rfl, fun d hd => ?_⟩
  have kd : Keep H1 (upd H1 d (.xd [(f, v)])) := Keep.fresh hd
  exact cl.ex _ _ _ q1 σ _ _ (k1.trans kd) (re.keep (k1.trans kd)) (rs1.fresh hd) (.inr ⟨d, _, rfl, upd_same, .cons ⟨rfl, rv.keep kd⟩ .nil⟩)
end
end Y
set_option Elab.async false
set_option linter.all false
set_option maxRecDepth 100000
set_option maxHeartbeats 4000000
set_option autoImplicit false
/-! Y: try: .. except C as n: return n.f -/
namespace Y
open PySem PySem.Spec PyProof.Rows L2
/-- n.f, n the exception that the suite holds -/
structure ExF (K : PySem.W.Frag) (C : Addr) (f : Str) : Prop where
  ga : PySem.W.findIn K (.ref C) "__getattribute__" = some (some (.builtin "BaseException.__getattribute__"))
  gg : PySem.W.findIn K (.ref C) "__getattr__" = some none
  exC : PySem.W.subIn K (.ref C) (.type "BaseException") = some true
  hdC : PySem.W.hasDictIn K C = true
  noN : PySem.W.findIn K (.ref C) f = some none
  te : PySem.W.exmOne K (.ref C) (.ref C) = some true
def tByF (C : Addr) (f : Str) (a : Addr) (cls : Value) (d : Option Addr) (te : TE) : TE := fun σ H Q => te σ H fun x H1 => x = .ref a ∧ cls = .ref C ∧ ∃ (dd : Addr) (fs : List (Str × V)) (v : V), d = some dd ∧ H1 dd = some (.xd fs) ∧ fs.lookup f = some v ∧ Q v H1
section
variable {X : Cx} {C : Addr} {f : Str}
theorem pe_byF {a : Addr} {oe : Obj} {cls : Value} {d : Option Addr} {pn : List (Addr × Obj)} {e : Expr} {te : TE} {pos : Pos} (T : ExF X.K C f) (hz : Zc cls d oe) (hf : ∃ vs, oe.data = .fields vs) (he : PE (X.suite a ((a, oe) :: pn)) e te)
    (hb : attributeBase e f X.env (eval e X.env) = eval e X.env := by rfl) :
    PE (X.suite a ((a, oe) :: pn)) (.Attribute e f pos) (tByF C f a cls d te) := by
  refine ⟨fun pins s σ H Q I h => ?_⟩
  refine attr_of hb (thn (he.run pins s σ H _ I h) fun u s1 hh => ?_)
  obtain ⟨x, H1, I1, rx, ex, ec, dd, fs, v, ed, ea, l, q⟩ := hh
  subst ex
  obtain rfl : u = Value.ref a := rx
  subst ec
  subst ed
  obtain ⟨ha, _⟩ := I1.pin (a, oe) (List.mem_append_left _ List.mem_cons_self)
  obtain ⟨vs, hd⟩ := hf
  have hx : ObjOk X.prog X.w H1 s1.heap dd (.xd fs) := I1.hok dd _ ea
  obtain ⟨mA, hns, hr⟩ := hx
  obtain ⟨od, ho, hl⟩ := lookIn_ns hns
  obtain ⟨u, hu, ru⟩ := RelO.some_of (v := v) (o := mA f) (by rw [← l]; exact hr f)
  have J : PySem.W.InstAt s1.heap a oe C (some od) := ⟨ha, hz.1, by unfold PySem.W.notCls; rw [hd] <;> rfl, by rw [hz.2]; exact ho⟩
  exact HandSPX.exc_get I1.kIn J T.ga T.gg T.exC (PySem.W.findObj_own T.hdC T.noN rfl (by rw [hl, hu])) (handed_of ru) ⟨v, H1, I1.tok _, ru, q⟩
def wTryRet (C : Addr) (f : Str) (i : Nat) (wb : WS) : WS := fun D env s => wb { D with ex := fun x env' s' => x.cls = C ∧ i < env'.length ∧ ∃ v, x.fs.lookup f = some v ∧ D.rt v s' } env s
theorem js_tryRet {W : WX} {x n : Str} {i : Nat} {body : List Stmt} {wb : WS} {np pos pos' p1 p2 p3 : Pos} (T : ExF X.K C f) (hs : X.stack = X.env :: X.outer) (hf : X.env.frame = some X.env.locals) (hN : X.N.Nodup) (hi : X.N[i]? = some n) (hln : X.env.kindOf n = some .local) (hc : Names X x (.ref C)) (tk : Takes X W)
    (hb : ∀ (W : WX) (pn : List (Addr × Obj)) (xe : Value → Shared → Prop), Takes (X.tr pn xe) W → PassesOwn (model X.prog X.w) X.A X.env xe → JB (X.tr pn xe) W body wb)
    (hv : ∀ (a : Addr) (pn : List (Addr × Obj)), PE (X.suite a pn) (.Name n p1) (tVar i)) (hab : attributeBase (.Name n p1) f X.env (eval (.Name n p1) X.env) = eval (.Name n p1) X.env := by rfl) :
    JS X W (.Try body [.ExceptHandler (some (.Name x np)) (some n) [.Return (some (.Attribute (.Name n p1) f p2)) p3] pos'] [] [] pos) (wTryRet C f i wb) := by
  refine PS.imp (ps_try_as (c := .ref C) (ts := fun a cls d => tRet (tByF C f a cls d (tVar i))) (tb := fun W => tS X.K W wb) hs hf hN hi hln hc tk (fun W pn xe h1 h2 => hb W pn xe h1 h2) (fun a oe cls d pn hz hd => pss_one (ps_ret (pe_byF T hz hd (hv a _) hab)))) fun D σ H h => ?_
  obtain ⟨env, s, D0, re, rs, q, cl⟩ := h
  refine ⟨env, s, _, re, rs, q, ⟨cl.nx, cl.rt, cl.bk, cl.ct, ?_⟩⟩
  intro y env' s' hy σ' H' d k re' rs' rx
  obtain ⟨rfl, hlt, v, hl, hrt⟩ := hy
  refine ⟨true, T.te, fun _ a ha => ?_, fun z => nomatch z⟩
  refine ⟨.ref a, ?_, rfl, rfl, ?_⟩
  · rw [List.getElem?_set_self (by rw [← re'.len]; exact hlt)]
  · rcases rx with ⟨z, _⟩ | ⟨dd, fs', rfl, hd, rf⟩
    · rw [z] at hl; cases hl
    · obtain ⟨u, hu, ru⟩ := rfs_look rf hl
      exact ⟨dd, fs', u, rfl, hd, hu, cl.rt v s' hrt H' u k rs' ru⟩
end
end Y
set_option Elab.async false
set_option linter.all false
set_option maxRecDepth 100000
set_option maxHeartbeats 4000000
set_option autoImplicit false
/-! Y: readings as simp runs them; loops, comprehensions. -/
namespace Y
open PySem PySem.Spec PyProof.Rows L2
theorem je_cvalE {X : Cx} {W : WX} {C : Addr} {x f : Str} {i : Int} {pos pos' : Pos} (hg : Gl X x) (hm : X.mg x = some (.ref C)) (h : ∃ mc u, ClX.CRead X.K C mc ∧ ClX.CVal X.K C mc f (.int i) u) (hd : (x == ("__debug__" : Str)) = false := by decide)
    (hb : attributeBase (.Name x pos') f X.env (eval (.Name x pos') X.env) = eval (.Name x pos') X.env := by rfl) : JE X W (.Attribute (.Name x pos') f pos) (wC (.int i)) := by
  obtain ⟨mc, u, rd, cv⟩ := h
  exact je_cval hg hm rd cv (fun H => rv_mk_int _) hd hb
section
variable {env : Env} {s : Store} {Q : QV} {E : QE} {D : DE} {a b c o wo wi : WE} {wa : WA} {w1 w2 : WS} {ta tb : WB} {QB : Bool → Store → Prop} {QA : List Val → Store → Prop}
@[simp] theorem wVar_app {i : Nat} : wVar i env s Q E ↔ ∃ v, env[i]? = some (some v) ∧ Q v s := .rfl
@[simp] theorem wC_app {v : Val} : wC v env s Q E ↔ Q v s := .rfl
@[simp] theorem waNil_app : waNil env s QA E ↔ QA [] s := .rfl
@[simp] theorem waCons_app : waCons a wa env s QA E ↔ a env s (fun x s1 => wa env s1 (fun xs s2 => QA (x :: xs) s2) E) E := .rfl
@[simp] theorem wOp_app {op : O2} : wOp op a b env s Q E ↔ a env s (fun x s1 => b env s1 (fun y s2 => op x y s2 Q) E) E := .rfl
@[simp] theorem wTest_app : wTest a env s QB E ↔ a env s (fun x s1 => ∃ c, x = .bl c ∧ QB c s1) E := .rfl
@[simp] theorem wAnd_app : wAnd ta tb env s QB E ↔ ta env s (fun c s1 => if c = true then tb env s1 QB E else QB false s1) E := .rfl
@[simp] theorem wOr_app : wOr ta tb env s QB E ↔ ta env s (fun c s1 => if c = true then QB true s1 else tb env s1 QB E) E := .rfl
@[simp] theorem wNot_app : wNot ta env s QB E ↔ ta env s (fun c s1 => QB (!c) s1) E := .rfl
@[simp] theorem wAndV_app : wAndV a b env s Q E ↔ a env s (fun x s1 => ∃ c, x = .bl c ∧ if c = true then b env s1 Q E else Q (.bl false) s1) E := .rfl
@[simp] theorem wOrV_app : wOrV a b env s Q E ↔ a env s (fun x s1 => ∃ c, x = .bl c ∧ if c = true then Q (.bl true) s1 else b env s1 Q E) E := .rfl
@[simp] theorem wNotV_app : wNotV a env s Q E ↔ a env s (fun x s1 => ∃ c, x = .bl c ∧ Q (.bl (!c)) s1) E := .rfl
@[simp] theorem wIfE_app : wIfE ta a b env s Q E ↔ ta env s (fun d s1 => if d = true then a env s1 Q E else b env s1 Q E) E := .rfl
@[simp] theorem wTup_app : wTup wa env s Q E ↔ wa env s (fun xs s1 => xs.length ≤ 16777216 ∧ Q (.tup xs) s1) E := .rfl
@[simp] theorem wLst_app : wLst wa env s Q E ↔ wa env s (fun xs s1 => xs.length ≤ 16777216 ∧ ∀ p, s1 p = none → Q (.ref p) (updS s1 p (.lst xs))) E := .rfl
@[simp] theorem wCall_app {f : OC} : wCall f wa env s Q E ↔ wa env s (fun xs s1 => f xs s1 Q) E := .rfl
@[simp] theorem wMeth_app {T : String} {m : OM} : wMeth T m o wa env s Q E ↔ o env s (fun x s1 => tyS T x s1 ∧ wa env s1 (fun xs s2 => m x xs s2 Q) E) E := .rfl
@[simp] theorem wFld_app {C : Addr} {f : Str} : wFld C f a env s Q E ↔ a env s (fun x s1 => ∃ p fs v, x = .ref p ∧ s1 p = some (.ins C fs) ∧ fs.lookup f = some v ∧ Q v s1) E := .rfl
@[simp] theorem wCallF_app {n : Nat} {p : PT} : wCallF n p wa env s Q E ↔ wa env s (fun xs s1 => xs.length = n ∧ p xs s1 Q E) E := .rfl
@[simp] theorem wMethF_app {C : Addr} {m : Str} {n : Nat} {p : PT} : wMethF C m n p o wa env s Q E ↔ o env s (fun x s1 => ∃ q fs, x = .ref q ∧ s1 q = some (.ins C fs) ∧ fs.lookup m = none ∧ wa env s1 (fun xs s2 => xs.length + 1 = n ∧ p (x :: xs) s2 Q E) E) E := .rfl
@[simp] theorem wMakeF_app {C : Addr} {n : Nat} {p : PT} : wMakeF C n p wa env s Q E ↔ wa env s (fun xs s1 => xs.length + 1 = n ∧ ∀ q, s1 q = none → p (.ref q :: xs) (updS s1 q (.ins C [])) (fun v s2 => v = .non ∧ Q (.ref q) s2) E) E := .rfl
@[simp] theorem wKeys_app : wKeys a env s Q E ↔ a env s (fun x s1 => ∃ d kvs, x = .ref d ∧ s1 d = some (.dic 1 kvs) ∧ ∀ q, s1 q = none → Q (.ref q) (updS s1 q (.lst (kvs.map (·.1))))) E := .rfl
@[simp] theorem wTupRg_app : wTupRg a env s Q E ↔ a env s (fun x s1 => ∃ n, x = .int n ∧ n ≤ 16777216 ∧ -1000000 ≤ n ∧ Q (.tup (rgI n)) s1) E := .rfl
@[simp] theorem wGet_app : wGet wo wi env s Q E ↔ wo env s (fun x s1 => (∃ a t kvs, x = .ref a ∧ s1 a = some (.dic t kvs)) ∧ wi env s1 (fun y s2 => ∃ a t kvs, x = .ref a ∧ s2 a = some (.dic t kvs) ∧ isKey t y ∧ Q ((dlook kvs y).getD .non) s2) E) E := .rfl
@[simp] theorem wNewD_app {t : Nat} : wNewD t env s Q E ↔ ∀ p, s p = none → Q (.ref p) (updS s p (.dic t [])) := .rfl
@[simp] theorem wNeg_app : wNeg a env s Q E ↔ a env s (fun x s1 => ∃ i, x = .int i ∧ Q (.int (-i)) s1) E := .rfl
@[simp] theorem wChain_app {p q : O2} : wChain p q a b c env s Q E ↔ a env s (fun x s1 => b env s1 (fun y s2 => p x y s2 (fun z s3 => ∃ k, z = .bl k ∧ (if k = true then c env s3 (fun w s4 => q y w s4 Q) E else Q (.bl false) s3))) E) E := .rfl
@[simp] theorem wDisp1_app : wDisp1 a b env s Q E ↔ ∀ p, s p = none → a env (updS s p (.dic 0 [])) (fun x s1 => b env s1 (fun y s2 => (∃ k : Key, x = kVal k) ∧ s2 p = some (.dic 0 []) ∧ Q (.ref p) (updS s2 p (.dic 0 [(x, y)]))) E) E := .rfl
/-! statements -/
@[simp] theorem wNext_app : wNext D env s ↔ D.nx env s := .rfl
@[simp] theorem wSeq_app : wSeq w1 w2 D env s ↔ w1 { D with nx := w2 D } env s := .rfl
@[simp] theorem wBreak_app : wBreak D env s ↔ D.bk env s := .rfl
@[simp] theorem wCont_app : wCont D env s ↔ D.ct env s := .rfl
@[simp] theorem wDrop_app : wDrop a D env s ↔ a env s (fun _ s1 => D.nx env s1) (fun x s1 => D.ex x env s1) := .rfl
@[simp] theorem wRet_app : wRet a D env s ↔ a env s D.rt (fun x s1 => D.ex x env s1) := .rfl
@[simp] theorem wRetN_app : wRetN D env s ↔ D.rt .non s := .rfl
@[simp] theorem wIf_app : wIf ta w1 w2 D env s ↔ ta env s (fun b s1 => if b = true then w1 D env s1 else w2 D env s1) (fun x s1 => D.ex x env s1) := .rfl
@[simp] theorem wSet_app {i : Nat} : wSet i a D env s ↔ a env s (fun v s1 => D.nx (env.set i (some v)) s1) (fun x s1 => D.ex x env s1) := .rfl
@[simp] theorem wAsg_app {t : Tg} : wAsg t a D env s ↔ a env s (fun v s1 => ∃ env', t.put v env = some env' ∧ D.nx env' s1) (fun x s1 => D.ex x env s1) := .rfl
@[simp] theorem wPar_app {i j : Nat} : wPar i j wa D env s ↔ wa env s (fun vs s1 => ∃ v w, vs = [v, w] ∧ D.nx ((env.set i (some v)).set j (some w)) s1) (fun x s1 => D.ex x env s1) := .rfl
@[simp] theorem wPut_app : wPut wo wi a D env s ↔ a env s (fun v s1 => wo env s1 (fun x s2 => wi env s2 (fun y s3 => oSet x y v s3 (fun s4 => D.nx env s4)) (fun x s1 => D.ex x env s1)) (fun x s1 => D.ex x env s1)) (fun x s1 => D.ex x env s1) := .rfl
@[simp] theorem wAug_app {i : Nat} {op : O2} : wAug i op a D env s ↔ ∃ x, env[i]? = some (some x) ∧ a env s (fun y s1 => op x y s1 (fun z s2 => D.nx (env.set i (some z)) s2)) (fun x s1 => D.ex x env s1) := .rfl
@[simp] theorem wAugS_app {op : O2} : wAugS wo wi op a D env s ↔ wo env s (fun x s1 => wi env s1 (fun y s2 => ∃ (p : Addr) (k : Nat) (xs : List Val) (v : Val), x = .ref p ∧ y = .int (k : Nat) ∧ s2 p = some (.lst xs) ∧ xs[k]? = some v ∧
  a env s2 (fun z s3 => op v z s3 (fun u s4 => ∃ ys, s4 p = some (.lst ys) ∧ k < ys.length ∧ D.nx env (updS s4 p (.lst (ys.set k u))))) (fun x s1 => D.ex x env s1)) (fun x s1 => D.ex x env s1)) (fun x s1 => D.ex x env s1) := .rfl
@[simp] theorem wSetF_app {C : Addr} {f : Str} : wSetF C f wo a D env s ↔ a env s (fun y s1 => wo env s1 (fun x s2 => ∃ p fs, x = .ref p ∧ s2 p = some (.ins C fs) ∧ fs.length < 1000 ∧ D.nx env (updS s2 p (.ins C (putV f y fs)))) (fun x s1 => D.ex x env s1)) (fun x s1 => D.ex x env s1) := .rfl
@[simp] theorem wRaise_app {C : Addr} {f : Str} : wRaise C f wa D env s ↔ wa env s (fun xs s1 => ∃ x, xs = [x] ∧ D.ex ⟨C, [(f, x)]⟩ env s1) (fun x s1 => D.ex x env s1) := .rfl
@[simp] theorem wTryRet_app {C : Addr} {f : Str} {i : Nat} : wTryRet C f i w1 D env s ↔ w1 { D with ex := fun x env' s' => x.cls = C ∧ i < env'.length ∧ ∃ v, x.fs.lookup f = some v ∧ D.rt v s' } env s := .rfl
@[simp] theorem wYes_app : wYes env s QB E ↔ QB true s := .rfl
@[simp] theorem DF_nx {Q : QV} {E : QE} : (DF Q E).nx env s ↔ Q .non s := .rfl
@[simp] theorem DF_rt {Q : QV} {E : QE} : (DF Q E).rt = Q := rfl
@[simp] theorem DF_ex {Q : QV} {E : QE} {x : Exn} : (DF Q E).ex x env s ↔ E x s := .rfl
/-! operators -/
@[simp] theorem oAdd_int {i j : Int} : oAdd (.int i) (.int j) s Q ↔ Q (.int (i + j)) s := .rfl
@[simp] theorem oAdd_tup {xs ys : List Val} : oAdd (.tup xs) (.tup ys) s Q ↔ xs.length + ys.length ≤ 16777216 ∧ Q (.tup (xs ++ ys)) s := .rfl
theorem oI_int {C : Int → Int → Prop} {g : Int → Int → Val} {i j : Int} : oI C g (.int i) (.int j) s Q ↔ C i j ∧ Q (g i j) s :=
  ⟨fun ⟨_, _, e1, e2, c, q⟩ => by cases e1; cases e2; exact ⟨c, q⟩, fun ⟨c, q⟩ => ⟨i, j, rfl, rfl, c, q⟩⟩
@[simp] theorem oAddI_int {i j : Int} : oAddI (.int i) (.int j) s Q ↔ Q (.int (i + j)) s := oI_int.trans (by simp)
@[simp] theorem oSub_int {i j : Int} : oSub (.int i) (.int j) s Q ↔ Q (.int (i - j)) s := oI_int.trans (by simp)
@[simp] theorem oMul_int {i j : Int} : oMul (.int i) (.int j) s Q ↔ i.natAbs.log2 + j.natAbs.log2 < 1000000 ∧ Q (.int (i * j)) s := .rfl
@[simp] theorem oMul_lst {p : Addr} {k : Int} : oMul (.ref p) (.int k) s Q ↔ ∃ xs, s p = some (.lst xs) ∧ k < 2 ^ 40 ∧ -(2 ^ 40) < k ∧ xs.length * k.toNat ≤ 16777216 ∧ ∀ p, s p = none → Q (.ref p) (updS s p (.lst (List.replicate k.toNat xs).flatten)) := .rfl
@[simp] theorem oFdiv_int {i j : Int} : oFdiv (.int i) (.int j) s Q ↔ (0 < j ∧ j.natAbs.log2 < 9000) ∧ Q (.int (i / j)) s := oI_int
@[simp] theorem oMod_int {i j : Int} : oMod (.int i) (.int j) s Q ↔ 0 < j ∧ Q (.int (i % j)) s := oI_int
@[simp] theorem oPow_int {i j : Int} : oPow (.int i) (.int j) s Q ↔ CPow i j ∧ Q (.int (i ^ j.toNat)) s := oI_int
@[simp] theorem oLt_int {i j : Int} : oLt (.int i) (.int j) s Q ↔ Q (.bl (decide (i < j))) s := oI_int.trans (by simp)
@[simp] theorem oLe_int {i j : Int} : oLe (.int i) (.int j) s Q ↔ Q (.bl (decide (i ≤ j))) s := oI_int.trans (by simp)
@[simp] theorem oGt_int {i j : Int} : oGt (.int i) (.int j) s Q ↔ Q (.bl (decide (j < i))) s := oI_int.trans (by simp)
@[simp] theorem oGe_int {i j : Int} : oGe (.int i) (.int j) s Q ↔ Q (.bl (decide (j ≤ i))) s := oI_int.trans (by simp)
@[simp] theorem oIsN_non {neg : Bool} {x : Val} : oIsN neg x .non s Q ↔ Q (.bl (if neg then !isNon x else isNon x)) s := ⟨fun h => h.2, fun h => ⟨rfl, h⟩⟩
@[simp] theorem isNon_non : isNon .non = true := rfl
@[simp] theorem isNon_int {i : Int} : isNon (.int i) = false := rfl
@[simp] theorem isNon_tup {i : List Val} : isNon (.tup i) = false := rfl
@[simp] theorem isNon_ref {i : Addr} : isNon (.ref i) = false := rfl
@[simp] theorem isNon_bl {i : Bool} : isNon (.bl i) = false := rfl
theorem oEq_ok {neg : Bool} {x y : Val} (hx : okD 20 x = true) (hy : okD 20 y = true) : oEq neg x y s Q ↔ Q (.bl (if neg then !veq x y else veq x y)) s := by
  unfold oEq
  constructor
  · rintro (⟨_, _, q⟩ | ⟨a, b, xs, ys, rfl, _⟩)
    · exact q
    · simp [okD] at hx
  · exact fun q => .inl ⟨hx, hy, q⟩
@[simp] theorem okD_int {n : Nat} {i : Int} : okD n (.int i) = true := by cases n <;> rfl
@[simp] theorem okD_bl {n : Nat} {i : Bool} : okD n (.bl i) = true := by cases n <;> rfl
@[simp] theorem okD_non {n : Nat} : okD n .non = true := by cases n <;> rfl
@[simp] theorem okD_str {n : Nat} {i : Str} : okD n (.str i) = true := by cases n <;> rfl
@[simp] theorem okD_tup {n : Nat} {xs : List Val} : okD (n + 1) (.tup xs) = okDs n xs := rfl
@[simp] theorem okDs_nil {n : Nat} : okDs n [] = true := rfl
@[simp] theorem okDs_cons {n : Nat} {x : Val} {xs : List Val} : okDs n (x :: xs) = (okD n x && okDs n xs) := rfl
theorem okDs_map {α : Type} {n : Nat} {f : α → Val} : ∀ {xs : List α}, (∀ x ∈ xs, okD n (f x) = true) → okDs n (xs.map f) = true
  | [], _ => rfl
  | x :: xs, h => by
    rw [List.map_cons, okDs_cons, h x List.mem_cons_self, okDs_map fun y hy => h y (List.mem_cons_of_mem _ hy)]
    rfl
@[simp] theorem veq_int {i j : Int} : veq (.int i) (.int j) = (i == j) := by
  unfold veq
  simp [toPD, PyData.eqv]
@[simp] theorem oEq_int {neg : Bool} {i j : Int} : oEq neg (.int i) (.int j) s Q ↔ Q (.bl (if neg then !(i == j) else i == j)) s := by
  rw [oEq_ok okD_int okD_int, veq_int]
@[simp] theorem oIx_tup {xs : List Val} {i : Int} : oIx (.tup xs) (.int i) s Q ↔ ∃ v, atI xs i = some v ∧ Q v s :=
  ⟨fun ⟨_, v, e, h, q⟩ => by cases e; exact ⟨v, h, q⟩, fun ⟨v, h, q⟩ => ⟨i, v, rfl, h, q⟩⟩
theorem oIx_lst {p : Addr} {xs : List Val} {i : Int} (h : s p = some (.lst xs)) : oIx (.ref p) (.int i) s Q ↔ ∃ v, atI xs i = some v ∧ Q v s := by
  unfold oIx
  simp only [h]
  exact ⟨fun ⟨_, v, e, h, q⟩ => by cases e; exact ⟨v, h, q⟩, fun ⟨v, h, q⟩ => ⟨i, v, rfl, h, q⟩⟩
theorem any_ints {i : Int} : ∀ {ns : List Int}, ((ns.map Val.int).any fun z => veq z (.int i)) = ns.contains i
  | [] => rfl
  | n :: ns => by
    rw [List.map_cons, List.any_cons, any_ints, List.contains_cons, veq_int]
    congr 1
    exact Bool.beq_comm
theorem oIn_ints_tup {neg : Bool} {i : Int} {ns : List Int} : oIn neg (.int i) (.tup (ns.map Val.int)) s Q ↔ Q (.bl (if neg then !ns.contains i else ns.contains i)) s := by
  unfold oIn
  simp only [any_ints, okD_int, okDs_map (fun (x : Int) _ => okD_int), true_and]
theorem oIn_ints_lst {neg : Bool} {p : Addr} {i : Int} {ns : List Int} (h : s p = some (.lst (ns.map Val.int))) : oIn neg (.int i) (.ref p) s Q ↔ Q (.bl (if neg then !ns.contains i else ns.contains i)) s := by
  unfold oIn
  simp only [h, any_ints, okD_int, okDs_map (fun (x : Int) _ => okD_int), true_and]
/-! built-ins -/
@[simp] theorem cInt_one {i : Int} : cInt [.int i] s Q ↔ Q (.int i) s := ⟨fun ⟨_, e, q⟩ => by cases e; exact q, fun q => ⟨i, rfl, q⟩⟩
@[simp] theorem cAbs_one {i : Int} : cAbs [.int i] s Q ↔ Q (.int (if i < 0 then -i else i)) s := ⟨fun ⟨_, e, q⟩ => by cases e; exact q, fun q => ⟨i, rfl, q⟩⟩
@[simp] theorem cGcd_two {i j : Int} : cGcd [.int i, .int j] s Q ↔ Q (.int ((Nat.gcd i.natAbs j.natAbs : Nat) : Int)) s := ⟨fun ⟨_, _, e, q⟩ => by cases e; exact q, fun q => ⟨i, j, rfl, q⟩⟩
@[simp] theorem seqOf_tup {xs : List Val} : seqOf s (.tup xs) = some xs := rfl
@[simp] theorem seqOf_scr {xs : List Val} : seqOf s (.scr xs) = some xs := rfl
theorem seqOf_lst {p : Addr} {xs : List Val} (h : s p = some (.lst xs)) : seqOf s (.ref p) = some xs := by
  unfold seqOf
  simp [h]
theorem cLen_of {x : Val} {ys : List Val} (h : seqOf s x = some ys) : cLen [x] s Q ↔ Q (.int (ys.length : Nat)) s :=
  ⟨fun ⟨_, _, e, h', q⟩ => by cases e; rw [h] at h'; cases h'; exact q, fun q => ⟨x, ys, rfl, h, q⟩⟩
theorem cList_of {x : Val} {ys : List Val} (h : seqOf s x = some ys) : cList [x] s Q ↔ ∀ p, s p = none → Q (.ref p) (updS s p (.lst ys)) :=
  ⟨fun ⟨_, _, e, h', q⟩ => by cases e; rw [h] at h'; cases h'; exact q, fun q => ⟨x, ys, rfl, h, q⟩⟩
theorem cTuple_of {x : Val} {ys : List Val} (h : seqOf s x = some ys) : cTuple [x] s Q ↔ Q (.tup ys) s :=
  ⟨fun ⟨_, _, e, h', q⟩ => by cases e; rw [h] at h'; cases h'; exact q, fun q => ⟨x, ys, rfl, h, q⟩⟩
end
@[simp] theorem updS_self {s : Store} {a : Addr} {o : Ob} : updS s a o a = some o := updS_same
/-! ### stores that only grow -/
def Sub (s s' : Store) : Prop := ∀ a o, s a = some o → s' a = some o
theorem Sub.refl (s : Store) : Sub s s := fun _ _ h => h
theorem Sub.trans {s s' s'' : Store} (h : Sub s s') (h' : Sub s' s'') : Sub s s'' := fun a o e => h' a o (h a o e)
theorem Sub.new {s : Store} {p : Addr} {o : Ob} (h : s p = none) : Sub s (updS s p o) := fun a o' e => by
  by_cases hp : a = p
  · rw [hp, h] at e; cases e
  · rw [updS_ne hp]; exact e
theorem Sub.upd {s s' : Store} {p : Addr} {o : Ob} (h : Sub s s') (hp : s p = none) : Sub s (updS s' p o) := fun a o' e => by
  by_cases hq : a = p
  · rw [hq, hp] at e; cases e
  · rw [updS_ne hq]; exact h a o' e
theorem Sub.seq {s s' : Store} {x : Val} {xs : List Val} (h : Sub s s') (e : seqOf s x = some xs) : seqOf s' x = some xs := by
  cases x with
  | ref a => exact seqOf_lst (h _ _ (seqOf_ref e))
  | _ => exact e
/-! ### loops -/
def FB (it : DIt) (t : Tg) (b : WS) (D : DE) (env : Env) (s : Store) : Prop := ∃ (n : Nat) (I : Nat → Env → Store → Prop), I 0 env s ∧ ∀ i env2 s2, I i env2 s2 →
  (it.at_ i s2 = some none ∧ D.nx env2 s2) ∨ (i < n ∧ ∃ x env3, it.at_ i s2 = some (some x) ∧ t.put x env2 = some env3 ∧ b { D with nx := I (i + 1), ct := I (i + 1), bk := D.nx } env3 s2)
section
variable {env : Env} {s : Store} {D : DE} {a : WE} {wa : WA} {t : Tg} {b : WS}
theorem wFor_app {wi : WI} : wFor wi t b D env s ↔ wi env s (fun it s1 => FB it t b D env s1) (fun x s1 => D.ex x env s1) := .rfl
/-- over what stays: xs at every turn -/
theorem FB.of {it : DIt} (xs : List Val) (P : Nat → Env → Store → Prop) (h0 : P 0 env s) (hat : ∀ i env2 s2, P i env2 s2 → it.at_ i s2 = some xs[i]?)
    (hs : ∀ i x env2 s2, xs[i]? = some x → P i env2 s2 → ∃ env3, t.put x env2 = some env3 ∧ b { D with nx := P (i + 1), ct := P (i + 1), bk := D.nx } env3 s2)
    (hd : ∀ i env2 s2, xs.length ≤ i → P i env2 s2 → D.nx env2 s2) : FB it t b D env s := by
  refine ⟨xs.length, P, h0, fun i env2 s2 hp => ?_⟩
  rcases Nat.lt_or_ge i xs.length with hlt | hge
  · obtain ⟨env3, h1, h2⟩ := hs i xs[i] env2 s2 (List.getElem?_eq_getElem hlt) hp
    exact .inr ⟨hlt, xs[i], env3, by rw [hat i env2 s2 hp, List.getElem?_eq_getElem hlt], h1, h2⟩
  · exact .inl ⟨by rw [hat _ env2 s2 hp, List.getElem?_eq_none hge], hd _ _ _ hge hp⟩
theorem dT_at {xs : List Val} {i : Nat} : (dT xs).at_ i s = some xs[i]? := rfl
theorem dL_at {p : Addr} {xs : List Val} {i : Nat} (h : s p = some (.lst xs)) : (dL p).at_ i s = some xs[i]? := by
  simp only [dL, h]
theorem dR_at {lo : Int} {n i : Nat} : (dR lo n).at_ i s = some (((List.range n).map fun k => Val.int (lo + (k : Nat)))[i]?) := by
  simp only [dR]
  by_cases h : i < n
  · rw [if_pos h, List.getElem?_map, List.getElem?_range h]
    rfl
  · rw [if_neg h, List.getElem?_map, List.getElem?_eq_none (by simpa using h)]
    rfl
/-- pairs of place and item -/
def enumV (xs : List Val) : List Val := xs.mapIdx fun i x => .tup [.int (i : Nat), x]
theorem pairD_at {xs : List Val} {i : Nat} : pairD i xs[i]? = (enumV xs)[i]? := by
  unfold enumV
  rw [List.getElem?_mapIdx]
  cases xs[i]? <;> rfl
theorem dET_at {xs : List Val} {i : Nat} : (dET xs).at_ i s = some (enumV xs)[i]? := by
  simp only [dET, pairD_at]
theorem dEL_at {p : Addr} {xs : List Val} {i : Nat} (h : s p = some (.lst xs)) : (dEL p).at_ i s = some (enumV xs)[i]? := by
  simp only [dEL, h, pairD_at]
def zipV (xs ys : List Val) : List Val := (xs.zip ys).map fun p => .tup [p.1, p.2]
theorem pair2_at : ∀ {xs ys : List Val} {i : Nat}, pair2 xs[i]? ys[i]? = (zipV xs ys)[i]?
  | [], ys, i => by simp [pair2, zipV]
  | x :: xs, [], i => by
    simp only [zipV, List.zip_nil_right, List.map_nil, List.getElem?_nil]
    cases (x :: xs)[i]? <;> rfl
  | x :: xs, y :: ys, 0 => rfl
  | x :: xs, y :: ys, i + 1 => by
    simpa [zipV] using pair2_at (xs := xs) (ys := ys) (i := i)
theorem dZT_at {xs ys : List Val} {i : Nat} : (dZT xs ys).at_ i s = some (zipV xs ys)[i]? := by
  simp only [dZT, pair2_at]
theorem dZL_at {p q : Addr} {xs ys : List Val} {i : Nat} (h : s p = some (.lst xs)) (h' : s q = some (.lst ys)) : (dZL p q).at_ i s = some (zipV xs ys)[i]? := by
  simp only [dZL, h, h', pair2_at]
end
/-! ### comprehensions -/
def LB (it : DIt) (t : Tg) (tt : WB) (te : WE) (vs : List Nat) (env : Env) (Q : QV) (s1 : Store) : Prop := ∀ p, s1 p = none → ∃ (n : Nat) (I : Nat → Store → Prop), I 0 (updS s1 p (.lst [])) ∧ ∀ i s2, I i s2 →
  (it.at_ i s2 = some none ∧ Q (.ref p) s2) ∨ (i < n ∧ ∃ x env3, it.at_ i s2 = some (some x) ∧ t.put x (wipeE env vs) = some env3 ∧ tt env3 s2 (fun b s3 =>
    if b = true then te env3 s3 (fun v s4 => ∃ acc, s4 p = some (.lst acc) ∧ acc.length < 16777216 ∧ I (i + 1) (updS s4 p (.lst (acc ++ [v])))) (fun _ _ => False) else I (i + 1) s3) (fun _ _ => False))
section
variable {env : Env} {s s1 : Store} {Q : QV} {E : QE} {t : Tg} {tt : WB} {te : WE} {vs : List Nat} {it : DIt}
theorem wLc_app {wi : WI} : wLc wi t tt te vs env s Q E ↔ wi env s (fun it s1 => LB it t tt te vs env Q s1) E := .rfl
/-- the items told one by one; the store is anything that R says (of the store without the new list, of what was told) -/
theorem LB.of (xs : List Val) (hat : ∀ i s2, Sub s1 s2 → it.at_ i s2 = some xs[i]?) (hn : xs.length ≤ 16777216) (f : Val → Bool) (g : Val → Val)
    (hs : ∀ x ∈ xs, ∀ s2, Sub s1 s2 → ∃ env3, t.put x (wipeE env vs) = some env3 ∧ ∀ (Q1 : Bool → Store → Prop), (∀ s3, Sub s2 s3 → Q1 (f x) s3) → tt env3 s2 Q1 (fun _ _ => False))
    (he : ∀ x ∈ xs, f x = true → ∀ s2, Sub s1 s2 → ∀ env3, t.put x (wipeE env vs) = some env3 → ∀ (Q1 : QV), (∀ s3, Sub s2 s3 → Q1 (g x) s3) → te env3 s2 Q1 (fun _ _ => False))
    (hd : ∀ p s2, s1 p = none → Sub s1 s2 → s2 p = some (.lst ((xs.filter f).map g)) → Q (.ref p) s2) : LB it t tt te vs env Q s1 := by
  intro p hp
  refine ⟨xs.length, fun i s2 => Sub s1 s2 ∧ s2 p = some (.lst (((xs.take i).filter f).map g)), ⟨(Sub.refl _).upd hp, by simp⟩, fun i s2 ⟨hsub, hl⟩ => ?_⟩
  rcases Nat.lt_or_ge i xs.length with hlt | hge
  · have hx : xs[i]? = some xs[i] := List.getElem?_eq_getElem hlt
    have hm : xs[i] ∈ xs := List.getElem_mem hlt
    obtain ⟨env3, h1, h2⟩ := hs xs[i] hm s2 hsub
    refine .inr ⟨hlt, xs[i], env3, by rw [hat i s2 hsub, hx], h1, h2 _ fun s3 k3 => ?_⟩
    have ht : xs.take (i + 1) = xs.take i ++ [xs[i]] := by rw [List.take_succ, hx]; rfl
    by_cases hf : f xs[i] = true
    · rw [if_pos hf]
      refine he xs[i] hm hf s3 (hsub.trans k3) env3 h1 _ fun s4 k4 => ⟨_, k4 _ _ (k3 _ _ hl), ?_, (hsub.trans (k3.trans k4)).upd hp, ?_⟩
      · have h1 : (((xs.take i).filter f).map g).length ≤ (xs.take i).length := by rw [List.length_map]; exact List.length_filter_le _ _
        rw [List.length_take] at h1
        omega
      · rw [updS_self, ht, List.filter_append, List.map_append]
        simp [hf]
    · rw [if_neg hf]
      refine ⟨hsub.trans k3, ?_⟩
      rw [k3 _ _ hl, ht, List.filter_append]
      simp [hf]
  · exact .inl ⟨by rw [hat i s2 hsub, List.getElem?_eq_none hge], hd p s2 hp hsub (by rw [hl, List.take_of_length_le hge])⟩
/-- without tests -/
theorem LB.map (xs : List Val) (hat : ∀ i s2, Sub s1 s2 → it.at_ i s2 = some xs[i]?) (hn : xs.length ≤ 16777216) (g : Val → Val)
    (he : ∀ x ∈ xs, ∀ s2, Sub s1 s2 → ∃ env3, t.put x (wipeE env vs) = some env3 ∧ ∀ (Q1 : QV), (∀ s3, Sub s2 s3 → Q1 (g x) s3) → te env3 s2 Q1 (fun _ _ => False))
    (hd : ∀ p s2, s1 p = none → Sub s1 s2 → s2 p = some (.lst (xs.map g)) → Q (.ref p) s2) : LB it t wYes te vs env Q s1 :=
  LB.of xs hat hn (fun _ => true) g (fun x hx s2 k => let ⟨env3, h1, _⟩ := he x hx s2 k; ⟨env3, h1, fun Q1 h => h s2 (Sub.refl _)⟩)
    (fun x hx _ s2 k env3 h Q1 hq => by
      obtain ⟨env4, h1, h2⟩ := he x hx s2 k
      rw [h] at h1
      cases h1
      exact h2 Q1 hq)
    (fun p s2 h1 h2 h3 => hd p s2 h1 h2 (by rw [h3, List.filter_eq_self.mpr (fun _ _ => rfl)]))
end
section
variable {env : Env} {s : Store} {a : WE} {wa : WA} {E : QE} {R : DIt → Store → Prop}
theorem wISeq_app : wISeq a env s R E ↔ a env s (fun v s1 => match v with
  | .tup xs => R (dT xs) s1
  | .ref c => (∃ xs, s1 c = some (.lst xs)) ∧ R (dL c) s1
  | _ => False) E := .rfl
@[simp] theorem wIR1_app : wIR1 wa env s R E ↔ wa env s (fun vs s1 => ∃ j : Int, vs = [.int j] ∧ -(2 ^ 62) ≤ j ∧ j < 2 ^ 62 ∧ R (dR 0 j.toNat) s1) E := .rfl
@[simp] theorem wIR2_app : wIR2 wa env s R E ↔ wa env s (fun vs s1 => ∃ i j : Int, vs = [.int i, .int j] ∧ (-(2 ^ 62) ≤ i ∧ i < 2 ^ 62 ∧ -(2 ^ 62) ≤ j ∧ j < 2 ^ 62) ∧ R (dR i (j - i).toNat) s1) E := .rfl
end
end Y
set_option Elab.async false
set_option linter.all false
set_option maxRecDepth 100000
set_option maxHeartbeats 4000000
set_option autoImplicit false
/-! readings of the defs of k76's text -/
namespace Y
open PySem L2

def r_shortened : WS :=
  (wSeq (wSet 1 (wC (.int 0)))
  (wSeq (wFor (wISeq (wVar 0)) (.nm 2) (wSet 1 (wCall cGcd (waCons (wVar 1) (waCons (wVar 2) waNil)))))
  (wSeq (wIf (wTest (wOp (oEq false) (wVar 1) (wC (.int 0)))) (wRet (wCall cTuple (waCons (wVar 0) waNil))) wNext)
  (wRet (wCall cTuple (waCons (wLc (wISeq (wVar 0)) (.nm 2) wYes (wOp oFdiv (wVar 2) (wVar 1)) [2]) waNil))))))

def r_reduced (p_shortened : PT) : WS :=
  (wSeq (wFor (wISeq (wVar 1)) (.tp [(.nm 2), (.nm 3)]) (wIf (wTest (wOp (oEq true) (wOp oIx (wVar 0) (wVar 2)) (wC (.int 0)))) (wSeq (wAsg (.tp [(.nm 4), (.nm 5)]) (wTup (waCons (wOp oIx (wVar 3) (wVar 2)) (waCons (wOp oIx (wVar 0) (wVar 2)) waNil))))
  (wSet 0 (wCallF 1 p_shortened (waCons (wLc (wIZip (waCons (wVar 0) (waCons (wVar 3) waNil))) (.tp [(.nm 6), (.nm 7)]) wYes (wOp oSub (wOp oMul (wVar 4) (wVar 6)) (wOp oMul (wVar 5) (wVar 7))) [6, 7]) waNil)))) wNext))
  (wRet (wVar 0)))

def r_independent (p_reduced : PT) : WS :=
  (wSeq (wSet 1 (wLst waNil))
  (wSeq (wSet 2 (wLst waNil))
  (wSeq (wFor (wIEnum (waCons (wVar 0) waNil)) (.tp [(.nm 3), (.nm 4)]) (wSeq (wSet 5 (wCallF 2 p_reduced (waCons (wCall cTuple (waCons (wVar 4) waNil)) (waCons (wVar 1) waNil))))
  (wSeq (wSet 6 (wLc (wIEnum (waCons (wVar 5) waNil)) (.tp [(.nm 7), (.nm 8)]) (wTest (wOp (oEq true) (wVar 8) (wC (.int 0)))) (wVar 7) [7, 8]))
  (wIf (wTest (wOp oGt (wCall cLen (waCons (wVar 6) waNil)) (wC (.int 0)))) (wSeq (wDrop (wMeth "list" mAppend (wVar 1) (waCons (wTup (waCons (wOp oIx (wVar 6) (wC (.int 0))) (waCons (wVar 5) waNil))) waNil)))
  (wDrop (wMeth "list" mAppend (wVar 2) (waCons (wVar 3) waNil)))) wNext))))
  (wRet (wVar 2)))))

def r_edge_table : WS :=
  (wSeq (wSet 3 (wNewD 1))
  (wSeq (wFor (wIEnum (waCons (wVar 2) waNil)) (.tp [(.nm 4), (.tp [(.nm 5), (.nm 6), (.nm 7)])]) (wSeq (wSet 8 (wAndV (wChain oLe oLt (wC (.int 0)) (wVar 5) (wVar 1)) (wAndV (wChain oLe oLt (wC (.int 0)) (wVar 6) (wVar 0)) (wChain oLe oLt (wC (.int 0)) (wVar 7) (wVar 1)))))
  (wSeq (wIf (wOr (wNot (wTest (wVar 8))) (wTest (wOp (oIn false) (wTup (waCons (wVar 5) (waCons (wVar 6) waNil))) (wVar 3)))) wNever wNext)
  (wPut (wVar 3) (wTup (waCons (wVar 5) (waCons (wVar 6) waNil))) (wVar 7)))))
  (wRet (wVar 3))))

def r_find_trails : WS :=
  (wSeq (wSet 2 (wOp oMul (wLst (waCons (wC .non) waNil)) (wVar 0)))
  (wSeq (wPut (wVar 2) (wC (.int 0)) (wTup waNil))
  (wSeq (wSet 3 (wLst (waCons (wC (.int 0)) waNil)))
  (wSeq (wSet 4 (wC (.int 0)))
  (wSeq (wWhile (wTest (wOp oLt (wVar 4) (wCall cLen (waCons (wVar 3) waNil)))) (wSeq (wSet 5 (wOp oIx (wVar 3) (wVar 4)))
  (wSeq (wFor (wIEnum (waCons (wVar 1) waNil)) (.tp [(.nm 6), (.nm 7)]) (wIf (wAnd (wTest (wOp (oEq false) (wOp oIx (wVar 7) (wC (.int 0))) (wVar 5))) (wTest (wOp (oIsN false) (wOp oIx (wVar 2) (wOp oIx (wVar 7) (wC (.int 2)))) (wC .non)))) (wSeq (wPut (wVar 2) (wOp oIx (wVar 7) (wC (.int 2))) (wOp oAdd (wOp oIx (wVar 2) (wVar 5)) (wTup (waCons (wVar 6) waNil))))
  (wDrop (wMeth "list" mAppend (wVar 3) (waCons (wOp oIx (wVar 7) (wC (.int 2))) waNil)))) wNext))
  (wAug 4 oAddI (wC (.int 1))))))
  (wRet (wVar 2)))))))

def r_count : WS :=
  (wSeq (wSet 2 (wOp oMul (wLst (waCons (wC (.int 0)) waNil)) (wVar 0)))
  (wSeq (wFor (wISeq (wVar 1)) (.nm 3) (wAugS (wVar 2) (wVar 3) oAddI (wC (.int 1))))
  (wRet (wCall cTuple (waCons (wVar 2) waNil)))))

def r_round_row : WS :=
  (wSeq (wAsg (.tp [(.nm 2), (.nm 3), (.nm 4)]) (wVar 1))
  (wSeq (wSet 5 (wLc (wIZip (waCons (wOp oIx (wVar 0) (wVar 2)) (waCons (wOp oIx (wVar 0) (wVar 4)) waNil))) (.tp [(.nm 6), (.nm 7)]) wYes (wOp oSub (wVar 6) (wVar 7)) [6, 7]))
  (wSeq (wAugS (wVar 5) (wVar 3) oAddI (wC (.int 1)))
  (wRet (wCall cTuple (waCons (wVar 5) waNil))))))

def r_Chart___init__ (C_Chart : Addr) (p_edge_table : PT) (p_find_trails : PT) (p_paths : PT) (p_count : PT) (p_round_row : PT) (p_independent : PT) : WS :=
  (wSeq (wIf (wTest (wOp oGt (wVar 1) (wC (.int 5)))) wNever wNext)
  (wSeq (wIf (wTest (wOp oGt (wVar 2) (wC (.int 10)))) wNever wNext)
  (wSeq (wSetF C_Chart "_targets" (wVar 0) (wCallF 3 p_edge_table (waCons (wVar 1) (waCons (wVar 2) (waCons (wVar 3) waNil)))))
  (wSeq (wSetF C_Chart "actions" (wVar 0) (wVar 1))
  (wSeq (wSetF C_Chart "states" (wVar 0) (wVar 2))
  (wSeq (wSetF C_Chart "edges" (wVar 0) (wCall cTuple (waCons (wCall (cSortT 3 16) (waCons (wLc (wISeq (wVar 3)) (.nm 4) wYes (wCall cTuple (waCons (wVar 4) waNil)) [4]) waNil)) waNil)))
  (wSeq (wSetF C_Chart "_trails" (wVar 0) (wCallF 2 p_find_trails (waCons (wVar 2) (waCons (wFld C_Chart "edges" (wVar 0)) waNil))))
  (wSeq (wFor (wIR1 (waCons (wVar 2) waNil)) (.nm 5) (wIf (wTest (wOp (oIsN false) (wOp oIx (wFld C_Chart "_trails" (wVar 0)) (wVar 5)) (wC .non))) wNever wNext))
  (wSeq (wSetF C_Chart "_points" (wVar 0) (wLc (wISeq (wCallF 1 p_paths (waCons (wVar 0) waNil))) (.nm 6) wYes (wCallF 2 p_count (waCons (wVar 1) (waCons (wVar 6) waNil))) [6]))
  (wSeq (wSet 7 (wLc (wISeq (wFld C_Chart "edges" (wVar 0))) (.nm 4) wYes (wCallF 2 p_round_row (waCons (wFld C_Chart "_points" (wVar 0)) (waCons (wVar 4) waNil))) [4]))
  (wSetF C_Chart "_rounds" (wVar 0) (wCallF 1 p_independent (waCons (wVar 7) waNil)))))))))))))

def r_Chart_after (C_Chart : Addr) : WS :=
  (wRet (wGet (wFld C_Chart "_targets" (wVar 0)) (wTup (waCons (wVar 1) (waCons (wVar 2) waNil)))))

def r_Chart_enabled (C_Chart : Addr) : WS :=
  (wRet (wLc (wIR1 (waCons (wFld C_Chart "actions" (wVar 0)) waNil)) (.nm 2) (wTest (wOp (oIn false) (wTup (waCons (wVar 1) (waCons (wVar 2) waNil))) (wFld C_Chart "_targets" (wVar 0)))) (wVar 2) [2]))

def r_Chart___contains__ (C_Chart : Addr) : WS :=
  (wSeq (wSet 2 (wC (.int 0)))
  (wSeq (wFor (wISeq (wVar 1)) (.nm 3) (wSeq (wSet 2 (wGet (wFld C_Chart "_targets" (wVar 0)) (wTup (waCons (wVar 2) (waCons (wVar 3) waNil)))))
  (wIf (wTest (wOp (oIsN false) (wVar 2) (wC .non))) (wRet (wC (.bl false))) wNext)))
  (wRet (wC (.bl true)))))

def r_paths (C_Chart : Addr) : WS :=
  (wRet (wLc (wISeq (wFld C_Chart "_trails" (wVar 0))) (.nm 2) wYes (wCall cTuple (waCons (wLc (wISeq (wVar 2)) (.nm 1) wYes (wOp oIx (wOp oIx (wFld C_Chart "edges" (wVar 0)) (wVar 1)) (wC (.int 1))) [1]) waNil)) [2]))

def r_reached_by (C_Chart : Addr) : WS :=
  (wSeq (wSet 2 (wLst (waCons (wC (.int 0)) waNil)))
  (wSeq (wSet 3 (wC (.int 0)))
  (wSeq (wWhile (wTest (wOp oLt (wVar 3) (wCall cLen (waCons (wVar 2) waNil)))) (wSeq (wFor (wISeq (wVar 1)) (.nm 4) (wSeq (wAsg (.tp [(.nm 5), (.nm 6), (.nm 7)]) (wOp oIx (wFld C_Chart "edges" (wVar 0)) (wVar 4)))
  (wIf (wAnd (wTest (wOp (oEq false) (wVar 5) (wOp oIx (wVar 2) (wVar 3)))) (wTest (wOp (oIn true) (wVar 7) (wVar 2)))) (wDrop (wMeth "list" mAppend (wVar 2) (waCons (wVar 7) waNil))) wNext)))
  (wAug 3 oAddI (wC (.int 1)))))
  (wRet (wCall cSortI (waCons (wVar 2) waNil))))))

def r_part (C_Chart : Addr) (p_reached_by : PT) (p_Chart___init__ : PT) : WS :=
  (wSeq (wSet 2 (wCallF 2 p_reached_by (waCons (wVar 0) (waCons (wVar 1) waNil))))
  (wSeq (wSet 3 (wLc (wISeq (wVar 1)) (.nm 4) wYes (wOp oIx (wFld C_Chart "edges" (wVar 0)) (wVar 4)) [4]))
  (wSeq (wFor (wISeq (wVar 3)) (.tp [(.nm 5), (.nm 6), (.nm 6)]) (wIf (wTest (wOp (oIn true) (wVar 5) (wVar 2))) wNever wNext))
  (wSeq (wSet 7 (wDc (wIEnum (waCons (wVar 2) waNil)) (.tp [(.nm 4), (.nm 8)]) wYes (wVar 8) (wVar 4) [4, 8]))
  (wSeq (wSet 9 (wLc (wISeq (wVar 3)) (.tp [(.nm 5), (.nm 10), (.nm 11)]) wYes (wTup (waCons (wOp oIx (wVar 7) (wVar 5)) (waCons (wVar 10) (waCons (wOp oIx (wVar 7) (wVar 11)) waNil)))) [5, 10, 11]))
  (wRet (wMakeF C_Chart 4 p_Chart___init__ (waCons (wFld C_Chart "actions" (wVar 0)) (waCons (wCall cLen (waCons (wVar 2) waNil)) (waCons (wVar 9) waNil))))))))))

def r_lost_states (C_Chart : Addr) : WS :=
  (wSeq (wSet 3 (wCall cList (waCons (wVar 1) waNil)))
  (wSeq (wFor (wIR1 (waCons (wFld C_Chart "states" (wVar 0)) waNil)) (.nm 4) (wFor (wISeq (wFld C_Chart "edges" (wVar 0))) (.tp [(.nm 5), (.nm 6), (.nm 7)]) (wIf (wAnd (wTest (wOp (oIn true) (wVar 6) (wVar 2))) (wAnd (wTest (wOp (oIn false) (wVar 7) (wVar 3))) (wTest (wOp (oIn true) (wVar 5) (wVar 3))))) (wDrop (wMeth "list" mAppend (wVar 3) (waCons (wVar 5) waNil))) wNext)))
  (wRet (wCall cSortI (waCons (wVar 3) waNil)))))

def r_lost_word (C_Chart : Addr) (p_Chart_enabled : PT) (p_Chart_after : PT) : WS :=
  (wSeq (wSet 3 (wDisp1 (wC (.int 0)) (wTup waNil)))
  (wSeq (wSet 4 (wLst (waCons (wC (.int 0)) waNil)))
  (wSeq (wSet 5 (wC (.int 0)))
  (wSeq (wWhile (wTest (wOp (oIn true) (wOp oIx (wVar 4) (wVar 5)) (wVar 1))) (wSeq (wSet 6 (wOp oIx (wVar 4) (wVar 5)))
  (wSeq (wFor (wISeq (wMethF C_Chart "enabled" 2 p_Chart_enabled (wVar 0) (waCons (wVar 6) waNil))) (.nm 7) (wSeq (wSet 8 (wMethF C_Chart "after" 3 p_Chart_after (wVar 0) (waCons (wVar 6) (waCons (wVar 7) waNil))))
  (wIf (wAnd (wTest (wOp (oIn true) (wVar 7) (wVar 2))) (wTest (wOp (oIn true) (wVar 8) (wVar 3)))) (wSeq (wPut (wVar 3) (wVar 8) (wOp oAdd (wOp oIx (wVar 3) (wVar 6)) (wTup (waCons (wVar 7) waNil))))
  (wDrop (wMeth "list" mAppend (wVar 4) (waCons (wVar 8) waNil)))) wNext)))
  (wAug 5 oAddI (wC (.int 1))))))
  (wRet (wOp oIx (wVar 3) (wOp oIx (wVar 4) (wVar 5))))))))

def r_safe_states (C_Lost : Addr) (C_Chart : Addr) (p_lost_states : PT) (p_lost_word : PT) : WS :=
  (wSeq (wSet 3 (wCallF 3 p_lost_states (waCons (wVar 0) (waCons (wVar 1) (waCons (wVar 2) waNil)))))
  (wSeq (wIf (wTest (wOp (oIn false) (wC (.int 0)) (wVar 3))) (wSeq (wSet 4 (wCallF 3 p_lost_word (waCons (wVar 0) (waCons (wVar 1) (waCons (wVar 2) waNil)))))
  (wRaise C_Lost "word" (waCons (wVar 4) waNil))) wNext)
  (wSeq (wSet 5 (wLst (waCons (wC (.int 0)) waNil)))
  (wSeq (wFor (wIR1 (waCons (wFld C_Chart "states" (wVar 0)) waNil)) (.nm 6) (wFor (wISeq (wFld C_Chart "edges" (wVar 0))) (.nm 7) (wIf (wAnd (wTest (wOp (oIn false) (wOp oIx (wVar 7) (wC (.int 0))) (wVar 5))) (wAnd (wTest (wOp (oIn true) (wOp oIx (wVar 7) (wC (.int 2))) (wVar 3))) (wTest (wOp (oIn true) (wOp oIx (wVar 7) (wC (.int 2))) (wVar 5))))) (wDrop (wMeth "list" mAppend (wVar 5) (waCons (wOp oIx (wVar 7) (wC (.int 2))) waNil))) wNext)))
  (wRet (wCall cSortI (waCons (wVar 5) waNil)))))))

def r_safe_edges (C_Chart : Addr) (p_safe_states : PT) : WS :=
  (wSeq (wSet 3 (wCallF 3 p_safe_states (waCons (wVar 0) (waCons (wVar 1) (waCons (wVar 2) waNil)))))
  (wRet (wCall cTuple (waCons (wLc (wIEnum (waCons (wFld C_Chart "edges" (wVar 0)) waNil)) (.tp [(.nm 4), (.nm 5)]) (wAnd (wTest (wOp (oIn false) (wOp oIx (wVar 5) (wC (.int 0))) (wVar 3))) (wTest (wOp (oIn false) (wOp oIx (wVar 5) (wC (.int 2))) (wVar 3)))) (wVar 4) [4, 5]) waNil))))

def r_safe_chart (p_part : PT) (p_safe_edges : PT) : WS :=
  (wRet (wCallF 2 p_part (waCons (wVar 0) (waCons (wCallF 3 p_safe_edges (waCons (wVar 0) (waCons (wVar 1) (waCons (wVar 2) waNil)))) waNil))))

def r__law_mixed : WS :=
  (wSeq (wSet 2 (wOp oAdd (wOp oAdd (wOp oMul (wCall cInt (waCons (wVar 0) waNil)) (wC (.int 48271))) (wOp oMul (wVar 1) (wC (.int 69621)))) (wC (.int 12345))))
  (wSeq (wSet 2 (wOp oAdd (wOp oAdd (wOp oMul (wCall cInt (waCons (wOp oMod (wCall cInt (waCons (wVar 2) waNil)) (wC (.int 2147483647))) waNil)) (wC (.int 16807))) (wOp oMul (wVar 1) (wC (.int 40692)))) (wC (.int 97))))
  (wRet (wOp oMod (wCall cInt (waCons (wVar 2) waNil)) (wC (.int 2147483399))))))

def r__law_take (p__law_mixed : PT) : WS :=
  (wSeq (wPut (wVar 0) (wC (.int 3)) (wOp oAdd (wOp oIx (wVar 0) (wC (.int 3))) (wC (.int 1))))
  (wSeq (wIf (wAnd (wTest (wOp (oEq false) (wOp oIx (wVar 0) (wC (.int 2))) (wC (.int 0)))) (wTest (wOp oLt (wOp oIx (wVar 0) (wC (.int 1))) (wCall cLen (waCons (wOp oIx (wVar 0) (wC (.int 0))) waNil))))) (wSeq (wSet 2 (wCall cAbs (waCons (wOp oIx (wOp oIx (wVar 0) (wC (.int 0))) (wOp oIx (wVar 0) (wC (.int 1)))) waNil)))
  (wSeq (wPut (wVar 0) (wC (.int 1)) (wOp oAdd (wOp oIx (wVar 0) (wC (.int 1))) (wC (.int 1))))
  (wSeq (wIf (wTest (wOp oLt (wVar 2) (wOp oPow (wC (.int 10)) (wC (.int 18))))) (wSeq (wPut (wVar 0) (wC (.int 4)) (wCallF 2 p__law_mixed (waCons (wOp oAdd (wOp oIx (wVar 0) (wC (.int 4))) (wVar 2)) (waCons (wOp oIx (wVar 0) (wC (.int 3))) waNil))))
  (wRet (wOp oMod (wCall cInt (waCons (wOp oFdiv (wOp oIx (wVar 0) (wC (.int 4))) (wC (.int 5))) waNil)) (wVar 1)))) wNext)
  (wPut (wVar 0) (wC (.int 2)) (wVar 2))))) wNext)
  (wSeq (wIf (wTest (wOp oGt (wOp oIx (wVar 0) (wC (.int 2))) (wC (.int 0)))) (wSeq (wSet 2 (wOp oIx (wVar 0) (wC (.int 2))))
  (wSeq (wPut (wVar 0) (wC (.int 2)) (wOp oFdiv (wVar 2) (wVar 1)))
  (wRet (wOp oMod (wCall cInt (waCons (wVar 2) waNil)) (wVar 1))))) wNext)
  (wSeq (wPut (wVar 0) (wC (.int 4)) (wCallF 2 p__law_mixed (waCons (wOp oIx (wVar 0) (wC (.int 4))) (waCons (wOp oIx (wVar 0) (wC (.int 3))) waNil))))
  (wRet (wOp oMod (wCall cInt (waCons (wOp oFdiv (wOp oIx (wVar 0) (wC (.int 4))) (wC (.int 7))) waNil)) (wVar 1)))))))

def r__law_place : WS :=
  (wSeq (wFor (wIR1 (waCons (wVar 3) waNil)) (.nm 5) (wFor (wIR1 (waCons (wVar 4) waNil)) (.nm 6) (wSeq (wSet 7 (wTup (waCons (wOp oMod (wCall cInt (waCons (wOp oAdd (wVar 1) (wVar 5)) waNil)) (wVar 3)) (waCons (wOp oMod (wCall cInt (waCons (wOp oAdd (wVar 2) (wVar 6)) waNil)) (wVar 4)) waNil))))
  (wIf (wTest (wOp (oIn true) (wVar 7) (wVar 0))) (wRet (wVar 7)) wNext))))
  (wRet (wC .non)))

def r__law_edges (p__law_take : PT) (p__law_place : PT) : WS :=
  (wSeq (wSet 3 (wNewD 1))
  (wSeq (wFor (wIR2 (waCons (wC (.int 1)) (waCons (wVar 2) waNil))) (.nm 4) (wSeq (wSet 5 (wCallF 2 p__law_take (waCons (wVar 0) (waCons (wVar 4) waNil))))
  (wSeq (wSet 6 (wCallF 2 p__law_take (waCons (wVar 0) (waCons (wVar 1) waNil))))
  (wPut (wVar 3) (wCallF 5 p__law_place (waCons (wVar 3) (waCons (wVar 5) (waCons (wVar 6) (waCons (wVar 4) (waCons (wVar 1) waNil)))))) (wVar 4)))))
  (wSeq (wSet 7 (wOp oAdd (wC (.int 2)) (wCallF 2 p__law_take (waCons (wVar 0) (waCons (wC (.int 5)) waNil)))))
  (wSeq (wFor (wIR1 (waCons (wVar 2) waNil)) (.nm 8) (wFor (wIR1 (waCons (wVar 1) waNil)) (.nm 9) (wIf (wAnd (wTest (wOp (oIn true) (wTup (waCons (wVar 8) (waCons (wVar 9) waNil))) (wVar 3))) (wTest (wOp (oEq false) (wCallF 2 p__law_take (waCons (wVar 0) (waCons (wVar 7) waNil))) (wC (.int 0))))) (wPut (wVar 3) (wTup (waCons (wVar 8) (waCons (wVar 9) waNil))) (wCallF 2 p__law_take (waCons (wVar 0) (waCons (wVar 2) waNil)))) wNext)))
  (wRet (wLc (wISeq (wCall (cSortT 2 16) (waCons (wKeys (wVar 3)) waNil))) (.nm 10) wYes (wTup (waCons (wOp oIx (wVar 10) (wC (.int 0))) (waCons (wOp oIx (wVar 10) (wC (.int 1))) (waCons (wOp oIx (wVar 3) (wVar 10)) waNil)))) [10]))))))

def r__law_chart (p__law_take : PT) (p__law_edges : PT) : WS :=
  (wSeq (wSet 1 (wCallF 2 p__law_take (waCons (wVar 0) (waCons (wC (.int 4)) waNil))))
  (wSeq (wSet 2 (wOp oAdd (wC (.int 1)) (wCallF 2 p__law_take (waCons (wVar 0) (waCons (wC (.int 5)) waNil)))))
  (wSeq (wIf (wTest (wOp (oEq false) (wCallF 2 p__law_take (waCons (wVar 0) (waCons (wC (.int 8)) waNil))) (wC (.int 1)))) (wSeq (wSet 1 (wOp oAdd (wC (.int 4)) (wCallF 2 p__law_take (waCons (wVar 0) (waCons (wC (.int 2)) waNil)))))
  (wSet 2 (wOp oAdd (wC (.int 6)) (wCallF 2 p__law_take (waCons (wVar 0) (waCons (wC (.int 5)) waNil)))))) wNext)
  (wSeq (wIf (wTest (wOp (oEq false) (wVar 1) (wC (.int 0)))) (wSet 2 (wC (.int 1))) wNext)
  (wRet (wLst (waCons (wVar 1) (waCons (wVar 2) (waCons (wCallF 3 p__law_edges (waCons (wVar 0) (waCons (wVar 1) (waCons (wVar 2) waNil)))) waNil)))))))))

def r__law_same (p__law_same : PT) : WS :=
  (wSeq (wIf (wTest (wOp (oIsN false) (wVar 1) (wC .non))) (wRet (wOp (oIsN false) (wVar 0) (wC .non))) wNext)
  (wSeq (wIf (wTest (wCall cIsi (waCons (wVar 1) (waCons (wC (.ty "bool")) waNil)))) (wRet (wAndV (wCall cIsi (waCons (wVar 0) (waCons (wC (.ty "bool")) waNil))) (wOp (oEq false) (wVar 0) (wVar 1)))) wNext)
  (wSeq (wIf (wTest (wCall cIsi (waCons (wVar 1) (waCons (wC (.ty "int")) waNil)))) (wRet (wAndV (wCall cIsi (waCons (wVar 0) (waCons (wC (.ty "int")) waNil))) (wAndV (wNotV (wCall cIsi (waCons (wVar 0) (waCons (wC (.ty "bool")) waNil)))) (wOp (oEq false) (wVar 0) (wVar 1))))) wNext)
  (wSeq (wIf (wTest (wCall cIsi (waCons (wVar 1) (waCons (wC (.ty "str")) waNil)))) (wRet (wAndV (wCall cIsi (waCons (wVar 0) (waCons (wC (.ty "str")) waNil))) (wOp (oEq false) (wVar 0) (wVar 1)))) wNext)
  (wSeq (wIf (wAnd (wTest (wCall cIsi (waCons (wVar 1) (waCons (wC (.ty "tuple")) waNil)))) (wNot (wTest (wCall cIsi (waCons (wVar 0) (waCons (wC (.ty "tuple")) waNil)))))) (wRet (wC (.bl false))) wNext)
  (wSeq (wIf (wAnd (wTest (wCall cIsi (waCons (wVar 1) (waCons (wC (.ty "list")) waNil)))) (wNot (wTest (wCall cIsi (waCons (wVar 0) (waCons (wC (.ty "list")) waNil)))))) (wRet (wC (.bl false))) wNext)
  (wSeq (wIf (wTest (wOp (oEq true) (wCall cLen (waCons (wVar 0) waNil)) (wCall cLen (waCons (wVar 1) waNil)))) (wRet (wC (.bl false))) wNext)
  (wRet (wCall cAll (waCons (wLc (wIR1 (waCons (wCall cLen (waCons (wVar 1) waNil)) waNil)) (.nm 2) wYes (wCallF 2 p__law_same (waCons (wOp oIx (wVar 0) (wVar 2)) (waCons (wOp oIx (wVar 1) (wVar 2)) waNil))) [2]) waNil))))))))))

def r__law_bad (p__law_take : PT) : WS :=
  (wSeq (wIf (wTest (wOp (oEq false) (wCallF 2 p__law_take (waCons (wVar 0) (waCons (wC (.int 6)) waNil))) (wC (.int 1)))) (wRet (wLst waNil)) wNext)
  (wSeq (wSet 2 (wOp oAdd (wC (.int 1)) (wCallF 2 p__law_take (waCons (wVar 0) (waCons (wC (.int 4)) waNil)))))
  (wRet (wLc (wIR1 (waCons (wVar 1) waNil)) (.nm 3) (wTest (wOp (oEq false) (wCallF 2 p__law_take (waCons (wVar 0) (waCons (wOp oAdd (wC (.int 1)) (wVar 2)) waNil))) (wC (.int 1)))) (wVar 3) [3]))))

def r__law_own (p__law_take : PT) : WS :=
  (wSeq (wSet 2 (wCallF 2 p__law_take (waCons (wVar 0) (waCons (wC (.int 4)) waNil))))
  (wRet (wCall cTuple (waCons (wLc (wIR1 (waCons (wVar 1) waNil)) (.nm 3) (wOr (wTest (wOp (oEq false) (wVar 2) (wC (.int 0)))) (wTest (wOp oGt (wCallF 2 p__law_take (waCons (wVar 0) (waCons (wC (.int 3)) waNil))) (wC (.int 0))))) (wVar 3) [3]) waNil))))

def r__law_lost : WS :=
  (wSeq (wSet 3 (wCall cList (waCons (wVar 1) waNil)))
  (wSeq (wFor (wIR1 (waCons (wOp oIx (wVar 0) (wC (.int 1))) waNil)) (.nm 4) (wFor (wISeq (wOp oIx (wVar 0) (wC (.int 2)))) (.nm 5) (wIf (wAnd (wTest (wOp (oIn true) (wOp oIx (wVar 5) (wC (.int 1))) (wVar 2))) (wAnd (wTest (wOp (oIn false) (wOp oIx (wVar 5) (wC (.int 2))) (wVar 3))) (wTest (wOp (oIn true) (wOp oIx (wVar 5) (wC (.int 0))) (wVar 3))))) (wDrop (wMeth "list" mAppend (wVar 3) (waCons (wOp oIx (wVar 5) (wC (.int 0))) waNil))) wNext)))
  (wRet (wCall cSortI (waCons (wVar 3) waNil)))))

def r__law_lost_word : WS :=
  (wSeq (wSet 3 (wLst (waCons (wTup (waCons (wC (.int 0)) (waCons (wTup waNil) waNil))) waNil)))
  (wSeq (wSet 4 (wLst (waCons (wC (.int 0)) waNil)))
  (wSeq (wFor (wIR1 (waCons (wOp oIx (wVar 0) (wC (.int 1))) waNil)) (.nm 5) (wIf (wTest (wOp oLt (wVar 5) (wCall cLen (waCons (wVar 3) waNil)))) (wSeq (wIf (wTest (wOp (oIn false) (wOp oIx (wOp oIx (wVar 3) (wVar 5)) (wC (.int 0))) (wVar 1))) (wRet (wOp oIx (wOp oIx (wVar 3) (wVar 5)) (wC (.int 1)))) wNext)
  (wFor (wISeq (wOp oIx (wVar 0) (wC (.int 2)))) (.nm 6) (wIf (wAnd (wTest (wOp (oEq false) (wOp oIx (wVar 6) (wC (.int 0))) (wOp oIx (wOp oIx (wVar 3) (wVar 5)) (wC (.int 0))))) (wAnd (wTest (wOp (oIn true) (wOp oIx (wVar 6) (wC (.int 1))) (wVar 2))) (wTest (wOp (oIn true) (wOp oIx (wVar 6) (wC (.int 2))) (wVar 4))))) (wSeq (wDrop (wMeth "list" mAppend (wVar 4) (waCons (wOp oIx (wVar 6) (wC (.int 2))) waNil)))
  (wDrop (wMeth "list" mAppend (wVar 3) (waCons (wTup (waCons (wOp oIx (wVar 6) (wC (.int 2))) (waCons (wOp oAdd (wOp oIx (wOp oIx (wVar 3) (wVar 5)) (wC (.int 1))) (wTup (waCons (wOp oIx (wVar 6) (wC (.int 1))) waNil))) waNil))) waNil)))) wNext))) wNext))
  (wRet (wC .non)))))

def r__law_safe : WS :=
  (wSeq (wSet 2 (wLst (waCons (wC (.int 0)) waNil)))
  (wSeq (wFor (wIR1 (waCons (wOp oIx (wVar 0) (wC (.int 1))) waNil)) (.nm 3) (wIf (wTest (wOp oLt (wVar 3) (wCall cLen (waCons (wVar 2) waNil)))) (wFor (wISeq (wOp oIx (wVar 0) (wC (.int 2)))) (.nm 4) (wIf (wAnd (wTest (wOp (oEq false) (wOp oIx (wVar 4) (wC (.int 0))) (wOp oIx (wVar 2) (wVar 3)))) (wAnd (wTest (wOp (oIn true) (wOp oIx (wVar 4) (wC (.int 2))) (wVar 1))) (wTest (wOp (oIn true) (wOp oIx (wVar 4) (wC (.int 2))) (wVar 2))))) (wDrop (wMeth "list" mAppend (wVar 2) (waCons (wOp oIx (wVar 4) (wC (.int 2))) waNil))) wNext)) wNext))
  (wRet (wCall cSortI (waCons (wVar 2) waNil)))))

def r__law_between : WS :=
  (wRet (wLc (wIR1 (waCons (wCall cLen (waCons (wOp oIx (wVar 0) (wC (.int 2))) waNil)) waNil)) (.nm 2) (wAnd (wTest (wOp (oIn false) (wOp oIx (wOp oIx (wOp oIx (wVar 0) (wC (.int 2))) (wVar 2)) (wC (.int 0))) (wVar 1))) (wTest (wOp (oIn false) (wOp oIx (wOp oIx (wOp oIx (wVar 0) (wC (.int 2))) (wVar 2)) (wC (.int 2))) (wVar 1)))) (wVar 2) [2]))

def r__law_part : WS :=
  (wSeq (wSet 3 (wLc (wISeq (wVar 2)) (.nm 4) wYes (wOp oIx (wOp oIx (wVar 0) (wC (.int 2))) (wVar 4)) [4]))
  (wRet (wLst (waCons (wOp oIx (wVar 0) (wC (.int 0))) (waCons (wCall cLen (waCons (wVar 1) waNil)) (waCons (wLc (wISeq (wVar 3)) (.nm 5) wYes (wTup (waCons (wMeth "list" mIndex (wVar 1) (waCons (wOp oIx (wVar 5) (wC (.int 0))) waNil)) (waCons (wOp oIx (wVar 5) (wC (.int 1))) (waCons (wMeth "list" mIndex (wVar 1) (waCons (wOp oIx (wVar 5) (wC (.int 2))) waNil)) waNil)))) [5]) waNil))))))

def r__law_same_chart (C_Chart : Addr) (p__law_same : PT) : WS :=
  (wSeq (wIf (wOr (wNot (wTest (wCallF 2 p__law_same (waCons (wFld C_Chart "actions" (wVar 0)) (waCons (wOp oIx (wVar 1) (wC (.int 0))) waNil))))) (wNot (wTest (wCallF 2 p__law_same (waCons (wFld C_Chart "states" (wVar 0)) (waCons (wOp oIx (wVar 1) (wC (.int 1))) waNil)))))) (wRet (wC (.bl false))) wNext)
  (wRet (wCallF 2 p__law_same (waCons (wFld C_Chart "edges" (wVar 0)) (waCons (wCall cTuple (waCons (wOp oIx (wVar 1) (wC (.int 2))) waNil)) waNil)))))

def r__law_refused (C_Lost : Addr) (p_safe_edges : PT) (p_safe_chart : PT) : WS :=
  (wSeq (wTryRet C_Lost "word" 4 (wIf (wTest (wOp (oEq false) (wVar 3) (wC (.int 0)))) (wDrop (wCallF 3 p_safe_edges (waCons (wVar 0) (waCons (wVar 1) (waCons (wVar 2) waNil))))) (wDrop (wCallF 3 p_safe_chart (waCons (wVar 0) (waCons (wVar 1) (waCons (wVar 2) waNil)))))))
  (wRet (wC .non)))

def r__law_closed (p__law_take : PT) : WS :=
  (wSeq (wSet 5 (wLst (waCons (wC (.int 0)) waNil)))
  (wSeq (wSet 6 (wLst waNil))
  (wSeq (wFor (wIR1 (waCons (wOp oIx (wVar 1) (wC (.int 1))) waNil)) (.nm 7) (wIf (wTest (wOp oLt (wVar 7) (wCall cLen (waCons (wVar 5) waNil)))) (wFor (wIR1 (waCons (wCall cLen (waCons (wOp oIx (wVar 1) (wC (.int 2))) waNil)) waNil)) (.nm 8) (wSeq (wSet 9 (wOp oIx (wOp oIx (wVar 1) (wC (.int 2))) (wVar 8)))
  (wIf (wTest (wOp (oEq false) (wOp oIx (wVar 9) (wC (.int 0))) (wOp oIx (wVar 5) (wVar 7)))) (wSeq (wSet 10 (wOp (oIn true) (wOp oIx (wVar 9) (wC (.int 2))) (wVar 3)))
  (wSeq (wIf (wTest (wOp oGt (wVar 4) (wC (.int 0)))) (wSet 10 (wOp (oEq false) (wCallF 2 p__law_take (waCons (wVar 0) (waCons (wVar 4) waNil))) (wC (.int 0)))) wNext)
  (wIf (wOr (wTest (wVar 10)) (wTest (wOp (oIn true) (wOp oIx (wVar 9) (wC (.int 1))) (wVar 2)))) (wSeq (wDrop (wMeth "list" mAppend (wVar 6) (waCons (wVar 8) waNil)))
  (wIf (wTest (wOp (oIn true) (wOp oIx (wVar 9) (wC (.int 2))) (wVar 5))) (wDrop (wMeth "list" mAppend (wVar 5) (waCons (wOp oIx (wVar 9) (wC (.int 2))) waNil))) wNext)) wNext))) wNext))) wNext))
  (wRet (wLst (waCons (wCall cSortI (waCons (wVar 5) waNil)) (waCons (wCall cSortI (waCons (wVar 6) waNil)) waNil)))))))

def r__law_falls : WS :=
  (wSeq (wSet 4 (wLst (waCons (wVar 3) waNil)))
  (wSeq (wFor (wIR1 (waCons (wOp oIx (wVar 0) (wC (.int 1))) waNil)) (.nm 5) (wIf (wTest (wOp oLt (wVar 5) (wCall cLen (waCons (wVar 4) waNil)))) (wFor (wISeq (wOp oIx (wVar 0) (wC (.int 2)))) (.nm 6) (wIf (wAnd (wTest (wOp (oEq false) (wOp oIx (wVar 6) (wC (.int 0))) (wOp oIx (wVar 4) (wVar 5)))) (wAnd (wTest (wOp (oIn true) (wOp oIx (wVar 6) (wC (.int 1))) (wVar 2))) (wTest (wOp (oIn true) (wOp oIx (wVar 6) (wC (.int 2))) (wVar 4))))) (wDrop (wMeth "list" mAppend (wVar 4) (waCons (wOp oIx (wVar 6) (wC (.int 2))) waNil))) wNext)) wNext))
  (wRet (wCall cAny (waCons (wLc (wISeq (wVar 4)) (.nm 7) wYes (wOp (oIn false) (wVar 7) (wVar 1)) [7]) waNil)))))

def r__law_sets (p__law_closed : PT) (p__law_same_chart : PT) (p_part : PT) (p__law_part : PT) : WS :=
  (wSeq (wFor (wISeq (wLst (waCons (wC (.int 0)) (waCons (wC (.int 1)) (waCons (wC (.int 2)) (waCons (wC (.int 2)) (waCons (wC (.int 3)) (waCons (wC (.int 4)) waNil)))))))) (.nm 7) (wSeq (wSet 8 (wCallF 5 p__law_closed (waCons (wVar 0) (waCons (wVar 1) (waCons (wVar 4) (waCons (wVar 5) (waCons (wVar 7) waNil)))))))
  (wIf (wNot (wTest (wCall cAny (waCons (wLc (wISeq (wOp oIx (wVar 8) (wC (.int 0)))) (.nm 9) wYes (wOp (oIn false) (wVar 9) (wVar 3)) [9]) waNil)))) (wSeq (wIf (wTest (wCall cAny (waCons (wLc (wISeq (wOp oIx (wVar 8) (wC (.int 1)))) (.nm 10) wYes (wOp (oIn true) (wVar 10) (wVar 6)) [10]) waNil))) (wRet (wC (.bl false))) wNext)
  (wIf (wNot (wTest (wCallF 2 p__law_same_chart (waCons (wCallF 2 p_part (waCons (wVar 2) (waCons (wCall cTuple (waCons (wOp oIx (wVar 8) (wC (.int 1))) waNil)) waNil))) (waCons (wCallF 3 p__law_part (waCons (wVar 1) (waCons (wOp oIx (wVar 8) (wC (.int 0))) (waCons (wOp oIx (wVar 8) (wC (.int 1))) waNil)))) waNil))))) (wRet (wC (.bl false))) wNext)) wNext)))
  (wRet (wC (.bl true))))

def r__law_asked (p__law_lost : PT) (p_lost_states : PT) (p__law_same : PT) (p__law_lost_word : PT) (p__law_refused : PT) (p__law_safe : PT) (p__law_between : PT) (p_safe_edges : PT) (p__law_same_chart : PT) (p_safe_chart : PT) (p__law_part : PT) (p_part : PT) : WS :=
  (wSeq (wSet 4 (wCallF 3 p__law_lost (waCons (wVar 0) (waCons (wVar 2) (waCons (wVar 3) waNil)))))
  (wSeq (wSet 5 (wCall cList (waCons (wVar 2) waNil)))
  (wSeq (wSet 6 (wCallF 3 p_lost_states (waCons (wVar 1) (waCons (wVar 5) (waCons (wVar 3) waNil)))))
  (wSeq (wIf (wOr (wNot (wTest (wCallF 2 p__law_same (waCons (wVar 6) (waCons (wVar 4) waNil))))) (wNot (wTest (wCallF 2 p__law_same (waCons (wVar 5) (waCons (wVar 2) waNil)))))) (wRet (wC .non)) wNext)
  (wSeq (wDrop (wMeth "list" mAppend (wVar 6) (waCons (wC (.int 0)) waNil)))
  (wSeq (wIf (wNot (wTest (wCallF 2 p__law_same (waCons (wCallF 3 p_lost_states (waCons (wVar 1) (waCons (wVar 5) (waCons (wVar 3) waNil)))) (waCons (wVar 4) waNil))))) (wRet (wC .non)) wNext)
  (wSeq (wIf (wTest (wOp (oIn false) (wC (.int 0)) (wVar 4))) (wSeq (wSet 7 (wCallF 3 p__law_lost_word (waCons (wVar 0) (waCons (wVar 2) (waCons (wVar 3) waNil)))))
  (wSeq (wSet 8 (wLst (waCons (wCallF 4 p__law_refused (waCons (wVar 1) (waCons (wVar 5) (waCons (wVar 3) (waCons (wC (.int 0)) waNil))))) (waCons (wCallF 4 p__law_refused (waCons (wVar 1) (waCons (wVar 5) (waCons (wVar 3) (waCons (wC (.int 1)) waNil))))) waNil))))
  (wSeq (wIf (wNot (wTest (wCallF 2 p__law_same (waCons (wVar 8) (waCons (wLst (waCons (wVar 7) (waCons (wVar 7) waNil))) waNil))))) (wRet (wC .non)) wNext)
  (wRet (wLst (waCons (wVar 4) (waCons (wC .non) waNil))))))) wNext)
  (wSeq (wSet 9 (wCallF 2 p__law_safe (waCons (wVar 0) (waCons (wVar 4) waNil))))
  (wSeq (wSet 10 (wCallF 2 p__law_between (waCons (wVar 0) (waCons (wVar 9) waNil))))
  (wSeq (wIf (wNot (wTest (wCallF 2 p__law_same (waCons (wCallF 3 p_safe_edges (waCons (wVar 1) (waCons (wVar 5) (waCons (wVar 3) waNil)))) (waCons (wCall cTuple (waCons (wVar 10) waNil)) waNil))))) (wRet (wC .non)) wNext)
  (wSeq (wIf (wNot (wTest (wCallF 2 p__law_same_chart (waCons (wCallF 3 p_safe_chart (waCons (wVar 1) (waCons (wVar 5) (waCons (wVar 3) waNil)))) (waCons (wCallF 3 p__law_part (waCons (wVar 0) (waCons (wVar 9) (waCons (wVar 10) waNil)))) waNil))))) (wRet (wC .non)) wNext)
  (wSeq (wIf (wNot (wTest (wCallF 2 p__law_same_chart (waCons (wCallF 2 p_part (waCons (wVar 1) (waCons (wCall cTuple (waCons (wVar 10) waNil)) waNil))) (waCons (wCallF 3 p__law_part (waCons (wVar 0) (waCons (wVar 9) (waCons (wVar 10) waNil)))) waNil))))) (wRet (wC .non)) wNext)
  (wRet (wLst (waCons (wVar 4) (waCons (wVar 10) waNil))))))))))))))))

def r_law (C_Chart : Addr) (p__law_chart : PT) (p__law_bad : PT) (p__law_take : PT) (p__law_own : PT) (p_Chart___init__ : PT) (p__law_asked : PT) (p__law_safe : PT) (p__law_falls : PT) (p__law_sets : PT) (p_safe_chart : PT) (p__law_same : PT) (p_safe_edges : PT) : WS :=
  (wSeq (wSet 1 (wLst (waCons (wCall cList (waCons (wVar 0) waNil)) (waCons (wC (.int 0)) (waCons (wC (.int 0)) (waCons (wC (.int 0)) (waCons (wC (.int 76)) waNil)))))))
  (wSeq (wSet 2 (wCallF 1 p__law_chart (waCons (wVar 1) waNil)))
  (wSeq (wSet 3 (wCallF 2 p__law_bad (waCons (wVar 1) (waCons (wOp oIx (wVar 2) (wC (.int 1))) waNil))))
  (wSeq (wIf (wTest (wOp oGt (wCallF 2 p__law_take (waCons (wVar 1) (waCons (wC (.int 4)) waNil))) (wC (.int 0)))) (wSet 3 (wLc (wISeq (wVar 3)) (.nm 4) (wTest (wOp oGt (wVar 4) (wC (.int 0)))) (wVar 4) [4])) wNext)
  (wSeq (wSet 5 (wCallF 2 p__law_own (waCons (wVar 1) (waCons (wOp oIx (wVar 2) (wC (.int 0))) waNil))))
  (wSeq (wSet 6 (wMakeF C_Chart 4 p_Chart___init__ (waCons (wOp oIx (wVar 2) (wC (.int 0))) (waCons (wOp oIx (wVar 2) (wC (.int 1))) (waCons (wCall cList (waCons (wOp oIx (wVar 2) (wC (.int 2))) waNil)) waNil)))))
  (wSeq (wSet 7 (wCallF 4 p__law_asked (waCons (wVar 2) (waCons (wVar 6) (waCons (wVar 3) (waCons (wVar 5) waNil))))))
  (wSeq (wIf (wTest (wOp (oIsN false) (wVar 7) (wC .non))) (wRet (wC (.bl false))) wNext)
  (wSeq (wIf (wTest (wOp (oIsN true) (wOp oIx (wVar 7) (wC (.int 1))) (wC .non))) (wSeq (wSet 8 (wCallF 2 p__law_safe (waCons (wVar 2) (waCons (wOp oIx (wVar 7) (wC (.int 0))) waNil))))
  (wSeq (wFor (wIR1 (waCons (wCall cLen (waCons (wOp oIx (wVar 2) (wC (.int 2))) waNil)) waNil)) (.nm 9) (wSeq (wSet 10 (wOp oIx (wOp oIx (wVar 2) (wC (.int 2))) (wVar 9)))
  (wIf (wAnd (wTest (wOp (oIn false) (wOp oIx (wVar 10) (wC (.int 0))) (wVar 8))) (wTest (wOp (oIn true) (wVar 9) (wOp oIx (wVar 7) (wC (.int 1)))))) (wIf (wOr (wTest (wOp (oIn true) (wOp oIx (wVar 10) (wC (.int 1))) (wVar 5))) (wNot (wTest (wCallF 4 p__law_falls (waCons (wVar 2) (waCons (wVar 3) (waCons (wVar 5) (waCons (wOp oIx (wVar 10) (wC (.int 2))) waNil)))))))) (wRet (wC (.bl false))) wNext) wNext)))
  (wSeq (wIf (wOr (wTest (wCall cAny (waCons (wLc (wISeq (wVar 8)) (.nm 4) wYes (wOp (oIn false) (wVar 4) (wVar 3)) [4]) waNil))) (wNot (wTest (wCallF 7 p__law_sets (waCons (wVar 1) (waCons (wVar 2) (waCons (wVar 6) (waCons (wVar 3) (waCons (wVar 5) (waCons (wOp oIx (wVar 7) (wC (.int 0))) (waCons (wOp oIx (wVar 7) (wC (.int 1))) waNil))))))))))) (wRet (wC (.bl false))) wNext)
  (wSeq (wSet 11 (wCallF 3 p_safe_chart (waCons (wVar 6) (waCons (wCall cList (waCons (wVar 3) waNil)) (waCons (wVar 5) waNil)))))
  (wIf (wNot (wTest (wCallF 2 p__law_same (waCons (wCallF 3 p_safe_edges (waCons (wVar 11) (waCons (wLst waNil) (waCons (wVar 5) waNil)))) (waCons (wTupRg (wCall cLen (waCons (wOp oIx (wVar 7) (wC (.int 1))) waNil))) waNil))))) (wRet (wC (.bl false))) wNext))))) wNext)
  (wSeq (wSet 12 (wLc (wISeq (wVar 3)) (.nm 4) (wTest (wOp (oEq false) (wCallF 2 p__law_take (waCons (wVar 1) (waCons (wC (.int 2)) waNil))) (wC (.int 0)))) (wVar 4) [4]))
  (wSeq (wSet 13 (wCallF 4 p__law_asked (waCons (wVar 2) (waCons (wVar 6) (waCons (wVar 12) (waCons (wVar 5) waNil))))))
  (wSeq (wSet 14 (wCallF 4 p__law_asked (waCons (wVar 2) (waCons (wVar 6) (waCons (wVar 3) (waCons (wVar 5) waNil))))))
  (wSeq (wIf (wOr (wTest (wOp (oIsN false) (wVar 13) (wC .non))) (wTest (wOp (oIsN false) (wVar 14) (wC .non)))) (wRet (wC (.bl false))) wNext)
  (wSeq (wIf (wAnd (wTest (wOp (oIsN true) (wOp oIx (wVar 7) (wC (.int 1))) (wC .non))) (wTest (wCall cAny (waCons (wLc (wISeq (wOp oIx (wVar 7) (wC (.int 1)))) (.nm 9) wYes (wOp (oIn true) (wVar 9) (wOp oIx (wVar 13) (wC (.int 1)))) [9]) waNil)))) (wRet (wC (.bl false))) wNext)
  (wRet (wNotV (wCall cAny (waCons (wLc (wISeq (wOp oIx (wVar 13) (wC (.int 0)))) (.nm 4) wYes (wOp (oIn true) (wVar 4) (wOp oIx (wVar 7) (wC (.int 0)))) [4]) waNil))))))))))))))))))

end Y
set_option Elab.async false
set_option linter.all false
set_option maxRecDepth 100000
set_option maxHeartbeats 4000000
set_option autoImplicit false
namespace Y
open PySem PySem.Spec PyProof.Rows L2
def top (i : Nat) : Stmt := PySem.Challenge.pw_actsapart_k76_whole_greatest_safe_part.main.body.getD i (.Pass ⟨0, 0, 0, 0⟩)
structure Txt (K : PySem.W.Frag) (mg : Str → Option Value) (C_Chart C_Lost : Addr) : Prop where
  n_abs : mg "abs" = none
  n_all : mg "all" = none
  n_any : mg "any" = none
  n_bool : mg "bool" = none
  n_enumerate : mg "enumerate" = none
  n_int : mg "int" = none
  n_isinstance : mg "isinstance" = none
  n_len : mg "len" = none
  n_list : mg "list" = none
  n_range : mg "range" = none
  n_sorted : mg "sorted" = none
  n_str : mg "str" = none
  n_tuple : mg "tuple" = none
  n_zip : mg "zip" = none
  g_gcd : mg "gcd" = some (.builtin "math.gcd")
  mg_Lost : mg "Lost" = some (.ref C_Lost)
  xf_Lost : ExF K C_Lost "word"
  mg_Chart : mg "Chart" = some (.ref C_Chart)
  cl_Chart : Cls K C_Chart
  na_Chart__targets : NoAttr K C_Chart "_targets"
  na_Chart_actions : NoAttr K C_Chart "actions"
  na_Chart_states : NoAttr K C_Chart "states"
  na_Chart_edges : NoAttr K C_Chart "edges"
  na_Chart__trails : NoAttr K C_Chart "_trails"
  na_Chart__points : NoAttr K C_Chart "_points"
  na_Chart__rounds : NoAttr K C_Chart "_rounds"
  cv_Chart_MOST_ACTIONS : ∃ mc u, ClX.CRead K C_Chart mc ∧ ClX.CVal K C_Chart mc "MOST_ACTIONS" (.int 5) u
  cv_Chart_MOST_STATES : ∃ mc u, ClX.CRead K C_Chart mc ∧ ClX.CVal K C_Chart mc "MOST_STATES" (.int 10) u
abbrev s_shortened : Stmt := (top 9)
abbrev s_reduced : Stmt := (top 10)
abbrev s_independent : Stmt := (top 11)
abbrev s_edge_table : Stmt := (top 13)
abbrev s_find_trails : Stmt := (top 14)
abbrev s_count : Stmt := (top 15)
abbrev s_round_row : Stmt := (top 16)
abbrev s_Chart___init__ : Stmt := (inClass (top 17) 2)
abbrev s_Chart_after : Stmt := (inClass (top 17) 4)
abbrev s_Chart_enabled : Stmt := (inClass (top 17) 5)
abbrev s_Chart___contains__ : Stmt := (inClass (top 17) 7)
abbrev s_paths : Stmt := (top 18)
abbrev s_reached_by : Stmt := (top 20)
abbrev s_part : Stmt := (top 21)
abbrev s_lost_states : Stmt := (top 23)
abbrev s_lost_word : Stmt := (top 24)
abbrev s_safe_states : Stmt := (top 25)
abbrev s_safe_edges : Stmt := (top 26)
abbrev s_safe_chart : Stmt := (top 27)
abbrev s__law_mixed : Stmt := (top 29)
abbrev s__law_take : Stmt := (top 30)
abbrev s__law_place : Stmt := (top 31)
abbrev s__law_edges : Stmt := (top 32)
abbrev s__law_chart : Stmt := (top 33)
abbrev s__law_same : Stmt := (top 34)
abbrev s__law_bad : Stmt := (top 35)
abbrev s__law_own : Stmt := (top 36)
abbrev s__law_lost : Stmt := (top 37)
abbrev s__law_lost_word : Stmt := (top 38)
abbrev s__law_safe : Stmt := (top 39)
abbrev s__law_between : Stmt := (top 40)
abbrev s__law_part : Stmt := (top 41)
abbrev s__law_same_chart : Stmt := (top 42)
abbrev s__law_refused : Stmt := (top 43)
abbrev s__law_closed : Stmt := (top 44)
abbrev s__law_falls : Stmt := (top 45)
abbrev s__law_sets : Stmt := (top 46)
abbrev s__law_asked : Stmt := (top 47)
abbrev s_law : Stmt := (top 48)
section
variable {P : Program} {w : World} {K : PySem.W.Frag} {mg : Str → Option Value} {base : Heap} {C_Chart C_Lost : Addr}
theorem sc_shortened : FnScope ["row", "divisor", "entry"] ["row"] (defScope s_shortened) := ⟨rfl, rfl, rfl, by decide +kernel, rfl, by decide +kernel, by decide +kernel⟩
theorem j_shortened (T : Txt K mg C_Chart C_Lost) {f : Addr} {cdv : Value} {A : Around} {outer : List PySem.Env} {s : Shared} {H : Hp} {E : XK} (hr : Room 0 (cxOf (L2.CX P w) P w K mg base ["row", "divisor", "entry"] "shortened" (defScope s_shortened) f cdv A outer s H E).A)
    (tk : Takes (cxOf (L2.CX P w) P w K mg base ["row", "divisor", "entry"] "shortened" (defScope s_shortened) f cdv A outer s H E) (WK E)) : JB (cxOf (L2.CX P w) P w K mg base ["row", "divisor", "entry"] "shortened" (defScope s_shortened) f cdv A outer s H E) (WK E) (defBody s_shortened) (r_shortened) := by
  have nd := (sc_shortened).nd
  exact (jb_cons (js_set (i := 1) nd rfl (by first | exact .inl rfl | exact .inr rfl) je_int)
  (jb_cons (js_for (passes_of rfl) rfl (ji_seq (je_var (pv 0))) (jg_nm (i := 2) nd rfl (by first | exact .inl rfl | exact .inr rfl)) (jb_one (js_set (i := 1) nd rfl (by first | exact .inl rfl | exact .inr rfl) (je_callBfun cr_gcd calls_gcd (by rfl) T.g_gcd (ja_cons (je_var (pv 1)) (ja_cons (je_var (pv 2)) ja_nil))))))
  (jb_cons (js_if (jt_eq hr (je_var (pv 1)) je_int) (jb_one (js_ret (je_callTy call_tuple_of calls_tuple (by rfl) T.n_tuple (by decide +kernel) (ja_cons (je_var (pv 0)) ja_nil)))) jb_nil)
  (jb_one (js_ret (je_callTy call_tuple_of calls_tuple (by rfl) T.n_tuple (by decide +kernel) (ja_cons (je_lc (own := [("entry", 2)]) (t := (.nm 2)) (tt := wYes) (te := (wOp oFdiv (wVar 2) (wVar 1))) rfl nd (ji_seq (je_var (pv 0))) (blkOk_by (by rfl)) (by rfl) (fun _ _ _ _ _ => (jg_nm (i := 2) nd rfl (by first | exact .inl rfl | exact .inr rfl))) (fun _ _ _ _ _ => jts_nil) (fun _ _ _ _ _ => (je_fdiv (je_var (pv 2)) (je_var (pv 1))))) ja_nil)))))))
theorem sc_reduced : FnScope ["row", "basis", "pivot", "other", "scale", "factor", "x", "y"] ["row", "basis"] (defScope s_reduced) := ⟨rfl, rfl, rfl, by decide +kernel, rfl, by decide +kernel, by decide +kernel⟩
theorem j_reduced (T : Txt K mg C_Chart C_Lost) {p_shortened : PT} (c_shortened : CalP P w K mg base 1 "shortened" 1 p_shortened) {f : Addr} {cdv : Value} {A : Around} {outer : List PySem.Env} {s : Shared} {H : Hp} {E : XK} (hr : Room 1 (cxOf (L2.CX P w) P w K mg base ["row", "basis", "pivot", "other", "scale", "factor", "x", "y"] "reduced" (defScope s_reduced) f cdv A outer s H E).A)
    (tk : Takes (cxOf (L2.CX P w) P w K mg base ["row", "basis", "pivot", "other", "scale", "factor", "x", "y"] "reduced" (defScope s_reduced) f cdv A outer s H E) (WK E)) : JB (cxOf (L2.CX P w) P w K mg base ["row", "basis", "pivot", "other", "scale", "factor", "x", "y"] "reduced" (defScope s_reduced) f cdv A outer s H E) (WK E) (defBody s_reduced) (r_reduced p_shortened) := by
  have nd := (sc_reduced).nd
  exact (jb_cons (js_for (passes_of rfl) rfl (ji_seq (je_var (pv 1))) (jg_tp rfl (jgs_cons (jg_nm (i := 2) nd rfl (by first | exact .inl rfl | exact .inr rfl)) (jgs_cons (jg_nm (i := 3) nd rfl (by first | exact .inl rfl | exact .inr rfl)) jgs_nil))) (jb_one (js_if (jt_ne hr (je_ix hr (je_var (pv 0)) (je_var (pv 2))) je_int) (jb_cons (js_asg (je_tup (ja_cons (je_ix hr (je_var (pv 3)) (je_var (pv 2))) (ja_cons (je_ix hr (je_var (pv 0)) (je_var (pv 2))) ja_nil))) (jg_tp rfl (jgs_cons (jg_nm (i := 4) nd rfl (by first | exact .inl rfl | exact .inr rfl)) (jgs_cons (jg_nm (i := 5) nd rfl (by first | exact .inl rfl | exact .inr rfl)) jgs_nil))))
  (jb_one (js_set (i := 0) nd rfl (by first | exact .inl rfl | exact .inr rfl) (je_call c_shortened (hr.mono (by decide)) (by rfl) tk (ja_cons (je_lc (own := [("x", 6), ("y", 7)]) (t := (.tp [(.nm 6), (.nm 7)])) (tt := wYes) (te := (wOp oSub (wOp oMul (wVar 4) (wVar 6)) (wOp oMul (wVar 5) (wVar 7)))) rfl nd (ji_zip (by rfl) T.n_zip (ja_cons (je_var (pv 0)) (ja_cons (je_var (pv 3)) ja_nil))) (blkOk_by (by rfl)) (by rfl) (fun _ _ _ _ _ => (jg_tp rfl (jgs_cons (jg_nm (i := 6) nd rfl (by first | exact .inl rfl | exact .inr rfl)) (jgs_cons (jg_nm (i := 7) nd rfl (by first | exact .inl rfl | exact .inr rfl)) jgs_nil)))) (fun _ _ _ _ _ => jts_nil) (fun _ _ _ _ _ => (je_sub (je_mul (je_var (pv 4)) (je_var (pv 6))) (je_mul (je_var (pv 5)) (je_var (pv 7)))))) ja_nil))))) jb_nil)))
  (jb_one (js_ret (je_var (pv 0)))))
theorem sc_independent : FnScope ["rows", "basis", "chosen", "index", "row", "rest", "pivots", "at", "entry"] ["rows"] (defScope s_independent) := ⟨rfl, rfl, rfl, by decide +kernel, rfl, by decide +kernel, by decide +kernel⟩
theorem j_independent (T : Txt K mg C_Chart C_Lost) {p_reduced : PT} (c_reduced : CalP P w K mg base 2 "reduced" 2 p_reduced) {f : Addr} {cdv : Value} {A : Around} {outer : List PySem.Env} {s : Shared} {H : Hp} {E : XK} (hr : Room 2 (cxOf (L2.CX P w) P w K mg base ["rows", "basis", "chosen", "index", "row", "rest", "pivots", "at", "entry"] "independent" (defScope s_independent) f cdv A outer s H E).A)
    (tk : Takes (cxOf (L2.CX P w) P w K mg base ["rows", "basis", "chosen", "index", "row", "rest", "pivots", "at", "entry"] "independent" (defScope s_independent) f cdv A outer s H E) (WK E)) : JB (cxOf (L2.CX P w) P w K mg base ["rows", "basis", "chosen", "index", "row", "rest", "pivots", "at", "entry"] "independent" (defScope s_independent) f cdv A outer s H E) (WK E) (defBody s_independent) (r_independent p_reduced) := by
  have nd := (sc_independent).nd
  exact (jb_cons (js_set (i := 1) nd rfl (by first | exact .inl rfl | exact .inr rfl) (je_lst ja_nil))
  (jb_cons (js_set (i := 2) nd rfl (by first | exact .inl rfl | exact .inr rfl) (je_lst ja_nil))
  (jb_cons (js_for (passes_of rfl) rfl (ji_enum (by rfl) T.n_enumerate (ja_cons (je_var (pv 0)) ja_nil)) (jg_tp rfl (jgs_cons (jg_nm (i := 3) nd rfl (by first | exact .inl rfl | exact .inr rfl)) (jgs_cons (jg_nm (i := 4) nd rfl (by first | exact .inl rfl | exact .inr rfl)) jgs_nil))) (jb_cons (js_set (i := 5) nd rfl (by first | exact .inl rfl | exact .inr rfl) (je_call c_reduced (hr.mono (by decide)) (by rfl) tk (ja_cons (je_callTy call_tuple_of calls_tuple (by rfl) T.n_tuple (by decide +kernel) (ja_cons (je_var (pv 4)) ja_nil)) (ja_cons (je_var (pv 1)) ja_nil))))
  (jb_cons (js_setLc (i := 6) (own := [("at", 7), ("entry", 8)]) (t := (.tp [(.nm 7), (.nm 8)])) (tt := (wTest (wOp (oEq true) (wVar 8) (wC (.int 0))))) (te := (wVar 7)) rfl nd rfl (by rfl) (by rfl) (ji_enum (by rfl) T.n_enumerate (ja_cons (je_var (pv 5)) ja_nil)) (blkOk_by (by rfl)) (by rfl) (fun _ _ _ _ _ => (jg_tp rfl (jgs_cons (jg_nm (i := 7) nd rfl (by first | exact .inl rfl | exact .inr rfl)) (jgs_cons (jg_nm (i := 8) nd rfl (by first | exact .inl rfl | exact .inr rfl)) jgs_nil)))) (fun _ _ _ _ _ => (jts_one (jt_ne hr (je_var (pv 8)) je_int))) (fun _ _ _ _ _ => (je_var (pv 7))))
  (jb_one (js_if (jt_gt (je_callB call_len_seq calls_len (by rfl) T.n_len (by decide +kernel) (ja_cons (je_var (pv 6)) ja_nil)) je_int) (jb_cons (js_expr (je_append (je_var (pv 1)) (ja_cons (je_tup (ja_cons (je_ix hr (je_var (pv 6)) je_int) (ja_cons (je_var (pv 5)) ja_nil))) ja_nil)))
  (jb_one (js_expr (je_append (je_var (pv 2)) (ja_cons (je_var (pv 3)) ja_nil))))) jb_nil)))))
  (jb_one (js_ret (je_var (pv 2)))))))
theorem sc_edge_table : FnScope ["actions", "states", "edges", "targets", "index", "source", "action", "target", "inside"] ["actions", "states", "edges"] (defScope s_edge_table) := ⟨rfl, rfl, rfl, by decide +kernel, rfl, by decide +kernel, by decide +kernel⟩
theorem j_edge_table (T : Txt K mg C_Chart C_Lost) {f : Addr} {cdv : Value} {A : Around} {outer : List PySem.Env} {s : Shared} {H : Hp} {E : XK} (hr : Room 0 (cxOf (L2.CX P w) P w K mg base ["actions", "states", "edges", "targets", "index", "source", "action", "target", "inside"] "edge_table" (defScope s_edge_table) f cdv A outer s H E).A)
    (tk : Takes (cxOf (L2.CX P w) P w K mg base ["actions", "states", "edges", "targets", "index", "source", "action", "target", "inside"] "edge_table" (defScope s_edge_table) f cdv A outer s H E) (WK E)) : JB (cxOf (L2.CX P w) P w K mg base ["actions", "states", "edges", "targets", "index", "source", "action", "target", "inside"] "edge_table" (defScope s_edge_table) f cdv A outer s H E) (WK E) (defBody s_edge_table) (r_edge_table) := by
  have nd := (sc_edge_table).nd
  exact (jb_cons (js_set (i := 3) nd rfl (by first | exact .inl rfl | exact .inr rfl) je_newT)
  (jb_cons (js_for (passes_of rfl) rfl (ji_enum (by rfl) T.n_enumerate (ja_cons (je_var (pv 2)) ja_nil)) (jg_tp rfl (jgs_cons (jg_nm (i := 4) nd rfl (by first | exact .inl rfl | exact .inr rfl)) (jgs_cons (jg_tp rfl (jgs_cons (jg_nm (i := 5) nd rfl (by first | exact .inl rfl | exact .inr rfl)) (jgs_cons (jg_nm (i := 6) nd rfl (by first | exact .inl rfl | exact .inr rfl)) (jgs_cons (jg_nm (i := 7) nd rfl (by first | exact .inl rfl | exact .inr rfl)) jgs_nil)))) jgs_nil))) (jb_cons (js_set (i := 8) nd rfl (by first | exact .inl rfl | exact .inr rfl) (je_and (je_chain op_le ops_le op_lt ops_lt je_int (je_var (pv 5)) (je_var (pv 1))) (je_and (je_chain op_le ops_le op_lt ops_lt je_int (je_var (pv 6)) (je_var (pv 0))) (je_one (je_chain op_le ops_le op_lt ops_lt je_int (je_var (pv 7)) (je_var (pv 1)))))))
  (jb_cons (js_if (PW.pt (jw_or (jt_not (jt_val (je_var (pv 8)))) (jw_or1 (jt_in hr (je_tup (ja_cons (je_var (pv 5)) (ja_cons (je_var (pv 6)) ja_nil))) (je_var (pv 3)))))) (jb_one js_never) jb_nil)
  (jb_one (js_put hr (je_var (pv 3)) (je_tup (ja_cons (je_var (pv 5)) (ja_cons (je_var (pv 6)) ja_nil))) (je_var (pv 7)))))))
  (jb_one (js_ret (je_var (pv 3))))))
theorem sc_find_trails : FnScope ["states", "edges", "trails", "order", "at", "state", "number", "edge"] ["states", "edges"] (defScope s_find_trails) := ⟨rfl, rfl, rfl, by decide +kernel, rfl, by decide +kernel, by decide +kernel⟩
theorem j_find_trails (T : Txt K mg C_Chart C_Lost) {f : Addr} {cdv : Value} {A : Around} {outer : List PySem.Env} {s : Shared} {H : Hp} {E : XK} (hr : Room 0 (cxOf (L2.CX P w) P w K mg base ["states", "edges", "trails", "order", "at", "state", "number", "edge"] "find_trails" (defScope s_find_trails) f cdv A outer s H E).A)
    (tk : Takes (cxOf (L2.CX P w) P w K mg base ["states", "edges", "trails", "order", "at", "state", "number", "edge"] "find_trails" (defScope s_find_trails) f cdv A outer s H E) (WK E)) : JB (cxOf (L2.CX P w) P w K mg base ["states", "edges", "trails", "order", "at", "state", "number", "edge"] "find_trails" (defScope s_find_trails) f cdv A outer s H E) (WK E) (defBody s_find_trails) (r_find_trails) := by
  have nd := (sc_find_trails).nd
  exact (jb_cons (js_set (i := 2) nd rfl (by first | exact .inl rfl | exact .inr rfl) (je_mul (je_lst (ja_cons je_non ja_nil)) (je_var (pv 0))))
  (jb_cons (js_put hr (je_var (pv 2)) je_int (je_tup ja_nil))
  (jb_cons (js_set (i := 3) nd rfl (by first | exact .inl rfl | exact .inr rfl) (je_lst (ja_cons je_int ja_nil)))
  (jb_cons (js_set (i := 4) nd rfl (by first | exact .inl rfl | exact .inr rfl) je_int)
  (jb_cons (js_while (passes_of rfl) (jt_lt (je_var (pv 4)) (je_callB call_len_seq calls_len (by rfl) T.n_len (by decide +kernel) (ja_cons (je_var (pv 3)) ja_nil))) (jb_cons (js_set (i := 5) nd rfl (by first | exact .inl rfl | exact .inr rfl) (je_ix hr (je_var (pv 3)) (je_var (pv 4))))
  (jb_cons (js_for (passes_of rfl) rfl (ji_enum (by rfl) T.n_enumerate (ja_cons (je_var (pv 1)) ja_nil)) (jg_tp rfl (jgs_cons (jg_nm (i := 6) nd rfl (by first | exact .inl rfl | exact .inr rfl)) (jgs_cons (jg_nm (i := 7) nd rfl (by first | exact .inl rfl | exact .inr rfl)) jgs_nil))) (jb_one (js_if (PW.pt (jw_and (jt_eq hr (je_ix hr (je_var (pv 7)) je_int) (je_var (pv 5))) (jw_and1 (jt_isN (je_ix hr (je_var (pv 2)) (je_ix hr (je_var (pv 7)) je_int)) je_non)))) (jb_cons (js_put hr (je_var (pv 2)) (je_ix hr (je_var (pv 7)) je_int) (je_add (je_ix hr (je_var (pv 2)) (je_var (pv 5))) (je_tup (ja_cons (je_var (pv 6)) ja_nil))))
  (jb_one (js_expr (je_append (je_var (pv 3)) (ja_cons (je_ix hr (je_var (pv 7)) je_int) ja_nil))))) jb_nil)))
  (jb_one (js_augAdd (i := 4) nd rfl (by first | exact .inl rfl | exact .inr rfl) je_int)))))
  (jb_one (js_ret (je_var (pv 2)))))))))
theorem sc_count : FnScope ["actions", "word", "numbers", "action"] ["actions", "word"] (defScope s_count) := ⟨rfl, rfl, rfl, by decide +kernel, rfl, by decide +kernel, by decide +kernel⟩
theorem j_count (T : Txt K mg C_Chart C_Lost) {f : Addr} {cdv : Value} {A : Around} {outer : List PySem.Env} {s : Shared} {H : Hp} {E : XK} (hr : Room 0 (cxOf (L2.CX P w) P w K mg base ["actions", "word", "numbers", "action"] "count" (defScope s_count) f cdv A outer s H E).A)
    (tk : Takes (cxOf (L2.CX P w) P w K mg base ["actions", "word", "numbers", "action"] "count" (defScope s_count) f cdv A outer s H E) (WK E)) : JB (cxOf (L2.CX P w) P w K mg base ["actions", "word", "numbers", "action"] "count" (defScope s_count) f cdv A outer s H E) (WK E) (defBody s_count) (r_count) := by
  have nd := (sc_count).nd
  exact (jb_cons (js_set (i := 2) nd rfl (by first | exact .inl rfl | exact .inr rfl) (je_mul (je_lst (ja_cons je_int ja_nil)) (je_var (pv 0))))
  (jb_cons (js_for (passes_of rfl) rfl (ji_seq (je_var (pv 1))) (jg_nm (i := 3) nd rfl (by first | exact .inl rfl | exact .inr rfl)) (jb_one (js_augS hr (je_var (pv 2)) (je_var (pv 3)) je_int ip_add ops_ipadd)))
  (jb_one (js_ret (je_callTy call_tuple_of calls_tuple (by rfl) T.n_tuple (by decide +kernel) (ja_cons (je_var (pv 2)) ja_nil))))))
theorem sc_round_row : FnScope ["points", "edge", "source", "action", "target", "row", "there", "here"] ["points", "edge"] (defScope s_round_row) := ⟨rfl, rfl, rfl, by decide +kernel, rfl, by decide +kernel, by decide +kernel⟩
theorem j_round_row (T : Txt K mg C_Chart C_Lost) {f : Addr} {cdv : Value} {A : Around} {outer : List PySem.Env} {s : Shared} {H : Hp} {E : XK} (hr : Room 0 (cxOf (L2.CX P w) P w K mg base ["points", "edge", "source", "action", "target", "row", "there", "here"] "round_row" (defScope s_round_row) f cdv A outer s H E).A)
    (tk : Takes (cxOf (L2.CX P w) P w K mg base ["points", "edge", "source", "action", "target", "row", "there", "here"] "round_row" (defScope s_round_row) f cdv A outer s H E) (WK E)) : JB (cxOf (L2.CX P w) P w K mg base ["points", "edge", "source", "action", "target", "row", "there", "here"] "round_row" (defScope s_round_row) f cdv A outer s H E) (WK E) (defBody s_round_row) (r_round_row) := by
  have nd := (sc_round_row).nd
  exact (jb_cons (js_asg (je_var (pv 1)) (jg_tp rfl (jgs_cons (jg_nm (i := 2) nd rfl (by first | exact .inl rfl | exact .inr rfl)) (jgs_cons (jg_nm (i := 3) nd rfl (by first | exact .inl rfl | exact .inr rfl)) (jgs_cons (jg_nm (i := 4) nd rfl (by first | exact .inl rfl | exact .inr rfl)) jgs_nil)))))
  (jb_cons (js_setLc (i := 5) (own := [("there", 6), ("here", 7)]) (t := (.tp [(.nm 6), (.nm 7)])) (tt := wYes) (te := (wOp oSub (wVar 6) (wVar 7))) rfl nd rfl (by rfl) (by rfl) (ji_zip (by rfl) T.n_zip (ja_cons (je_ix hr (je_var (pv 0)) (je_var (pv 2))) (ja_cons (je_ix hr (je_var (pv 0)) (je_var (pv 4))) ja_nil))) (blkOk_by (by rfl)) (by rfl) (fun _ _ _ _ _ => (jg_tp rfl (jgs_cons (jg_nm (i := 6) nd rfl (by first | exact .inl rfl | exact .inr rfl)) (jgs_cons (jg_nm (i := 7) nd rfl (by first | exact .inl rfl | exact .inr rfl)) jgs_nil)))) (fun _ _ _ _ _ => jts_nil) (fun _ _ _ _ _ => (je_sub (je_var (pv 6)) (je_var (pv 7)))))
  (jb_cons (js_augS hr (je_var (pv 5)) (je_var (pv 3)) je_int ip_add ops_ipadd)
  (jb_one (js_ret (je_callTy call_tuple_of calls_tuple (by rfl) T.n_tuple (by decide +kernel) (ja_cons (je_var (pv 5)) ja_nil)))))))
theorem sc_Chart___init__ : FnScope ["self", "actions", "states", "edges", "edge", "state", "word", "rows"] ["self", "actions", "states", "edges"] (defScope s_Chart___init__) := ⟨rfl, rfl, rfl, by decide +kernel, rfl, by decide +kernel, by decide +kernel⟩
theorem j_Chart___init__ (T : Txt K mg C_Chart C_Lost) {p_edge_table : PT} (c_edge_table : CalP P w K mg base 1 "edge_table" 3 p_edge_table) {p_find_trails : PT} (c_find_trails : CalP P w K mg base 1 "find_trails" 2 p_find_trails) {p_paths : PT} (c_paths : CalP P w K mg base 1 "paths" 1 p_paths) {p_count : PT} (c_count : CalP P w K mg base 1 "count" 2 p_count) {p_round_row : PT} (c_round_row : CalP P w K mg base 1 "round_row" 2 p_round_row) {p_independent : PT} (c_independent : CalP P w K mg base 3 "independent" 1 p_independent) {f : Addr} {cdv : Value} {A : Around} {outer : List PySem.Env} {s : Shared} {H : Hp} {E : XK} (hr : Room 3 (cxOf (L2.CX P w) P w K mg base ["self", "actions", "states", "edges", "edge", "state", "word", "rows"] "Chart.__init__" (defScope s_Chart___init__) f cdv A outer s H E).A)
    (tk : Takes (cxOf (L2.CX P w) P w K mg base ["self", "actions", "states", "edges", "edge", "state", "word", "rows"] "Chart.__init__" (defScope s_Chart___init__) f cdv A outer s H E) (WK E)) : JB (cxOf (L2.CX P w) P w K mg base ["self", "actions", "states", "edges", "edge", "state", "word", "rows"] "Chart.__init__" (defScope s_Chart___init__) f cdv A outer s H E) (WK E) (defBody s_Chart___init__) (r_Chart___init__ C_Chart p_edge_table p_find_trails p_paths p_count p_round_row p_independent) := by
  have nd := (sc_Chart___init__).nd
  exact (jb_cons (js_if (jt_gt (je_var (pv 1)) (je_cvalE (by rfl) T.mg_Chart T.cv_Chart_MOST_ACTIONS)) (jb_one js_never) jb_nil)
  (jb_cons (js_if (jt_gt (je_var (pv 2)) (je_cvalE (by rfl) T.mg_Chart T.cv_Chart_MOST_STATES)) (jb_one js_never) jb_nil)
  (jb_cons (js_setF T.cl_Chart T.na_Chart__targets (je_var (pv 0)) (je_call c_edge_table (hr.mono (by decide)) (by rfl) tk (ja_cons (je_var (pv 1)) (ja_cons (je_var (pv 2)) (ja_cons (je_var (pv 3)) ja_nil)))))
  (jb_cons (js_setF T.cl_Chart T.na_Chart_actions (je_var (pv 0)) (je_var (pv 1)))
  (jb_cons (js_setF T.cl_Chart T.na_Chart_states (je_var (pv 0)) (je_var (pv 2)))
  (jb_cons (js_setF T.cl_Chart T.na_Chart_edges (je_var (pv 0)) (je_callTy call_tuple_of calls_tuple (by rfl) T.n_tuple (by decide +kernel) (ja_cons (je_callB (cr_sortT (d := 3) (B := 16) (by decide)) calls_sortT (by rfl) T.n_sorted (by decide +kernel) (ja_cons (je_lc (own := [("edge", 4)]) (t := (.nm 4)) (tt := wYes) (te := (wCall cTuple (waCons (wVar 4) waNil))) rfl nd (ji_seq (je_var (pv 3))) (blkOk_by (by rfl)) (by rfl) (fun _ _ _ _ _ => (jg_nm (i := 4) nd rfl (by first | exact .inl rfl | exact .inr rfl))) (fun _ _ _ _ _ => jts_nil) (fun _ _ _ _ _ => (je_callTy call_tuple_of calls_tuple (by rfl) T.n_tuple (by decide +kernel) (ja_cons (je_var (pv 4)) ja_nil)))) ja_nil)) ja_nil)))
  (jb_cons (js_setF T.cl_Chart T.na_Chart__trails (je_var (pv 0)) (je_call c_find_trails (hr.mono (by decide)) (by rfl) tk (ja_cons (je_var (pv 2)) (ja_cons (je_fld T.cl_Chart T.na_Chart_edges (je_var (pv 0))) ja_nil))))
  (jb_cons (js_for (passes_of rfl) rfl (ji_range1 (by rfl) T.n_range (ja_cons (je_var (pv 2)) ja_nil)) (jg_nm (i := 5) nd rfl (by first | exact .inl rfl | exact .inr rfl)) (jb_one (js_if (jt_isN (je_ix hr (je_fld T.cl_Chart T.na_Chart__trails (je_var (pv 0))) (je_var (pv 5))) je_non) (jb_one js_never) jb_nil)))
  (jb_cons (js_setF T.cl_Chart T.na_Chart__points (je_var (pv 0)) (je_lc (own := [("word", 6)]) (t := (.nm 6)) (tt := wYes) (te := (wCallF 2 p_count (waCons (wVar 1) (waCons (wVar 6) waNil)))) rfl nd (ji_seq (je_call c_paths (hr.mono (by decide)) (by rfl) tk (ja_cons (je_var (pv 0)) ja_nil))) (blkOk_by (by rfl)) (by rfl) (fun _ _ _ _ _ => (jg_nm (i := 6) nd rfl (by first | exact .inl rfl | exact .inr rfl))) (fun _ _ _ _ _ => jts_nil) (fun _ _ _ _ _ => (je_call c_count (hr.mono (by decide)) (by rfl) takes0 (ja_cons (je_var (pv 1)) (ja_cons (je_var (pv 6)) ja_nil))))))
  (jb_cons (js_setLc (i := 7) (own := [("edge", 4)]) (t := (.nm 4)) (tt := wYes) (te := (wCallF 2 p_round_row (waCons (wFld C_Chart "_points" (wVar 0)) (waCons (wVar 4) waNil)))) rfl nd rfl (by rfl) (by rfl) (ji_seq (je_fld T.cl_Chart T.na_Chart_edges (je_var (pv 0)))) (blkOk_by (by rfl)) (by rfl) (fun _ _ _ _ _ => (jg_nm (i := 4) nd rfl (by first | exact .inl rfl | exact .inr rfl))) (fun _ _ _ _ _ => jts_nil) (fun _ _ _ _ _ => (je_call c_round_row (hr.mono (by decide)) (by rfl) takes0 (ja_cons (je_fld T.cl_Chart T.na_Chart__points (je_var (pv 0))) (ja_cons (je_var (pv 4)) ja_nil)))))
  (jb_one (js_setF T.cl_Chart T.na_Chart__rounds (je_var (pv 0)) (je_call c_independent (hr.mono (by decide)) (by rfl) tk (ja_cons (je_var (pv 7)) ja_nil))))))))))))))
theorem sc_Chart_after : FnScope ["self", "state", "action"] ["self", "state", "action"] (defScope s_Chart_after) := ⟨rfl, rfl, rfl, by decide +kernel, rfl, by decide +kernel, by decide +kernel⟩
theorem j_Chart_after (T : Txt K mg C_Chart C_Lost) {f : Addr} {cdv : Value} {A : Around} {outer : List PySem.Env} {s : Shared} {H : Hp} {E : XK} (hr : Room 0 (cxOf (L2.CX P w) P w K mg base ["self", "state", "action"] "Chart.after" (defScope s_Chart_after) f cdv A outer s H E).A)
    (tk : Takes (cxOf (L2.CX P w) P w K mg base ["self", "state", "action"] "Chart.after" (defScope s_Chart_after) f cdv A outer s H E) (WK E)) : JB (cxOf (L2.CX P w) P w K mg base ["self", "state", "action"] "Chart.after" (defScope s_Chart_after) f cdv A outer s H E) (WK E) (defBody s_Chart_after) (r_Chart_after C_Chart) := by
  have nd := (sc_Chart_after).nd
  exact (jb_one (js_ret (je_get hr (je_fld T.cl_Chart T.na_Chart__targets (je_var (pv 0))) (je_tup (ja_cons (je_var (pv 1)) (ja_cons (je_var (pv 2)) ja_nil))))))
theorem sc_Chart_enabled : FnScope ["self", "state", "action"] ["self", "state"] (defScope s_Chart_enabled) := ⟨rfl, rfl, rfl, by decide +kernel, rfl, by decide +kernel, by decide +kernel⟩
theorem j_Chart_enabled (T : Txt K mg C_Chart C_Lost) {f : Addr} {cdv : Value} {A : Around} {outer : List PySem.Env} {s : Shared} {H : Hp} {E : XK} (hr : Room 0 (cxOf (L2.CX P w) P w K mg base ["self", "state", "action"] "Chart.enabled" (defScope s_Chart_enabled) f cdv A outer s H E).A)
    (tk : Takes (cxOf (L2.CX P w) P w K mg base ["self", "state", "action"] "Chart.enabled" (defScope s_Chart_enabled) f cdv A outer s H E) (WK E)) : JB (cxOf (L2.CX P w) P w K mg base ["self", "state", "action"] "Chart.enabled" (defScope s_Chart_enabled) f cdv A outer s H E) (WK E) (defBody s_Chart_enabled) (r_Chart_enabled C_Chart) := by
  have nd := (sc_Chart_enabled).nd
  exact (jb_one (js_ret (je_lc (own := [("action", 2)]) (t := (.nm 2)) (tt := (wTest (wOp (oIn false) (wTup (waCons (wVar 1) (waCons (wVar 2) waNil))) (wFld C_Chart "_targets" (wVar 0))))) (te := (wVar 2)) rfl nd (ji_range1 (by rfl) T.n_range (ja_cons (je_fld T.cl_Chart T.na_Chart_actions (je_var (pv 0))) ja_nil)) (blkOk_by (by rfl)) (by rfl) (fun _ _ _ _ _ => (jg_nm (i := 2) nd rfl (by first | exact .inl rfl | exact .inr rfl))) (fun _ _ _ _ _ => (jts_one (jt_in hr (je_tup (ja_cons (je_var (pv 1)) (ja_cons (je_var (pv 2)) ja_nil))) (je_fld T.cl_Chart T.na_Chart__targets (je_var (pv 0)))))) (fun _ _ _ _ _ => (je_var (pv 2))))))
theorem sc_Chart___contains__ : FnScope ["self", "word", "state", "action"] ["self", "word"] (defScope s_Chart___contains__) := ⟨rfl, rfl, rfl, by decide +kernel, rfl, by decide +kernel, by decide +kernel⟩
theorem j_Chart___contains__ (T : Txt K mg C_Chart C_Lost) {f : Addr} {cdv : Value} {A : Around} {outer : List PySem.Env} {s : Shared} {H : Hp} {E : XK} (hr : Room 0 (cxOf (L2.CX P w) P w K mg base ["self", "word", "state", "action"] "Chart.__contains__" (defScope s_Chart___contains__) f cdv A outer s H E).A)
    (tk : Takes (cxOf (L2.CX P w) P w K mg base ["self", "word", "state", "action"] "Chart.__contains__" (defScope s_Chart___contains__) f cdv A outer s H E) (WK E)) : JB (cxOf (L2.CX P w) P w K mg base ["self", "word", "state", "action"] "Chart.__contains__" (defScope s_Chart___contains__) f cdv A outer s H E) (WK E) (defBody s_Chart___contains__) (r_Chart___contains__ C_Chart) := by
  have nd := (sc_Chart___contains__).nd
  exact (jb_cons (js_set (i := 2) nd rfl (by first | exact .inl rfl | exact .inr rfl) je_int)
  (jb_cons (js_for (passes_of rfl) rfl (ji_seq (je_var (pv 1))) (jg_nm (i := 3) nd rfl (by first | exact .inl rfl | exact .inr rfl)) (jb_cons (js_set (i := 2) nd rfl (by first | exact .inl rfl | exact .inr rfl) (je_get hr (je_fld T.cl_Chart T.na_Chart__targets (je_var (pv 0))) (je_tup (ja_cons (je_var (pv 2)) (ja_cons (je_var (pv 3)) ja_nil)))))
  (jb_one (js_if (jt_isN (je_var (pv 2)) je_non) (jb_one (js_ret je_bl)) jb_nil))))
  (jb_one (js_ret je_bl))))
theorem sc_paths : FnScope ["chart", "number", "trail"] ["chart"] (defScope s_paths) := ⟨rfl, rfl, rfl, by decide +kernel, rfl, by decide +kernel, by decide +kernel⟩
theorem j_paths (T : Txt K mg C_Chart C_Lost) {f : Addr} {cdv : Value} {A : Around} {outer : List PySem.Env} {s : Shared} {H : Hp} {E : XK} (hr : Room 0 (cxOf (L2.CX P w) P w K mg base ["chart", "number", "trail"] "paths" (defScope s_paths) f cdv A outer s H E).A)
    (tk : Takes (cxOf (L2.CX P w) P w K mg base ["chart", "number", "trail"] "paths" (defScope s_paths) f cdv A outer s H E) (WK E)) : JB (cxOf (L2.CX P w) P w K mg base ["chart", "number", "trail"] "paths" (defScope s_paths) f cdv A outer s H E) (WK E) (defBody s_paths) (r_paths C_Chart) := by
  have nd := (sc_paths).nd
  exact (jb_one (js_ret (je_lc (own := [("trail", 2)]) (t := (.nm 2)) (tt := wYes) (te := (wCall cTuple (waCons (wLc (wISeq (wVar 2)) (.nm 1) wYes (wOp oIx (wOp oIx (wFld C_Chart "edges" (wVar 0)) (wVar 1)) (wC (.int 1))) [1]) waNil))) rfl nd (ji_seq (je_fld T.cl_Chart T.na_Chart__trails (je_var (pv 0)))) (blkOk_by (by rfl)) (by rfl) (fun _ _ _ _ _ => (jg_nm (i := 2) nd rfl (by first | exact .inl rfl | exact .inr rfl))) (fun _ _ _ _ _ => jts_nil) (fun _ _ _ _ _ => (je_callTy call_tuple_of calls_tuple (by rfl) T.n_tuple (by decide +kernel) (ja_cons (je_lc (own := [("number", 1)]) (t := (.nm 1)) (tt := wYes) (te := (wOp oIx (wOp oIx (wFld C_Chart "edges" (wVar 0)) (wVar 1)) (wC (.int 1)))) rfl nd (ji_seq (je_var (pv 2))) (blkOk_by (by rfl)) (by rfl) (fun _ _ _ _ _ => (jg_nm (i := 1) nd rfl (by first | exact .inl rfl | exact .inr rfl))) (fun _ _ _ _ _ => jts_nil) (fun _ _ _ _ _ => (je_ix hr (je_ix hr (je_fld T.cl_Chart T.na_Chart_edges (je_var (pv 0))) (je_var (pv 1))) je_int))) ja_nil))))))
theorem sc_reached_by : FnScope ["chart", "kept", "order", "at", "number", "source", "_", "target"] ["chart", "kept"] (defScope s_reached_by) := ⟨rfl, rfl, rfl, by decide +kernel, rfl, by decide +kernel, by decide +kernel⟩
theorem j_reached_by (T : Txt K mg C_Chart C_Lost) {f : Addr} {cdv : Value} {A : Around} {outer : List PySem.Env} {s : Shared} {H : Hp} {E : XK} (hr : Room 0 (cxOf (L2.CX P w) P w K mg base ["chart", "kept", "order", "at", "number", "source", "_", "target"] "reached_by" (defScope s_reached_by) f cdv A outer s H E).A)
    (tk : Takes (cxOf (L2.CX P w) P w K mg base ["chart", "kept", "order", "at", "number", "source", "_", "target"] "reached_by" (defScope s_reached_by) f cdv A outer s H E) (WK E)) : JB (cxOf (L2.CX P w) P w K mg base ["chart", "kept", "order", "at", "number", "source", "_", "target"] "reached_by" (defScope s_reached_by) f cdv A outer s H E) (WK E) (defBody s_reached_by) (r_reached_by C_Chart) := by
  have nd := (sc_reached_by).nd
  exact (jb_cons (js_set (i := 2) nd rfl (by first | exact .inl rfl | exact .inr rfl) (je_lst (ja_cons je_int ja_nil)))
  (jb_cons (js_set (i := 3) nd rfl (by first | exact .inl rfl | exact .inr rfl) je_int)
  (jb_cons (js_while (passes_of rfl) (jt_lt (je_var (pv 3)) (je_callB call_len_seq calls_len (by rfl) T.n_len (by decide +kernel) (ja_cons (je_var (pv 2)) ja_nil))) (jb_cons (js_for (passes_of rfl) rfl (ji_seq (je_var (pv 1))) (jg_nm (i := 4) nd rfl (by first | exact .inl rfl | exact .inr rfl)) (jb_cons (js_asg (je_ix hr (je_fld T.cl_Chart T.na_Chart_edges (je_var (pv 0))) (je_var (pv 4))) (jg_tp rfl (jgs_cons (jg_nm (i := 5) nd rfl (by first | exact .inl rfl | exact .inr rfl)) (jgs_cons (jg_nm (i := 6) nd rfl (by first | exact .inl rfl | exact .inr rfl)) (jgs_cons (jg_nm (i := 7) nd rfl (by first | exact .inl rfl | exact .inr rfl)) jgs_nil)))))
  (jb_one (js_if (PW.pt (jw_and (jt_eq hr (je_var (pv 5)) (je_ix hr (je_var (pv 2)) (je_var (pv 3)))) (jw_and1 (jt_notIn hr (je_var (pv 7)) (je_var (pv 2)))))) (jb_one (js_expr (je_append (je_var (pv 2)) (ja_cons (je_var (pv 7)) ja_nil)))) jb_nil))))
  (jb_one (js_augAdd (i := 3) nd rfl (by first | exact .inl rfl | exact .inr rfl) je_int))))
  (jb_one (js_ret (je_callB cr_sortedI calls_sortI (by rfl) T.n_sorted (by decide +kernel) (ja_cons (je_var (pv 2)) ja_nil)))))))
theorem sc_part : FnScope ["chart", "kept", "states", "edges", "number", "source", "_", "numbers", "state", "renamed", "action", "target"] ["chart", "kept"] (defScope s_part) := ⟨rfl, rfl, rfl, by decide +kernel, rfl, by decide +kernel, by decide +kernel⟩
theorem j_part (T : Txt K mg C_Chart C_Lost) {p_reached_by : PT} (c_reached_by : CalP P w K mg base 1 "reached_by" 2 p_reached_by) {p_Chart___init__ : PT} (c_Chart : MakP P w K mg base 4 "Chart" C_Chart 4 p_Chart___init__) {f : Addr} {cdv : Value} {A : Around} {outer : List PySem.Env} {s : Shared} {H : Hp} {E : XK} (hr : Room 5 (cxOf (L2.CX P w) P w K mg base ["chart", "kept", "states", "edges", "number", "source", "_", "numbers", "state", "renamed", "action", "target"] "part" (defScope s_part) f cdv A outer s H E).A)
    (tk : Takes (cxOf (L2.CX P w) P w K mg base ["chart", "kept", "states", "edges", "number", "source", "_", "numbers", "state", "renamed", "action", "target"] "part" (defScope s_part) f cdv A outer s H E) (WK E)) : JB (cxOf (L2.CX P w) P w K mg base ["chart", "kept", "states", "edges", "number", "source", "_", "numbers", "state", "renamed", "action", "target"] "part" (defScope s_part) f cdv A outer s H E) (WK E) (defBody s_part) (r_part C_Chart p_reached_by p_Chart___init__) := by
  have nd := (sc_part).nd
  exact (jb_cons (js_set (i := 2) nd rfl (by first | exact .inl rfl | exact .inr rfl) (je_call c_reached_by (hr.mono (by decide)) (by rfl) tk (ja_cons (je_var (pv 0)) (ja_cons (je_var (pv 1)) ja_nil))))
  (jb_cons (js_setLc (i := 3) (own := [("number", 4)]) (t := (.nm 4)) (tt := wYes) (te := (wOp oIx (wFld C_Chart "edges" (wVar 0)) (wVar 4))) rfl nd rfl (by rfl) (by rfl) (ji_seq (je_var (pv 1))) (blkOk_by (by rfl)) (by rfl) (fun _ _ _ _ _ => (jg_nm (i := 4) nd rfl (by first | exact .inl rfl | exact .inr rfl))) (fun _ _ _ _ _ => jts_nil) (fun _ _ _ _ _ => (je_ix hr (je_fld T.cl_Chart T.na_Chart_edges (je_var (pv 0))) (je_var (pv 4)))))
  (jb_cons (js_for (passes_of rfl) rfl (ji_seq (je_var (pv 3))) (jg_tp rfl (jgs_cons (jg_nm (i := 5) nd rfl (by first | exact .inl rfl | exact .inr rfl)) (jgs_cons (jg_nm (i := 6) nd rfl (by first | exact .inl rfl | exact .inr rfl)) (jgs_cons (jg_nm (i := 6) nd rfl (by first | exact .inl rfl | exact .inr rfl)) jgs_nil)))) (jb_one (js_if (jt_notIn hr (je_var (pv 5)) (je_var (pv 2))) (jb_one js_never) jb_nil)))
  (jb_cons (js_set (i := 7) nd rfl (by first | exact .inl rfl | exact .inr rfl) (je_dc (own := [("number", 4), ("state", 8)]) (t := (.tp [(.nm 4), (.nm 8)])) (tt := wYes) (tk := (wVar 8)) (tv := (wVar 4)) rfl nd (ji_enum (by rfl) T.n_enumerate (ja_cons (je_var (pv 2)) ja_nil)) (blkOk_by (by rfl)) (by rfl) (fun _ _ _ _ _ => (jg_tp rfl (jgs_cons (jg_nm (i := 4) nd rfl (by first | exact .inl rfl | exact .inr rfl)) (jgs_cons (jg_nm (i := 8) nd rfl (by first | exact .inl rfl | exact .inr rfl)) jgs_nil)))) (fun _ _ _ _ _ => jts_nil) (fun _ _ _ _ _ => (je_var (pv 8))) (fun _ _ _ _ _ => (je_var (pv 4)))))
  (jb_cons (js_setLc (i := 9) (own := [("source", 5), ("action", 10), ("target", 11)]) (t := (.tp [(.nm 5), (.nm 10), (.nm 11)])) (tt := wYes) (te := (wTup (waCons (wOp oIx (wVar 7) (wVar 5)) (waCons (wVar 10) (waCons (wOp oIx (wVar 7) (wVar 11)) waNil))))) rfl nd rfl (by rfl) (by rfl) (ji_seq (je_var (pv 3))) (blkOk_by (by rfl)) (by rfl) (fun _ _ _ _ _ => (jg_tp rfl (jgs_cons (jg_nm (i := 5) nd rfl (by first | exact .inl rfl | exact .inr rfl)) (jgs_cons (jg_nm (i := 10) nd rfl (by first | exact .inl rfl | exact .inr rfl)) (jgs_cons (jg_nm (i := 11) nd rfl (by first | exact .inl rfl | exact .inr rfl)) jgs_nil))))) (fun _ _ _ _ _ => jts_nil) (fun _ _ _ _ _ => (je_tup (ja_cons (je_ix hr (je_var (pv 7)) (je_var (pv 5))) (ja_cons (je_var (pv 10)) (ja_cons (je_ix hr (je_var (pv 7)) (je_var (pv 11))) ja_nil))))))
  (jb_one (js_ret (je_make c_Chart (hr.mono (by decide)) (by rfl) tk (ja_cons (je_fld T.cl_Chart T.na_Chart_actions (je_var (pv 0))) (ja_cons (je_callB call_len_seq calls_len (by rfl) T.n_len (by decide +kernel) (ja_cons (je_var (pv 2)) ja_nil)) (ja_cons (je_var (pv 9)) ja_nil)))))))))))
theorem sc_lost_states : FnScope ["chart", "bad", "own", "lost", "_", "source", "action", "target"] ["chart", "bad", "own"] (defScope s_lost_states) := ⟨rfl, rfl, rfl, by decide +kernel, rfl, by decide +kernel, by decide +kernel⟩
theorem j_lost_states (T : Txt K mg C_Chart C_Lost) {f : Addr} {cdv : Value} {A : Around} {outer : List PySem.Env} {s : Shared} {H : Hp} {E : XK} (hr : Room 0 (cxOf (L2.CX P w) P w K mg base ["chart", "bad", "own", "lost", "_", "source", "action", "target"] "lost_states" (defScope s_lost_states) f cdv A outer s H E).A)
    (tk : Takes (cxOf (L2.CX P w) P w K mg base ["chart", "bad", "own", "lost", "_", "source", "action", "target"] "lost_states" (defScope s_lost_states) f cdv A outer s H E) (WK E)) : JB (cxOf (L2.CX P w) P w K mg base ["chart", "bad", "own", "lost", "_", "source", "action", "target"] "lost_states" (defScope s_lost_states) f cdv A outer s H E) (WK E) (defBody s_lost_states) (r_lost_states C_Chart) := by
  have nd := (sc_lost_states).nd
  exact (jb_cons (js_set (i := 3) nd rfl (by first | exact .inl rfl | exact .inr rfl) (je_callTy call_list_of calls_list (by rfl) T.n_list (by decide +kernel) (ja_cons (je_var (pv 1)) ja_nil)))
  (jb_cons (js_for (passes_of rfl) rfl (ji_range1 (by rfl) T.n_range (ja_cons (je_fld T.cl_Chart T.na_Chart_states (je_var (pv 0))) ja_nil)) (jg_nm (i := 4) nd rfl (by first | exact .inl rfl | exact .inr rfl)) (jb_one (js_for (passes_of rfl) rfl (ji_seq (je_fld T.cl_Chart T.na_Chart_edges (je_var (pv 0)))) (jg_tp rfl (jgs_cons (jg_nm (i := 5) nd rfl (by first | exact .inl rfl | exact .inr rfl)) (jgs_cons (jg_nm (i := 6) nd rfl (by first | exact .inl rfl | exact .inr rfl)) (jgs_cons (jg_nm (i := 7) nd rfl (by first | exact .inl rfl | exact .inr rfl)) jgs_nil)))) (jb_one (js_if (PW.pt (jw_and (jt_notIn hr (je_var (pv 6)) (je_var (pv 2))) (jw_and (jt_in hr (je_var (pv 7)) (je_var (pv 3))) (jw_and1 (jt_notIn hr (je_var (pv 5)) (je_var (pv 3))))))) (jb_one (js_expr (je_append (je_var (pv 3)) (ja_cons (je_var (pv 5)) ja_nil)))) jb_nil)))))
  (jb_one (js_ret (je_callB cr_sortedI calls_sortI (by rfl) T.n_sorted (by decide +kernel) (ja_cons (je_var (pv 3)) ja_nil))))))
theorem sc_lost_word : FnScope ["chart", "bad", "own", "words", "order", "at", "state", "action", "target"] ["chart", "bad", "own"] (defScope s_lost_word) := ⟨rfl, rfl, rfl, by decide +kernel, rfl, by decide +kernel, by decide +kernel⟩
theorem j_lost_word (T : Txt K mg C_Chart C_Lost) {p_Chart_enabled : PT} (c_Chart_enabled : MetP P w K mg base 1 C_Chart "enabled" 2 p_Chart_enabled) {p_Chart_after : PT} (c_Chart_after : MetP P w K mg base 1 C_Chart "after" 3 p_Chart_after) {f : Addr} {cdv : Value} {A : Around} {outer : List PySem.Env} {s : Shared} {H : Hp} {E : XK} (hr : Room 1 (cxOf (L2.CX P w) P w K mg base ["chart", "bad", "own", "words", "order", "at", "state", "action", "target"] "lost_word" (defScope s_lost_word) f cdv A outer s H E).A)
    (tk : Takes (cxOf (L2.CX P w) P w K mg base ["chart", "bad", "own", "words", "order", "at", "state", "action", "target"] "lost_word" (defScope s_lost_word) f cdv A outer s H E) (WK E)) : JB (cxOf (L2.CX P w) P w K mg base ["chart", "bad", "own", "words", "order", "at", "state", "action", "target"] "lost_word" (defScope s_lost_word) f cdv A outer s H E) (WK E) (defBody s_lost_word) (r_lost_word C_Chart p_Chart_enabled p_Chart_after) := by
  have nd := (sc_lost_word).nd
  exact (jb_cons (js_set (i := 3) nd rfl (by first | exact .inl rfl | exact .inr rfl) (je_disp1 je_int (je_tup ja_nil)))
  (jb_cons (js_set (i := 4) nd rfl (by first | exact .inl rfl | exact .inr rfl) (je_lst (ja_cons je_int ja_nil)))
  (jb_cons (js_set (i := 5) nd rfl (by first | exact .inl rfl | exact .inr rfl) je_int)
  (jb_cons (js_while (passes_of rfl) (jt_notIn hr (je_ix hr (je_var (pv 4)) (je_var (pv 5))) (je_var (pv 1))) (jb_cons (js_set (i := 6) nd rfl (by first | exact .inl rfl | exact .inr rfl) (je_ix hr (je_var (pv 4)) (je_var (pv 5))))
  (jb_cons (js_for (passes_of rfl) rfl (ji_seq (je_meth (pl := _) T.cl_Chart c_Chart_enabled (hr.mono (by decide)) tk (je_var (pv 0)) (ja_cons (je_var (pv 6)) ja_nil))) (jg_nm (i := 7) nd rfl (by first | exact .inl rfl | exact .inr rfl)) (jb_cons (js_set (i := 8) nd rfl (by first | exact .inl rfl | exact .inr rfl) (je_meth (pl := _) T.cl_Chart c_Chart_after (hr.mono (by decide)) tk (je_var (pv 0)) (ja_cons (je_var (pv 6)) (ja_cons (je_var (pv 7)) ja_nil))))
  (jb_one (js_if (PW.pt (jw_and (jt_notIn hr (je_var (pv 7)) (je_var (pv 2))) (jw_and1 (jt_notIn hr (je_var (pv 8)) (je_var (pv 3)))))) (jb_cons (js_put hr (je_var (pv 3)) (je_var (pv 8)) (je_add (je_ix hr (je_var (pv 3)) (je_var (pv 6))) (je_tup (ja_cons (je_var (pv 7)) ja_nil))))
  (jb_one (js_expr (je_append (je_var (pv 4)) (ja_cons (je_var (pv 8)) ja_nil))))) jb_nil))))
  (jb_one (js_augAdd (i := 5) nd rfl (by first | exact .inl rfl | exact .inr rfl) je_int)))))
  (jb_one (js_ret (je_ix hr (je_var (pv 3)) (je_ix hr (je_var (pv 4)) (je_var (pv 5))))))))))
theorem sc_safe_states : FnScope ["chart", "bad", "own", "lost", "word", "safe", "_", "edge"] ["chart", "bad", "own"] (defScope s_safe_states) := ⟨rfl, rfl, rfl, by decide +kernel, rfl, by decide +kernel, by decide +kernel⟩
theorem j_safe_states (T : Txt K mg C_Chart C_Lost) {p_lost_states : PT} (c_lost_states : CalP P w K mg base 1 "lost_states" 3 p_lost_states) {p_lost_word : PT} (c_lost_word : CalP P w K mg base 2 "lost_word" 3 p_lost_word) (c_Lost : Rai P w K mg "Lost" C_Lost "word") {f : Addr} {cdv : Value} {A : Around} {outer : List PySem.Env} {s : Shared} {H : Hp} {E : XK} (hr : Room 2 (cxOf (L2.CX P w) P w K mg base ["chart", "bad", "own", "lost", "word", "safe", "_", "edge"] "safe_states" (defScope s_safe_states) f cdv A outer s H E).A)
    (tk : Takes (cxOf (L2.CX P w) P w K mg base ["chart", "bad", "own", "lost", "word", "safe", "_", "edge"] "safe_states" (defScope s_safe_states) f cdv A outer s H E) (WK E)) : JB (cxOf (L2.CX P w) P w K mg base ["chart", "bad", "own", "lost", "word", "safe", "_", "edge"] "safe_states" (defScope s_safe_states) f cdv A outer s H E) (WK E) (defBody s_safe_states) (r_safe_states C_Lost C_Chart p_lost_states p_lost_word) := by
  have nd := (sc_safe_states).nd
  exact (jb_cons (js_set (i := 3) nd rfl (by first | exact .inl rfl | exact .inr rfl) (je_call c_lost_states (hr.mono (by decide)) (by rfl) tk (ja_cons (je_var (pv 0)) (ja_cons (je_var (pv 1)) (ja_cons (je_var (pv 2)) ja_nil)))))
  (jb_cons (js_if (jt_in hr je_int (je_var (pv 3))) (jb_cons (js_set (i := 4) nd rfl (by first | exact .inl rfl | exact .inr rfl) (je_call c_lost_word (hr.mono (by decide)) (by rfl) tk (ja_cons (je_var (pv 0)) (ja_cons (je_var (pv 1)) (ja_cons (je_var (pv 2)) ja_nil)))))
  (jb_one (js_raise c_Lost hr tk (ja_cons (je_var (pv 4)) ja_nil)))) jb_nil)
  (jb_cons (js_set (i := 5) nd rfl (by first | exact .inl rfl | exact .inr rfl) (je_lst (ja_cons je_int ja_nil)))
  (jb_cons (js_for (passes_of rfl) rfl (ji_range1 (by rfl) T.n_range (ja_cons (je_fld T.cl_Chart T.na_Chart_states (je_var (pv 0))) ja_nil)) (jg_nm (i := 6) nd rfl (by first | exact .inl rfl | exact .inr rfl)) (jb_one (js_for (passes_of rfl) rfl (ji_seq (je_fld T.cl_Chart T.na_Chart_edges (je_var (pv 0)))) (jg_nm (i := 7) nd rfl (by first | exact .inl rfl | exact .inr rfl)) (jb_one (js_if (PW.pt (jw_and (jt_in hr (je_ix hr (je_var (pv 7)) je_int) (je_var (pv 5))) (jw_and (jt_notIn hr (je_ix hr (je_var (pv 7)) je_int) (je_var (pv 3))) (jw_and1 (jt_notIn hr (je_ix hr (je_var (pv 7)) je_int) (je_var (pv 5))))))) (jb_one (js_expr (je_append (je_var (pv 5)) (ja_cons (je_ix hr (je_var (pv 7)) je_int) ja_nil)))) jb_nil)))))
  (jb_one (js_ret (je_callB cr_sortedI calls_sortI (by rfl) T.n_sorted (by decide +kernel) (ja_cons (je_var (pv 5)) ja_nil))))))))
theorem sc_safe_edges : FnScope ["chart", "bad", "own", "safe", "number", "edge"] ["chart", "bad", "own"] (defScope s_safe_edges) := ⟨rfl, rfl, rfl, by decide +kernel, rfl, by decide +kernel, by decide +kernel⟩
theorem j_safe_edges (T : Txt K mg C_Chart C_Lost) {p_safe_states : PT} (c_safe_states : CalP P w K mg base 3 "safe_states" 3 p_safe_states) {f : Addr} {cdv : Value} {A : Around} {outer : List PySem.Env} {s : Shared} {H : Hp} {E : XK} (hr : Room 3 (cxOf (L2.CX P w) P w K mg base ["chart", "bad", "own", "safe", "number", "edge"] "safe_edges" (defScope s_safe_edges) f cdv A outer s H E).A)
    (tk : Takes (cxOf (L2.CX P w) P w K mg base ["chart", "bad", "own", "safe", "number", "edge"] "safe_edges" (defScope s_safe_edges) f cdv A outer s H E) (WK E)) : JB (cxOf (L2.CX P w) P w K mg base ["chart", "bad", "own", "safe", "number", "edge"] "safe_edges" (defScope s_safe_edges) f cdv A outer s H E) (WK E) (defBody s_safe_edges) (r_safe_edges C_Chart p_safe_states) := by
  have nd := (sc_safe_edges).nd
  exact (jb_cons (js_set (i := 3) nd rfl (by first | exact .inl rfl | exact .inr rfl) (je_call c_safe_states (hr.mono (by decide)) (by rfl) tk (ja_cons (je_var (pv 0)) (ja_cons (je_var (pv 1)) (ja_cons (je_var (pv 2)) ja_nil)))))
  (jb_one (js_ret (je_callTy call_tuple_of calls_tuple (by rfl) T.n_tuple (by decide +kernel) (ja_cons (je_lc (own := [("number", 4), ("edge", 5)]) (t := (.tp [(.nm 4), (.nm 5)])) (tt := (wAnd (wTest (wOp (oIn false) (wOp oIx (wVar 5) (wC (.int 0))) (wVar 3))) (wTest (wOp (oIn false) (wOp oIx (wVar 5) (wC (.int 2))) (wVar 3))))) (te := (wVar 4)) rfl nd (ji_enum (by rfl) T.n_enumerate (ja_cons (je_fld T.cl_Chart T.na_Chart_edges (je_var (pv 0))) ja_nil)) (blkOk_by (by rfl)) (by rfl) (fun _ _ _ _ _ => (jg_tp rfl (jgs_cons (jg_nm (i := 4) nd rfl (by first | exact .inl rfl | exact .inr rfl)) (jgs_cons (jg_nm (i := 5) nd rfl (by first | exact .inl rfl | exact .inr rfl)) jgs_nil)))) (fun _ _ _ _ _ => (jts_one (PW.pt (jw_and (jt_in hr (je_ix hr (je_var (pv 5)) je_int) (je_var (pv 3))) (jw_and1 (jt_in hr (je_ix hr (je_var (pv 5)) je_int) (je_var (pv 3)))))))) (fun _ _ _ _ _ => (je_var (pv 4)))) ja_nil)))))
theorem sc_safe_chart : FnScope ["chart", "bad", "own"] ["chart", "bad", "own"] (defScope s_safe_chart) := ⟨rfl, rfl, rfl, by decide +kernel, rfl, by decide +kernel, by decide +kernel⟩
theorem j_safe_chart (T : Txt K mg C_Chart C_Lost) {p_part : PT} (c_part : CalP P w K mg base 6 "part" 2 p_part) {p_safe_edges : PT} (c_safe_edges : CalP P w K mg base 4 "safe_edges" 3 p_safe_edges) {f : Addr} {cdv : Value} {A : Around} {outer : List PySem.Env} {s : Shared} {H : Hp} {E : XK} (hr : Room 6 (cxOf (L2.CX P w) P w K mg base ["chart", "bad", "own"] "safe_chart" (defScope s_safe_chart) f cdv A outer s H E).A)
    (tk : Takes (cxOf (L2.CX P w) P w K mg base ["chart", "bad", "own"] "safe_chart" (defScope s_safe_chart) f cdv A outer s H E) (WK E)) : JB (cxOf (L2.CX P w) P w K mg base ["chart", "bad", "own"] "safe_chart" (defScope s_safe_chart) f cdv A outer s H E) (WK E) (defBody s_safe_chart) (r_safe_chart p_part p_safe_edges) := by
  have nd := (sc_safe_chart).nd
  exact (jb_one (js_ret (je_call c_part (hr.mono (by decide)) (by rfl) tk (ja_cons (je_var (pv 0)) (ja_cons (je_call c_safe_edges (hr.mono (by decide)) (by rfl) tk (ja_cons (je_var (pv 0)) (ja_cons (je_var (pv 1)) (ja_cons (je_var (pv 2)) ja_nil)))) ja_nil)))))
theorem sc__law_mixed : FnScope ["number", "k", "value"] ["number", "k"] (defScope s__law_mixed) := ⟨rfl, rfl, rfl, by decide +kernel, rfl, by decide +kernel, by decide +kernel⟩
theorem j__law_mixed (T : Txt K mg C_Chart C_Lost) {f : Addr} {cdv : Value} {A : Around} {outer : List PySem.Env} {s : Shared} {H : Hp} {E : XK} (hr : Room 0 (cxOf (L2.CX P w) P w K mg base ["number", "k", "value"] "_law_mixed" (defScope s__law_mixed) f cdv A outer s H E).A)
    (tk : Takes (cxOf (L2.CX P w) P w K mg base ["number", "k", "value"] "_law_mixed" (defScope s__law_mixed) f cdv A outer s H E) (WK E)) : JB (cxOf (L2.CX P w) P w K mg base ["number", "k", "value"] "_law_mixed" (defScope s__law_mixed) f cdv A outer s H E) (WK E) (defBody s__law_mixed) (r__law_mixed) := by
  have nd := (sc__law_mixed).nd
  exact (jb_cons (js_set (i := 2) nd rfl (by first | exact .inl rfl | exact .inr rfl) (je_add (je_add (je_mul (je_callTy call_int1 calls_int (by rfl) T.n_int (by decide +kernel) (ja_cons (je_var (pv 0)) ja_nil)) je_int) (je_mul (je_var (pv 1)) je_int)) je_int))
  (jb_cons (js_set (i := 2) nd rfl (by first | exact .inl rfl | exact .inr rfl) (je_add (je_add (je_mul (je_callTy call_int1 calls_int (by rfl) T.n_int (by decide +kernel) (ja_cons (je_mod (je_callTy call_int1 calls_int (by rfl) T.n_int (by decide +kernel) (ja_cons (je_var (pv 2)) ja_nil)) je_int) ja_nil)) je_int) (je_mul (je_var (pv 1)) je_int)) je_int))
  (jb_one (js_ret (je_mod (je_callTy call_int1 calls_int (by rfl) T.n_int (by decide +kernel) (ja_cons (je_var (pv 2)) ja_nil)) je_int)))))
theorem sc__law_take : FnScope ["tape", "limit", "cell"] ["tape", "limit"] (defScope s__law_take) := ⟨rfl, rfl, rfl, by decide +kernel, rfl, by decide +kernel, by decide +kernel⟩
theorem j__law_take (T : Txt K mg C_Chart C_Lost) {p__law_mixed : PT} (c__law_mixed : CalP P w K mg base 1 "_law_mixed" 2 p__law_mixed) {f : Addr} {cdv : Value} {A : Around} {outer : List PySem.Env} {s : Shared} {H : Hp} {E : XK} (hr : Room 1 (cxOf (L2.CX P w) P w K mg base ["tape", "limit", "cell"] "_law_take" (defScope s__law_take) f cdv A outer s H E).A)
    (tk : Takes (cxOf (L2.CX P w) P w K mg base ["tape", "limit", "cell"] "_law_take" (defScope s__law_take) f cdv A outer s H E) (WK E)) : JB (cxOf (L2.CX P w) P w K mg base ["tape", "limit", "cell"] "_law_take" (defScope s__law_take) f cdv A outer s H E) (WK E) (defBody s__law_take) (r__law_take p__law_mixed) := by
  have nd := (sc__law_take).nd
  exact (jb_cons (js_put hr (je_var (pv 0)) je_int (je_add (je_ix hr (je_var (pv 0)) je_int) je_int))
  (jb_cons (js_if (PW.pt (jw_and (jt_eq hr (je_ix hr (je_var (pv 0)) je_int) je_int) (jw_and1 (jt_lt (je_ix hr (je_var (pv 0)) je_int) (je_callB call_len_seq calls_len (by rfl) T.n_len (by decide +kernel) (ja_cons (je_ix hr (je_var (pv 0)) je_int) ja_nil)))))) (jb_cons (js_set (i := 2) nd rfl (by first | exact .inl rfl | exact .inr rfl) (je_callB call_abs calls_abs (by rfl) T.n_abs (by decide +kernel) (ja_cons (je_ix hr (je_ix hr (je_var (pv 0)) je_int) (je_ix hr (je_var (pv 0)) je_int)) ja_nil)))
  (jb_cons (js_put hr (je_var (pv 0)) je_int (je_add (je_ix hr (je_var (pv 0)) je_int) je_int))
  (jb_cons (js_if (jt_lt (je_var (pv 2)) (je_pow je_int je_int)) (jb_cons (js_put hr (je_var (pv 0)) je_int (je_call c__law_mixed (hr.mono (by decide)) (by rfl) tk (ja_cons (je_add (je_ix hr (je_var (pv 0)) je_int) (je_var (pv 2))) (ja_cons (je_ix hr (je_var (pv 0)) je_int) ja_nil))))
  (jb_one (js_ret (je_mod (je_callTy call_int1 calls_int (by rfl) T.n_int (by decide +kernel) (ja_cons (je_fdiv (je_ix hr (je_var (pv 0)) je_int) je_int) ja_nil)) (je_var (pv 1)))))) jb_nil)
  (jb_one (js_put hr (je_var (pv 0)) je_int (je_var (pv 2))))))) jb_nil)
  (jb_cons (js_if (jt_gt (je_ix hr (je_var (pv 0)) je_int) je_int) (jb_cons (js_set (i := 2) nd rfl (by first | exact .inl rfl | exact .inr rfl) (je_ix hr (je_var (pv 0)) je_int))
  (jb_cons (js_put hr (je_var (pv 0)) je_int (je_fdiv (je_var (pv 2)) (je_var (pv 1))))
  (jb_one (js_ret (je_mod (je_callTy call_int1 calls_int (by rfl) T.n_int (by decide +kernel) (ja_cons (je_var (pv 2)) ja_nil)) (je_var (pv 1))))))) jb_nil)
  (jb_cons (js_put hr (je_var (pv 0)) je_int (je_call c__law_mixed (hr.mono (by decide)) (by rfl) tk (ja_cons (je_ix hr (je_var (pv 0)) je_int) (ja_cons (je_ix hr (je_var (pv 0)) je_int) ja_nil))))
  (jb_one (js_ret (je_mod (je_callTy call_int1 calls_int (by rfl) T.n_int (by decide +kernel) (ja_cons (je_fdiv (je_ix hr (je_var (pv 0)) je_int) je_int) ja_nil)) (je_var (pv 1)))))))))
theorem sc__law_place : FnScope ["used", "source", "action", "states", "actions", "k", "j", "pair"] ["used", "source", "action", "states", "actions"] (defScope s__law_place) := ⟨rfl, rfl, rfl, by decide +kernel, rfl, by decide +kernel, by decide +kernel⟩
theorem j__law_place (T : Txt K mg C_Chart C_Lost) {f : Addr} {cdv : Value} {A : Around} {outer : List PySem.Env} {s : Shared} {H : Hp} {E : XK} (hr : Room 0 (cxOf (L2.CX P w) P w K mg base ["used", "source", "action", "states", "actions", "k", "j", "pair"] "_law_place" (defScope s__law_place) f cdv A outer s H E).A)
    (tk : Takes (cxOf (L2.CX P w) P w K mg base ["used", "source", "action", "states", "actions", "k", "j", "pair"] "_law_place" (defScope s__law_place) f cdv A outer s H E) (WK E)) : JB (cxOf (L2.CX P w) P w K mg base ["used", "source", "action", "states", "actions", "k", "j", "pair"] "_law_place" (defScope s__law_place) f cdv A outer s H E) (WK E) (defBody s__law_place) (r__law_place) := by
  have nd := (sc__law_place).nd
  exact (jb_cons (js_for (passes_of rfl) rfl (ji_range1 (by rfl) T.n_range (ja_cons (je_var (pv 3)) ja_nil)) (jg_nm (i := 5) nd rfl (by first | exact .inl rfl | exact .inr rfl)) (jb_one (js_for (passes_of rfl) rfl (ji_range1 (by rfl) T.n_range (ja_cons (je_var (pv 4)) ja_nil)) (jg_nm (i := 6) nd rfl (by first | exact .inl rfl | exact .inr rfl)) (jb_cons (js_set (i := 7) nd rfl (by first | exact .inl rfl | exact .inr rfl) (je_tup (ja_cons (je_mod (je_callTy call_int1 calls_int (by rfl) T.n_int (by decide +kernel) (ja_cons (je_add (je_var (pv 1)) (je_var (pv 5))) ja_nil)) (je_var (pv 3))) (ja_cons (je_mod (je_callTy call_int1 calls_int (by rfl) T.n_int (by decide +kernel) (ja_cons (je_add (je_var (pv 2)) (je_var (pv 6))) ja_nil)) (je_var (pv 4))) ja_nil))))
  (jb_one (js_if (jt_notIn hr (je_var (pv 7)) (je_var (pv 0))) (jb_one (js_ret (je_var (pv 7)))) jb_nil))))))
  (jb_one (js_ret je_non)))
theorem sc__law_edges : FnScope ["tape", "actions", "states", "used", "target", "first", "second", "share", "source", "action", "pair"] ["tape", "actions", "states"] (defScope s__law_edges) := ⟨rfl, rfl, rfl, by decide +kernel, rfl, by decide +kernel, by decide +kernel⟩
theorem j__law_edges (T : Txt K mg C_Chart C_Lost) {p__law_take : PT} (c__law_take : CalP P w K mg base 2 "_law_take" 2 p__law_take) {p__law_place : PT} (c__law_place : CalP P w K mg base 1 "_law_place" 5 p__law_place) {f : Addr} {cdv : Value} {A : Around} {outer : List PySem.Env} {s : Shared} {H : Hp} {E : XK} (hr : Room 2 (cxOf (L2.CX P w) P w K mg base ["tape", "actions", "states", "used", "target", "first", "second", "share", "source", "action", "pair"] "_law_edges" (defScope s__law_edges) f cdv A outer s H E).A)
    (tk : Takes (cxOf (L2.CX P w) P w K mg base ["tape", "actions", "states", "used", "target", "first", "second", "share", "source", "action", "pair"] "_law_edges" (defScope s__law_edges) f cdv A outer s H E) (WK E)) : JB (cxOf (L2.CX P w) P w K mg base ["tape", "actions", "states", "used", "target", "first", "second", "share", "source", "action", "pair"] "_law_edges" (defScope s__law_edges) f cdv A outer s H E) (WK E) (defBody s__law_edges) (r__law_edges p__law_take p__law_place) := by
  have nd := (sc__law_edges).nd
  exact (jb_cons (js_set (i := 3) nd rfl (by first | exact .inl rfl | exact .inr rfl) je_newT)
  (jb_cons (js_for (passes_of rfl) rfl (ji_range2 (by rfl) T.n_range (ja_cons je_int (ja_cons (je_var (pv 2)) ja_nil))) (jg_nm (i := 4) nd rfl (by first | exact .inl rfl | exact .inr rfl)) (jb_cons (js_set (i := 5) nd rfl (by first | exact .inl rfl | exact .inr rfl) (je_call c__law_take (hr.mono (by decide)) (by rfl) tk (ja_cons (je_var (pv 0)) (ja_cons (je_var (pv 4)) ja_nil))))
  (jb_cons (js_set (i := 6) nd rfl (by first | exact .inl rfl | exact .inr rfl) (je_call c__law_take (hr.mono (by decide)) (by rfl) tk (ja_cons (je_var (pv 0)) (ja_cons (je_var (pv 1)) ja_nil))))
  (jb_one (js_put hr (je_var (pv 3)) (je_call c__law_place (hr.mono (by decide)) (by rfl) tk (ja_cons (je_var (pv 3)) (ja_cons (je_var (pv 5)) (ja_cons (je_var (pv 6)) (ja_cons (je_var (pv 4)) (ja_cons (je_var (pv 1)) ja_nil)))))) (je_var (pv 4)))))))
  (jb_cons (js_set (i := 7) nd rfl (by first | exact .inl rfl | exact .inr rfl) (je_add je_int (je_call c__law_take (hr.mono (by decide)) (by rfl) tk (ja_cons (je_var (pv 0)) (ja_cons je_int ja_nil)))))
  (jb_cons (js_for (passes_of rfl) rfl (ji_range1 (by rfl) T.n_range (ja_cons (je_var (pv 2)) ja_nil)) (jg_nm (i := 8) nd rfl (by first | exact .inl rfl | exact .inr rfl)) (jb_one (js_for (passes_of rfl) rfl (ji_range1 (by rfl) T.n_range (ja_cons (je_var (pv 1)) ja_nil)) (jg_nm (i := 9) nd rfl (by first | exact .inl rfl | exact .inr rfl)) (jb_one (js_if (PW.pt (jw_and (jt_notIn hr (je_tup (ja_cons (je_var (pv 8)) (ja_cons (je_var (pv 9)) ja_nil))) (je_var (pv 3))) (jw_and1 (jt_eq hr (je_call c__law_take (hr.mono (by decide)) (by rfl) tk (ja_cons (je_var (pv 0)) (ja_cons (je_var (pv 7)) ja_nil))) je_int)))) (jb_one (js_put hr (je_var (pv 3)) (je_tup (ja_cons (je_var (pv 8)) (ja_cons (je_var (pv 9)) ja_nil))) (je_call c__law_take (hr.mono (by decide)) (by rfl) tk (ja_cons (je_var (pv 0)) (ja_cons (je_var (pv 2)) ja_nil))))) jb_nil)))))
  (jb_one (js_ret (je_lc (own := [("pair", 10)]) (t := (.nm 10)) (tt := wYes) (te := (wTup (waCons (wOp oIx (wVar 10) (wC (.int 0))) (waCons (wOp oIx (wVar 10) (wC (.int 1))) (waCons (wOp oIx (wVar 3) (wVar 10)) waNil))))) rfl nd (ji_seq (je_callB (cr_sortT (d := 2) (B := 16) (by decide)) calls_sortT (by rfl) T.n_sorted (by decide +kernel) (ja_cons (je_listKeys rfl (by rfl) T.n_list (je_var (pv 3))) ja_nil))) (blkOk_by (by rfl)) (by rfl) (fun _ _ _ _ _ => (jg_nm (i := 10) nd rfl (by first | exact .inl rfl | exact .inr rfl))) (fun _ _ _ _ _ => jts_nil) (fun _ _ _ _ _ => (je_tup (ja_cons (je_ix hr (je_var (pv 10)) je_int) (ja_cons (je_ix hr (je_var (pv 10)) je_int) (ja_cons (je_ix hr (je_var (pv 3)) (je_var (pv 10))) ja_nil))))))))))))
theorem sc__law_chart : FnScope ["tape", "actions", "states"] ["tape"] (defScope s__law_chart) := ⟨rfl, rfl, rfl, by decide +kernel, rfl, by decide +kernel, by decide +kernel⟩
theorem j__law_chart (T : Txt K mg C_Chart C_Lost) {p__law_take : PT} (c__law_take : CalP P w K mg base 2 "_law_take" 2 p__law_take) {p__law_edges : PT} (c__law_edges : CalP P w K mg base 3 "_law_edges" 3 p__law_edges) {f : Addr} {cdv : Value} {A : Around} {outer : List PySem.Env} {s : Shared} {H : Hp} {E : XK} (hr : Room 3 (cxOf (L2.CX P w) P w K mg base ["tape", "actions", "states"] "_law_chart" (defScope s__law_chart) f cdv A outer s H E).A)
    (tk : Takes (cxOf (L2.CX P w) P w K mg base ["tape", "actions", "states"] "_law_chart" (defScope s__law_chart) f cdv A outer s H E) (WK E)) : JB (cxOf (L2.CX P w) P w K mg base ["tape", "actions", "states"] "_law_chart" (defScope s__law_chart) f cdv A outer s H E) (WK E) (defBody s__law_chart) (r__law_chart p__law_take p__law_edges) := by
  have nd := (sc__law_chart).nd
  exact (jb_cons (js_set (i := 1) nd rfl (by first | exact .inl rfl | exact .inr rfl) (je_call c__law_take (hr.mono (by decide)) (by rfl) tk (ja_cons (je_var (pv 0)) (ja_cons je_int ja_nil))))
  (jb_cons (js_set (i := 2) nd rfl (by first | exact .inl rfl | exact .inr rfl) (je_add je_int (je_call c__law_take (hr.mono (by decide)) (by rfl) tk (ja_cons (je_var (pv 0)) (ja_cons je_int ja_nil)))))
  (jb_cons (js_if (jt_eq hr (je_call c__law_take (hr.mono (by decide)) (by rfl) tk (ja_cons (je_var (pv 0)) (ja_cons je_int ja_nil))) je_int) (jb_cons (js_set (i := 1) nd rfl (by first | exact .inl rfl | exact .inr rfl) (je_add je_int (je_call c__law_take (hr.mono (by decide)) (by rfl) tk (ja_cons (je_var (pv 0)) (ja_cons je_int ja_nil)))))
  (jb_one (js_set (i := 2) nd rfl (by first | exact .inl rfl | exact .inr rfl) (je_add je_int (je_call c__law_take (hr.mono (by decide)) (by rfl) tk (ja_cons (je_var (pv 0)) (ja_cons je_int ja_nil))))))) jb_nil)
  (jb_cons (js_if (jt_eq hr (je_var (pv 1)) je_int) (jb_one (js_set (i := 2) nd rfl (by first | exact .inl rfl | exact .inr rfl) je_int)) jb_nil)
  (jb_one (js_ret (je_lst (ja_cons (je_var (pv 1)) (ja_cons (je_var (pv 2)) (ja_cons (je_call c__law_edges (hr.mono (by decide)) (by rfl) tk (ja_cons (je_var (pv 0)) (ja_cons (je_var (pv 1)) (ja_cons (je_var (pv 2)) ja_nil)))) ja_nil))))))))))
theorem sc__law_same : FnScope ["told", "due", "k"] ["told", "due"] (defScope s__law_same) := ⟨rfl, rfl, rfl, by decide +kernel, rfl, by decide +kernel, by decide +kernel⟩
theorem j__law_same (T : Txt K mg C_Chart C_Lost) {k : Nat} {p__law_same : PT} (c__law_same : CalP P w K mg base k "_law_same" 2 p__law_same) {f : Addr} {cdv : Value} {A : Around} {outer : List PySem.Env} {s : Shared} {H : Hp} {E : XK} (hr : Room k (cxOf (L2.CX P w) P w K mg base ["told", "due", "k"] "_law_same" (defScope s__law_same) f cdv A outer s H E).A)
    (tk : Takes (cxOf (L2.CX P w) P w K mg base ["told", "due", "k"] "_law_same" (defScope s__law_same) f cdv A outer s H E) (WK E)) : JB (cxOf (L2.CX P w) P w K mg base ["told", "due", "k"] "_law_same" (defScope s__law_same) f cdv A outer s H E) (WK E) (defBody s__law_same) (r__law_same p__law_same) := by
  have nd := (sc__law_same).nd
  exact (jb_cons (js_if (jt_isN (je_var (pv 1)) je_non) (jb_one (js_ret (je_isN (je_var (pv 0)) je_non))) jb_nil)
  (jb_cons (js_if (jt_val (je_callB call_isi calls_isi (by rfl) T.n_isinstance (by decide +kernel) (ja_cons (je_var (pv 1)) (ja_cons (je_tyn (by rfl) T.n_bool (by decide +kernel)) ja_nil)))) (jb_one (js_ret (je_and (je_callB call_isi calls_isi (by rfl) T.n_isinstance (by decide +kernel) (ja_cons (je_var (pv 0)) (ja_cons (je_tyn (by rfl) T.n_bool (by decide +kernel)) ja_nil))) (je_one (je_eq hr (je_var (pv 0)) (je_var (pv 1))))))) jb_nil)
  (jb_cons (js_if (jt_val (je_callB call_isi calls_isi (by rfl) T.n_isinstance (by decide +kernel) (ja_cons (je_var (pv 1)) (ja_cons (je_tyn (by rfl) T.n_int (by decide +kernel)) ja_nil)))) (jb_one (js_ret (je_and (je_callB call_isi calls_isi (by rfl) T.n_isinstance (by decide +kernel) (ja_cons (je_var (pv 0)) (ja_cons (je_tyn (by rfl) T.n_int (by decide +kernel)) ja_nil))) (je_and (je_not (je_callB call_isi calls_isi (by rfl) T.n_isinstance (by decide +kernel) (ja_cons (je_var (pv 0)) (ja_cons (je_tyn (by rfl) T.n_bool (by decide +kernel)) ja_nil)))) (je_one (je_eq hr (je_var (pv 0)) (je_var (pv 1)))))))) jb_nil)
  (jb_cons (js_if (jt_val (je_callB call_isi calls_isi (by rfl) T.n_isinstance (by decide +kernel) (ja_cons (je_var (pv 1)) (ja_cons (je_tyn (by rfl) T.n_str (by decide +kernel)) ja_nil)))) (jb_one (js_ret (je_and (je_callB call_isi calls_isi (by rfl) T.n_isinstance (by decide +kernel) (ja_cons (je_var (pv 0)) (ja_cons (je_tyn (by rfl) T.n_str (by decide +kernel)) ja_nil))) (je_one (je_eq hr (je_var (pv 0)) (je_var (pv 1))))))) jb_nil)
  (jb_cons (js_if (PW.pt (jw_and (jt_val (je_callB call_isi calls_isi (by rfl) T.n_isinstance (by decide +kernel) (ja_cons (je_var (pv 1)) (ja_cons (je_tyn (by rfl) T.n_tuple (by decide +kernel)) ja_nil)))) (jw_and1 (jt_not (jt_val (je_callB call_isi calls_isi (by rfl) T.n_isinstance (by decide +kernel) (ja_cons (je_var (pv 0)) (ja_cons (je_tyn (by rfl) T.n_tuple (by decide +kernel)) ja_nil)))))))) (jb_one (js_ret je_bl)) jb_nil)
  (jb_cons (js_if (PW.pt (jw_and (jt_val (je_callB call_isi calls_isi (by rfl) T.n_isinstance (by decide +kernel) (ja_cons (je_var (pv 1)) (ja_cons (je_tyn (by rfl) T.n_list (by decide +kernel)) ja_nil)))) (jw_and1 (jt_not (jt_val (je_callB call_isi calls_isi (by rfl) T.n_isinstance (by decide +kernel) (ja_cons (je_var (pv 0)) (ja_cons (je_tyn (by rfl) T.n_list (by decide +kernel)) ja_nil)))))))) (jb_one (js_ret je_bl)) jb_nil)
  (jb_cons (js_if (jt_ne hr (je_callB call_len_seq calls_len (by rfl) T.n_len (by decide +kernel) (ja_cons (je_var (pv 0)) ja_nil)) (je_callB call_len_seq calls_len (by rfl) T.n_len (by decide +kernel) (ja_cons (je_var (pv 1)) ja_nil))) (jb_one (js_ret je_bl)) jb_nil)
  (jb_one (js_ret (je_callB (cr_all rfl) calls_all (by rfl) T.n_all (by decide +kernel) (ja_cons (je_lc (own := [("k", 2)]) (t := (.nm 2)) (tt := wYes) (te := (wCallF 2 p__law_same (waCons (wOp oIx (wVar 0) (wVar 2)) (waCons (wOp oIx (wVar 1) (wVar 2)) waNil)))) rfl nd (ji_range1 (by rfl) T.n_range (ja_cons (je_callB call_len_seq calls_len (by rfl) T.n_len (by decide +kernel) (ja_cons (je_var (pv 1)) ja_nil)) ja_nil)) (blkOk_by (by rfl)) (by rfl) (fun _ _ _ _ _ => (jg_nm (i := 2) nd rfl (by first | exact .inl rfl | exact .inr rfl))) (fun _ _ _ _ _ => jts_nil) (fun _ _ _ _ _ => (je_call c__law_same hr (by rfl) takes0 (ja_cons (je_ix hr (je_var (pv 0)) (je_var (pv 2))) (ja_cons (je_ix hr (je_var (pv 1)) (je_var (pv 2))) ja_nil))))) ja_nil)))))))))))
theorem sc__law_bad : FnScope ["tape", "states", "share", "state"] ["tape", "states"] (defScope s__law_bad) := ⟨rfl, rfl, rfl, by decide +kernel, rfl, by decide +kernel, by decide +kernel⟩
theorem j__law_bad (T : Txt K mg C_Chart C_Lost) {p__law_take : PT} (c__law_take : CalP P w K mg base 2 "_law_take" 2 p__law_take) {f : Addr} {cdv : Value} {A : Around} {outer : List PySem.Env} {s : Shared} {H : Hp} {E : XK} (hr : Room 2 (cxOf (L2.CX P w) P w K mg base ["tape", "states", "share", "state"] "_law_bad" (defScope s__law_bad) f cdv A outer s H E).A)
    (tk : Takes (cxOf (L2.CX P w) P w K mg base ["tape", "states", "share", "state"] "_law_bad" (defScope s__law_bad) f cdv A outer s H E) (WK E)) : JB (cxOf (L2.CX P w) P w K mg base ["tape", "states", "share", "state"] "_law_bad" (defScope s__law_bad) f cdv A outer s H E) (WK E) (defBody s__law_bad) (r__law_bad p__law_take) := by
  have nd := (sc__law_bad).nd
  exact (jb_cons (js_if (jt_eq hr (je_call c__law_take (hr.mono (by decide)) (by rfl) tk (ja_cons (je_var (pv 0)) (ja_cons je_int ja_nil))) je_int) (jb_one (js_ret (je_lst ja_nil))) jb_nil)
  (jb_cons (js_set (i := 2) nd rfl (by first | exact .inl rfl | exact .inr rfl) (je_add je_int (je_call c__law_take (hr.mono (by decide)) (by rfl) tk (ja_cons (je_var (pv 0)) (ja_cons je_int ja_nil)))))
  (jb_one (js_ret (je_lc (own := [("state", 3)]) (t := (.nm 3)) (tt := (wTest (wOp (oEq false) (wCallF 2 p__law_take (waCons (wVar 0) (waCons (wOp oAdd (wC (.int 1)) (wVar 2)) waNil))) (wC (.int 1))))) (te := (wVar 3)) rfl nd (ji_range1 (by rfl) T.n_range (ja_cons (je_var (pv 1)) ja_nil)) (blkOk_by (by rfl)) (by rfl) (fun _ _ _ _ _ => (jg_nm (i := 3) nd rfl (by first | exact .inl rfl | exact .inr rfl))) (fun _ _ _ _ _ => (jts_one (jt_eq hr (je_call c__law_take (hr.mono (by decide)) (by rfl) takes0 (ja_cons (je_var (pv 0)) (ja_cons (je_add je_int (je_var (pv 2))) ja_nil))) je_int))) (fun _ _ _ _ _ => (je_var (pv 3))))))))
theorem sc__law_own : FnScope ["tape", "actions", "kind", "action"] ["tape", "actions"] (defScope s__law_own) := ⟨rfl, rfl, rfl, by decide +kernel, rfl, by decide +kernel, by decide +kernel⟩
theorem j__law_own (T : Txt K mg C_Chart C_Lost) {p__law_take : PT} (c__law_take : CalP P w K mg base 2 "_law_take" 2 p__law_take) {f : Addr} {cdv : Value} {A : Around} {outer : List PySem.Env} {s : Shared} {H : Hp} {E : XK} (hr : Room 2 (cxOf (L2.CX P w) P w K mg base ["tape", "actions", "kind", "action"] "_law_own" (defScope s__law_own) f cdv A outer s H E).A)
    (tk : Takes (cxOf (L2.CX P w) P w K mg base ["tape", "actions", "kind", "action"] "_law_own" (defScope s__law_own) f cdv A outer s H E) (WK E)) : JB (cxOf (L2.CX P w) P w K mg base ["tape", "actions", "kind", "action"] "_law_own" (defScope s__law_own) f cdv A outer s H E) (WK E) (defBody s__law_own) (r__law_own p__law_take) := by
  have nd := (sc__law_own).nd
  exact (jb_cons (js_set (i := 2) nd rfl (by first | exact .inl rfl | exact .inr rfl) (je_call c__law_take (hr.mono (by decide)) (by rfl) tk (ja_cons (je_var (pv 0)) (ja_cons je_int ja_nil))))
  (jb_one (js_ret (je_callTy call_tuple_of calls_tuple (by rfl) T.n_tuple (by decide +kernel) (ja_cons (je_lc (own := [("action", 3)]) (t := (.nm 3)) (tt := (wOr (wTest (wOp (oEq false) (wVar 2) (wC (.int 0)))) (wTest (wOp oGt (wCallF 2 p__law_take (waCons (wVar 0) (waCons (wC (.int 3)) waNil))) (wC (.int 0)))))) (te := (wVar 3)) rfl nd (ji_range1 (by rfl) T.n_range (ja_cons (je_var (pv 1)) ja_nil)) (blkOk_by (by rfl)) (by rfl) (fun _ _ _ _ _ => (jg_nm (i := 3) nd rfl (by first | exact .inl rfl | exact .inr rfl))) (fun _ _ _ _ _ => (jts_one (PW.pt (jw_or (jt_eq hr (je_var (pv 2)) je_int) (jw_or1 (jt_gt (je_call c__law_take (hr.mono (by decide)) (by rfl) takes0 (ja_cons (je_var (pv 0)) (ja_cons je_int ja_nil))) je_int)))))) (fun _ _ _ _ _ => (je_var (pv 3)))) ja_nil)))))
theorem sc__law_lost : FnScope ["chart", "bad", "own", "lost", "k", "edge"] ["chart", "bad", "own"] (defScope s__law_lost) := ⟨rfl, rfl, rfl, by decide +kernel, rfl, by decide +kernel, by decide +kernel⟩
theorem j__law_lost (T : Txt K mg C_Chart C_Lost) {f : Addr} {cdv : Value} {A : Around} {outer : List PySem.Env} {s : Shared} {H : Hp} {E : XK} (hr : Room 0 (cxOf (L2.CX P w) P w K mg base ["chart", "bad", "own", "lost", "k", "edge"] "_law_lost" (defScope s__law_lost) f cdv A outer s H E).A)
    (tk : Takes (cxOf (L2.CX P w) P w K mg base ["chart", "bad", "own", "lost", "k", "edge"] "_law_lost" (defScope s__law_lost) f cdv A outer s H E) (WK E)) : JB (cxOf (L2.CX P w) P w K mg base ["chart", "bad", "own", "lost", "k", "edge"] "_law_lost" (defScope s__law_lost) f cdv A outer s H E) (WK E) (defBody s__law_lost) (r__law_lost) := by
  have nd := (sc__law_lost).nd
  exact (jb_cons (js_set (i := 3) nd rfl (by first | exact .inl rfl | exact .inr rfl) (je_callTy call_list_of calls_list (by rfl) T.n_list (by decide +kernel) (ja_cons (je_var (pv 1)) ja_nil)))
  (jb_cons (js_for (passes_of rfl) rfl (ji_range1 (by rfl) T.n_range (ja_cons (je_ix hr (je_var (pv 0)) je_int) ja_nil)) (jg_nm (i := 4) nd rfl (by first | exact .inl rfl | exact .inr rfl)) (jb_one (js_for (passes_of rfl) rfl (ji_seq (je_ix hr (je_var (pv 0)) je_int)) (jg_nm (i := 5) nd rfl (by first | exact .inl rfl | exact .inr rfl)) (jb_one (js_if (PW.pt (jw_and (jt_notIn hr (je_ix hr (je_var (pv 5)) je_int) (je_var (pv 2))) (jw_and (jt_in hr (je_ix hr (je_var (pv 5)) je_int) (je_var (pv 3))) (jw_and1 (jt_notIn hr (je_ix hr (je_var (pv 5)) je_int) (je_var (pv 3))))))) (jb_one (js_expr (je_append (je_var (pv 3)) (ja_cons (je_ix hr (je_var (pv 5)) je_int) ja_nil)))) jb_nil)))))
  (jb_one (js_ret (je_callB cr_sortedI calls_sortI (by rfl) T.n_sorted (by decide +kernel) (ja_cons (je_var (pv 3)) ja_nil))))))
theorem sc__law_lost_word : FnScope ["chart", "bad", "own", "order", "met", "at", "edge"] ["chart", "bad", "own"] (defScope s__law_lost_word) := ⟨rfl, rfl, rfl, by decide +kernel, rfl, by decide +kernel, by decide +kernel⟩
theorem j__law_lost_word (T : Txt K mg C_Chart C_Lost) {f : Addr} {cdv : Value} {A : Around} {outer : List PySem.Env} {s : Shared} {H : Hp} {E : XK} (hr : Room 0 (cxOf (L2.CX P w) P w K mg base ["chart", "bad", "own", "order", "met", "at", "edge"] "_law_lost_word" (defScope s__law_lost_word) f cdv A outer s H E).A)
    (tk : Takes (cxOf (L2.CX P w) P w K mg base ["chart", "bad", "own", "order", "met", "at", "edge"] "_law_lost_word" (defScope s__law_lost_word) f cdv A outer s H E) (WK E)) : JB (cxOf (L2.CX P w) P w K mg base ["chart", "bad", "own", "order", "met", "at", "edge"] "_law_lost_word" (defScope s__law_lost_word) f cdv A outer s H E) (WK E) (defBody s__law_lost_word) (r__law_lost_word) := by
  have nd := (sc__law_lost_word).nd
  exact (jb_cons (js_set (i := 3) nd rfl (by first | exact .inl rfl | exact .inr rfl) (je_lst (ja_cons (je_tup (ja_cons je_int (ja_cons (je_tup ja_nil) ja_nil))) ja_nil)))
  (jb_cons (js_set (i := 4) nd rfl (by first | exact .inl rfl | exact .inr rfl) (je_lst (ja_cons je_int ja_nil)))
  (jb_cons (js_for (passes_of rfl) rfl (ji_range1 (by rfl) T.n_range (ja_cons (je_ix hr (je_var (pv 0)) je_int) ja_nil)) (jg_nm (i := 5) nd rfl (by first | exact .inl rfl | exact .inr rfl)) (jb_one (js_if (jt_lt (je_var (pv 5)) (je_callB call_len_seq calls_len (by rfl) T.n_len (by decide +kernel) (ja_cons (je_var (pv 3)) ja_nil))) (jb_cons (js_if (jt_in hr (je_ix hr (je_ix hr (je_var (pv 3)) (je_var (pv 5))) je_int) (je_var (pv 1))) (jb_one (js_ret (je_ix hr (je_ix hr (je_var (pv 3)) (je_var (pv 5))) je_int))) jb_nil)
  (jb_one (js_for (passes_of rfl) rfl (ji_seq (je_ix hr (je_var (pv 0)) je_int)) (jg_nm (i := 6) nd rfl (by first | exact .inl rfl | exact .inr rfl)) (jb_one (js_if (PW.pt (jw_and (jt_eq hr (je_ix hr (je_var (pv 6)) je_int) (je_ix hr (je_ix hr (je_var (pv 3)) (je_var (pv 5))) je_int)) (jw_and (jt_notIn hr (je_ix hr (je_var (pv 6)) je_int) (je_var (pv 2))) (jw_and1 (jt_notIn hr (je_ix hr (je_var (pv 6)) je_int) (je_var (pv 4))))))) (jb_cons (js_expr (je_append (je_var (pv 4)) (ja_cons (je_ix hr (je_var (pv 6)) je_int) ja_nil)))
  (jb_one (js_expr (je_append (je_var (pv 3)) (ja_cons (je_tup (ja_cons (je_ix hr (je_var (pv 6)) je_int) (ja_cons (je_add (je_ix hr (je_ix hr (je_var (pv 3)) (je_var (pv 5))) je_int) (je_tup (ja_cons (je_ix hr (je_var (pv 6)) je_int) ja_nil))) ja_nil))) ja_nil))))) jb_nil))))) jb_nil)))
  (jb_one (js_ret je_non)))))
theorem sc__law_safe : FnScope ["chart", "lost", "safe", "at", "edge"] ["chart", "lost"] (defScope s__law_safe) := ⟨rfl, rfl, rfl, by decide +kernel, rfl, by decide +kernel, by decide +kernel⟩
theorem j__law_safe (T : Txt K mg C_Chart C_Lost) {f : Addr} {cdv : Value} {A : Around} {outer : List PySem.Env} {s : Shared} {H : Hp} {E : XK} (hr : Room 0 (cxOf (L2.CX P w) P w K mg base ["chart", "lost", "safe", "at", "edge"] "_law_safe" (defScope s__law_safe) f cdv A outer s H E).A)
    (tk : Takes (cxOf (L2.CX P w) P w K mg base ["chart", "lost", "safe", "at", "edge"] "_law_safe" (defScope s__law_safe) f cdv A outer s H E) (WK E)) : JB (cxOf (L2.CX P w) P w K mg base ["chart", "lost", "safe", "at", "edge"] "_law_safe" (defScope s__law_safe) f cdv A outer s H E) (WK E) (defBody s__law_safe) (r__law_safe) := by
  have nd := (sc__law_safe).nd
  exact (jb_cons (js_set (i := 2) nd rfl (by first | exact .inl rfl | exact .inr rfl) (je_lst (ja_cons je_int ja_nil)))
  (jb_cons (js_for (passes_of rfl) rfl (ji_range1 (by rfl) T.n_range (ja_cons (je_ix hr (je_var (pv 0)) je_int) ja_nil)) (jg_nm (i := 3) nd rfl (by first | exact .inl rfl | exact .inr rfl)) (jb_one (js_if (jt_lt (je_var (pv 3)) (je_callB call_len_seq calls_len (by rfl) T.n_len (by decide +kernel) (ja_cons (je_var (pv 2)) ja_nil))) (jb_one (js_for (passes_of rfl) rfl (ji_seq (je_ix hr (je_var (pv 0)) je_int)) (jg_nm (i := 4) nd rfl (by first | exact .inl rfl | exact .inr rfl)) (jb_one (js_if (PW.pt (jw_and (jt_eq hr (je_ix hr (je_var (pv 4)) je_int) (je_ix hr (je_var (pv 2)) (je_var (pv 3)))) (jw_and (jt_notIn hr (je_ix hr (je_var (pv 4)) je_int) (je_var (pv 1))) (jw_and1 (jt_notIn hr (je_ix hr (je_var (pv 4)) je_int) (je_var (pv 2))))))) (jb_one (js_expr (je_append (je_var (pv 2)) (ja_cons (je_ix hr (je_var (pv 4)) je_int) ja_nil)))) jb_nil)))) jb_nil)))
  (jb_one (js_ret (je_callB cr_sortedI calls_sortI (by rfl) T.n_sorted (by decide +kernel) (ja_cons (je_var (pv 2)) ja_nil))))))
theorem sc__law_between : FnScope ["chart", "states", "k"] ["chart", "states"] (defScope s__law_between) := ⟨rfl, rfl, rfl, by decide +kernel, rfl, by decide +kernel, by decide +kernel⟩
theorem j__law_between (T : Txt K mg C_Chart C_Lost) {f : Addr} {cdv : Value} {A : Around} {outer : List PySem.Env} {s : Shared} {H : Hp} {E : XK} (hr : Room 0 (cxOf (L2.CX P w) P w K mg base ["chart", "states", "k"] "_law_between" (defScope s__law_between) f cdv A outer s H E).A)
    (tk : Takes (cxOf (L2.CX P w) P w K mg base ["chart", "states", "k"] "_law_between" (defScope s__law_between) f cdv A outer s H E) (WK E)) : JB (cxOf (L2.CX P w) P w K mg base ["chart", "states", "k"] "_law_between" (defScope s__law_between) f cdv A outer s H E) (WK E) (defBody s__law_between) (r__law_between) := by
  have nd := (sc__law_between).nd
  exact (jb_one (js_ret (je_lc (own := [("k", 2)]) (t := (.nm 2)) (tt := (wAnd (wTest (wOp (oIn false) (wOp oIx (wOp oIx (wOp oIx (wVar 0) (wC (.int 2))) (wVar 2)) (wC (.int 0))) (wVar 1))) (wTest (wOp (oIn false) (wOp oIx (wOp oIx (wOp oIx (wVar 0) (wC (.int 2))) (wVar 2)) (wC (.int 2))) (wVar 1))))) (te := (wVar 2)) rfl nd (ji_range1 (by rfl) T.n_range (ja_cons (je_callB call_len_seq calls_len (by rfl) T.n_len (by decide +kernel) (ja_cons (je_ix hr (je_var (pv 0)) je_int) ja_nil)) ja_nil)) (blkOk_by (by rfl)) (by rfl) (fun _ _ _ _ _ => (jg_nm (i := 2) nd rfl (by first | exact .inl rfl | exact .inr rfl))) (fun _ _ _ _ _ => (jts_one (PW.pt (jw_and (jt_in hr (je_ix hr (je_ix hr (je_ix hr (je_var (pv 0)) je_int) (je_var (pv 2))) je_int) (je_var (pv 1))) (jw_and1 (jt_in hr (je_ix hr (je_ix hr (je_ix hr (je_var (pv 0)) je_int) (je_var (pv 2))) je_int) (je_var (pv 1)))))))) (fun _ _ _ _ _ => (je_var (pv 2))))))
theorem sc__law_part : FnScope ["chart", "states", "kept", "edges", "k", "edge"] ["chart", "states", "kept"] (defScope s__law_part) := ⟨rfl, rfl, rfl, by decide +kernel, rfl, by decide +kernel, by decide +kernel⟩
theorem j__law_part (T : Txt K mg C_Chart C_Lost) {f : Addr} {cdv : Value} {A : Around} {outer : List PySem.Env} {s : Shared} {H : Hp} {E : XK} (hr : Room 0 (cxOf (L2.CX P w) P w K mg base ["chart", "states", "kept", "edges", "k", "edge"] "_law_part" (defScope s__law_part) f cdv A outer s H E).A)
    (tk : Takes (cxOf (L2.CX P w) P w K mg base ["chart", "states", "kept", "edges", "k", "edge"] "_law_part" (defScope s__law_part) f cdv A outer s H E) (WK E)) : JB (cxOf (L2.CX P w) P w K mg base ["chart", "states", "kept", "edges", "k", "edge"] "_law_part" (defScope s__law_part) f cdv A outer s H E) (WK E) (defBody s__law_part) (r__law_part) := by
  have nd := (sc__law_part).nd
  exact (jb_cons (js_setLc (i := 3) (own := [("k", 4)]) (t := (.nm 4)) (tt := wYes) (te := (wOp oIx (wOp oIx (wVar 0) (wC (.int 2))) (wVar 4))) rfl nd rfl (by rfl) (by rfl) (ji_seq (je_var (pv 2))) (blkOk_by (by rfl)) (by rfl) (fun _ _ _ _ _ => (jg_nm (i := 4) nd rfl (by first | exact .inl rfl | exact .inr rfl))) (fun _ _ _ _ _ => jts_nil) (fun _ _ _ _ _ => (je_ix hr (je_ix hr (je_var (pv 0)) je_int) (je_var (pv 4)))))
  (jb_one (js_ret (je_lst (ja_cons (je_ix hr (je_var (pv 0)) je_int) (ja_cons (je_callB call_len_seq calls_len (by rfl) T.n_len (by decide +kernel) (ja_cons (je_var (pv 1)) ja_nil)) (ja_cons (je_lc (own := [("edge", 5)]) (t := (.nm 5)) (tt := wYes) (te := (wTup (waCons (wMeth "list" mIndex (wVar 1) (waCons (wOp oIx (wVar 5) (wC (.int 0))) waNil)) (waCons (wOp oIx (wVar 5) (wC (.int 1))) (waCons (wMeth "list" mIndex (wVar 1) (waCons (wOp oIx (wVar 5) (wC (.int 2))) waNil)) waNil))))) rfl nd (ji_seq (je_var (pv 3))) (blkOk_by (by rfl)) (by rfl) (fun _ _ _ _ _ => (jg_nm (i := 5) nd rfl (by first | exact .inl rfl | exact .inr rfl))) (fun _ _ _ _ _ => jts_nil) (fun _ _ _ _ _ => (je_tup (ja_cons (je_index (je_var (pv 1)) (ja_cons (je_ix hr (je_var (pv 5)) je_int) ja_nil)) (ja_cons (je_ix hr (je_var (pv 5)) je_int) (ja_cons (je_index (je_var (pv 1)) (ja_cons (je_ix hr (je_var (pv 5)) je_int) ja_nil)) ja_nil)))))) ja_nil)))))))
theorem sc__law_same_chart : FnScope ["told", "chart"] ["told", "chart"] (defScope s__law_same_chart) := ⟨rfl, rfl, rfl, by decide +kernel, rfl, by decide +kernel, by decide +kernel⟩
theorem j__law_same_chart (T : Txt K mg C_Chart C_Lost) {p__law_same : PT} (c__law_same : CalP P w K mg base 4 "_law_same" 2 p__law_same) {f : Addr} {cdv : Value} {A : Around} {outer : List PySem.Env} {s : Shared} {H : Hp} {E : XK} (hr : Room 4 (cxOf (L2.CX P w) P w K mg base ["told", "chart"] "_law_same_chart" (defScope s__law_same_chart) f cdv A outer s H E).A)
    (tk : Takes (cxOf (L2.CX P w) P w K mg base ["told", "chart"] "_law_same_chart" (defScope s__law_same_chart) f cdv A outer s H E) (WK E)) : JB (cxOf (L2.CX P w) P w K mg base ["told", "chart"] "_law_same_chart" (defScope s__law_same_chart) f cdv A outer s H E) (WK E) (defBody s__law_same_chart) (r__law_same_chart C_Chart p__law_same) := by
  have nd := (sc__law_same_chart).nd
  exact (jb_cons (js_if (PW.pt (jw_or (jt_not (jt_val (je_call c__law_same (hr.mono (by decide)) (by rfl) tk (ja_cons (je_fld T.cl_Chart T.na_Chart_actions (je_var (pv 0))) (ja_cons (je_ix hr (je_var (pv 1)) je_int) ja_nil))))) (jw_or1 (jt_not (jt_val (je_call c__law_same (hr.mono (by decide)) (by rfl) tk (ja_cons (je_fld T.cl_Chart T.na_Chart_states (je_var (pv 0))) (ja_cons (je_ix hr (je_var (pv 1)) je_int) ja_nil)))))))) (jb_one (js_ret je_bl)) jb_nil)
  (jb_one (js_ret (je_call c__law_same (hr.mono (by decide)) (by rfl) tk (ja_cons (je_fld T.cl_Chart T.na_Chart_edges (je_var (pv 0))) (ja_cons (je_callTy call_tuple_of calls_tuple (by rfl) T.n_tuple (by decide +kernel) (ja_cons (je_ix hr (je_var (pv 1)) je_int) ja_nil)) ja_nil))))))
theorem sc__law_refused : FnScope ["plain", "bad", "own", "which", "error"] ["plain", "bad", "own", "which"] (defScope s__law_refused) := ⟨rfl, rfl, rfl, by decide +kernel, rfl, by decide +kernel, by decide +kernel⟩
theorem j__law_refused (T : Txt K mg C_Chart C_Lost) {p_safe_edges : PT} (c_safe_edges : CalP P w K mg base 4 "safe_edges" 3 p_safe_edges) {p_safe_chart : PT} (c_safe_chart : CalP P w K mg base 7 "safe_chart" 3 p_safe_chart) {f : Addr} {cdv : Value} {A : Around} {outer : List PySem.Env} {s : Shared} {H : Hp} {E : XK} (hr : Room 7 (cxOf (L2.CX P w) P w K mg base ["plain", "bad", "own", "which", "error"] "_law_refused" (defScope s__law_refused) f cdv A outer s H E).A)
    (tk : Takes (cxOf (L2.CX P w) P w K mg base ["plain", "bad", "own", "which", "error"] "_law_refused" (defScope s__law_refused) f cdv A outer s H E) (WK E)) : JB (cxOf (L2.CX P w) P w K mg base ["plain", "bad", "own", "which", "error"] "_law_refused" (defScope s__law_refused) f cdv A outer s H E) (WK E) (defBody s__law_refused) (r__law_refused C_Lost p_safe_edges p_safe_chart) := by
  have nd := (sc__law_refused).nd
  exact (jb_cons (js_tryRet (i := 4) T.xf_Lost rfl rfl nd rfl (by rfl) ⟨by rfl, by decide, .inl T.mg_Lost⟩ tk (fun W pn xe tk1 hp1 => (jb_one (js_if (jt_eq hr (je_var (pv 3)) je_int) (jb_one (js_expr (je_call c_safe_edges (hr.mono (by decide)) (by rfl) tk1 (ja_cons (je_var (pv 0)) (ja_cons (je_var (pv 1)) (ja_cons (je_var (pv 2)) ja_nil)))))) (jb_one (js_expr (je_call c_safe_chart (hr.mono (by decide)) (by rfl) tk1 (ja_cons (je_var (pv 0)) (ja_cons (je_var (pv 1)) (ja_cons (je_var (pv 2)) ja_nil))))))))) (fun a pn => pv 4))
  (jb_one (js_ret je_non)))
theorem sc__law_closed : FnScope ["tape", "chart", "own", "lost", "share", "seen", "kept", "at", "k", "edge", "free"] ["tape", "chart", "own", "lost", "share"] (defScope s__law_closed) := ⟨rfl, rfl, rfl, by decide +kernel, rfl, by decide +kernel, by decide +kernel⟩
theorem j__law_closed (T : Txt K mg C_Chart C_Lost) {p__law_take : PT} (c__law_take : CalP P w K mg base 2 "_law_take" 2 p__law_take) {f : Addr} {cdv : Value} {A : Around} {outer : List PySem.Env} {s : Shared} {H : Hp} {E : XK} (hr : Room 2 (cxOf (L2.CX P w) P w K mg base ["tape", "chart", "own", "lost", "share", "seen", "kept", "at", "k", "edge", "free"] "_law_closed" (defScope s__law_closed) f cdv A outer s H E).A)
    (tk : Takes (cxOf (L2.CX P w) P w K mg base ["tape", "chart", "own", "lost", "share", "seen", "kept", "at", "k", "edge", "free"] "_law_closed" (defScope s__law_closed) f cdv A outer s H E) (WK E)) : JB (cxOf (L2.CX P w) P w K mg base ["tape", "chart", "own", "lost", "share", "seen", "kept", "at", "k", "edge", "free"] "_law_closed" (defScope s__law_closed) f cdv A outer s H E) (WK E) (defBody s__law_closed) (r__law_closed p__law_take) := by
  have nd := (sc__law_closed).nd
  exact (jb_cons (js_set (i := 5) nd rfl (by first | exact .inl rfl | exact .inr rfl) (je_lst (ja_cons je_int ja_nil)))
  (jb_cons (js_set (i := 6) nd rfl (by first | exact .inl rfl | exact .inr rfl) (je_lst ja_nil))
  (jb_cons (js_for (passes_of rfl) rfl (ji_range1 (by rfl) T.n_range (ja_cons (je_ix hr (je_var (pv 1)) je_int) ja_nil)) (jg_nm (i := 7) nd rfl (by first | exact .inl rfl | exact .inr rfl)) (jb_one (js_if (jt_lt (je_var (pv 7)) (je_callB call_len_seq calls_len (by rfl) T.n_len (by decide +kernel) (ja_cons (je_var (pv 5)) ja_nil))) (jb_one (js_for (passes_of rfl) rfl (ji_range1 (by rfl) T.n_range (ja_cons (je_callB call_len_seq calls_len (by rfl) T.n_len (by decide +kernel) (ja_cons (je_ix hr (je_var (pv 1)) je_int) ja_nil)) ja_nil)) (jg_nm (i := 8) nd rfl (by first | exact .inl rfl | exact .inr rfl)) (jb_cons (js_set (i := 9) nd rfl (by first | exact .inl rfl | exact .inr rfl) (je_ix hr (je_ix hr (je_var (pv 1)) je_int) (je_var (pv 8))))
  (jb_one (js_if (jt_eq hr (je_ix hr (je_var (pv 9)) je_int) (je_ix hr (je_var (pv 5)) (je_var (pv 7)))) (jb_cons (js_set (i := 10) nd rfl (by first | exact .inl rfl | exact .inr rfl) (je_notIn hr (je_ix hr (je_var (pv 9)) je_int) (je_var (pv 3))))
  (jb_cons (js_if (jt_gt (je_var (pv 4)) je_int) (jb_one (js_set (i := 10) nd rfl (by first | exact .inl rfl | exact .inr rfl) (je_eq hr (je_call c__law_take (hr.mono (by decide)) (by rfl) tk (ja_cons (je_var (pv 0)) (ja_cons (je_var (pv 4)) ja_nil))) je_int))) jb_nil)
  (jb_one (js_if (PW.pt (jw_or (jt_val (je_var (pv 10))) (jw_or1 (jt_notIn hr (je_ix hr (je_var (pv 9)) je_int) (je_var (pv 2)))))) (jb_cons (js_expr (je_append (je_var (pv 6)) (ja_cons (je_var (pv 8)) ja_nil)))
  (jb_one (js_if (jt_notIn hr (je_ix hr (je_var (pv 9)) je_int) (je_var (pv 5))) (jb_one (js_expr (je_append (je_var (pv 5)) (ja_cons (je_ix hr (je_var (pv 9)) je_int) ja_nil)))) jb_nil))) jb_nil)))) jb_nil))))) jb_nil)))
  (jb_one (js_ret (je_lst (ja_cons (je_callB cr_sortedI calls_sortI (by rfl) T.n_sorted (by decide +kernel) (ja_cons (je_var (pv 5)) ja_nil)) (ja_cons (je_callB cr_sortedI calls_sortI (by rfl) T.n_sorted (by decide +kernel) (ja_cons (je_var (pv 6)) ja_nil)) ja_nil))))))))
theorem sc__law_falls : FnScope ["chart", "bad", "own", "state", "seen", "at", "edge", "place"] ["chart", "bad", "own", "state"] (defScope s__law_falls) := ⟨rfl, rfl, rfl, by decide +kernel, rfl, by decide +kernel, by decide +kernel⟩
theorem j__law_falls (T : Txt K mg C_Chart C_Lost) {f : Addr} {cdv : Value} {A : Around} {outer : List PySem.Env} {s : Shared} {H : Hp} {E : XK} (hr : Room 0 (cxOf (L2.CX P w) P w K mg base ["chart", "bad", "own", "state", "seen", "at", "edge", "place"] "_law_falls" (defScope s__law_falls) f cdv A outer s H E).A)
    (tk : Takes (cxOf (L2.CX P w) P w K mg base ["chart", "bad", "own", "state", "seen", "at", "edge", "place"] "_law_falls" (defScope s__law_falls) f cdv A outer s H E) (WK E)) : JB (cxOf (L2.CX P w) P w K mg base ["chart", "bad", "own", "state", "seen", "at", "edge", "place"] "_law_falls" (defScope s__law_falls) f cdv A outer s H E) (WK E) (defBody s__law_falls) (r__law_falls) := by
  have nd := (sc__law_falls).nd
  exact (jb_cons (js_set (i := 4) nd rfl (by first | exact .inl rfl | exact .inr rfl) (je_lst (ja_cons (je_var (pv 3)) ja_nil)))
  (jb_cons (js_for (passes_of rfl) rfl (ji_range1 (by rfl) T.n_range (ja_cons (je_ix hr (je_var (pv 0)) je_int) ja_nil)) (jg_nm (i := 5) nd rfl (by first | exact .inl rfl | exact .inr rfl)) (jb_one (js_if (jt_lt (je_var (pv 5)) (je_callB call_len_seq calls_len (by rfl) T.n_len (by decide +kernel) (ja_cons (je_var (pv 4)) ja_nil))) (jb_one (js_for (passes_of rfl) rfl (ji_seq (je_ix hr (je_var (pv 0)) je_int)) (jg_nm (i := 6) nd rfl (by first | exact .inl rfl | exact .inr rfl)) (jb_one (js_if (PW.pt (jw_and (jt_eq hr (je_ix hr (je_var (pv 6)) je_int) (je_ix hr (je_var (pv 4)) (je_var (pv 5)))) (jw_and (jt_notIn hr (je_ix hr (je_var (pv 6)) je_int) (je_var (pv 2))) (jw_and1 (jt_notIn hr (je_ix hr (je_var (pv 6)) je_int) (je_var (pv 4))))))) (jb_one (js_expr (je_append (je_var (pv 4)) (ja_cons (je_ix hr (je_var (pv 6)) je_int) ja_nil)))) jb_nil)))) jb_nil)))
  (jb_one (js_ret (je_callB (cr_any rfl) calls_any (by rfl) T.n_any (by decide +kernel) (ja_cons (je_lc (own := [("place", 7)]) (t := (.nm 7)) (tt := wYes) (te := (wOp (oIn false) (wVar 7) (wVar 1))) rfl nd (ji_seq (je_var (pv 4))) (blkOk_by (by rfl)) (by rfl) (fun _ _ _ _ _ => (jg_nm (i := 7) nd rfl (by first | exact .inl rfl | exact .inr rfl))) (fun _ _ _ _ _ => jts_nil) (fun _ _ _ _ _ => (je_in hr (je_var (pv 7)) (je_var (pv 1))))) ja_nil))))))
theorem sc__law_sets : FnScope ["tape", "chart", "plain", "bad", "own", "lost", "edges", "share", "found", "state", "k"] ["tape", "chart", "plain", "bad", "own", "lost", "edges"] (defScope s__law_sets) := ⟨rfl, rfl, rfl, by decide +kernel, rfl, by decide +kernel, by decide +kernel⟩
theorem j__law_sets (T : Txt K mg C_Chart C_Lost) {p__law_closed : PT} (c__law_closed : CalP P w K mg base 3 "_law_closed" 5 p__law_closed) {p__law_same_chart : PT} (c__law_same_chart : CalP P w K mg base 5 "_law_same_chart" 2 p__law_same_chart) {p_part : PT} (c_part : CalP P w K mg base 6 "part" 2 p_part) {p__law_part : PT} (c__law_part : CalP P w K mg base 1 "_law_part" 3 p__law_part) {f : Addr} {cdv : Value} {A : Around} {outer : List PySem.Env} {s : Shared} {H : Hp} {E : XK} (hr : Room 6 (cxOf (L2.CX P w) P w K mg base ["tape", "chart", "plain", "bad", "own", "lost", "edges", "share", "found", "state", "k"] "_law_sets" (defScope s__law_sets) f cdv A outer s H E).A)
    (tk : Takes (cxOf (L2.CX P w) P w K mg base ["tape", "chart", "plain", "bad", "own", "lost", "edges", "share", "found", "state", "k"] "_law_sets" (defScope s__law_sets) f cdv A outer s H E) (WK E)) : JB (cxOf (L2.CX P w) P w K mg base ["tape", "chart", "plain", "bad", "own", "lost", "edges", "share", "found", "state", "k"] "_law_sets" (defScope s__law_sets) f cdv A outer s H E) (WK E) (defBody s__law_sets) (r__law_sets p__law_closed p__law_same_chart p_part p__law_part) := by
  have nd := (sc__law_sets).nd
  exact (jb_cons (js_for (passes_of rfl) rfl (ji_seq (je_lst (ja_cons je_int (ja_cons je_int (ja_cons je_int (ja_cons je_int (ja_cons je_int (ja_cons je_int ja_nil)))))))) (jg_nm (i := 7) nd rfl (by first | exact .inl rfl | exact .inr rfl)) (jb_cons (js_set (i := 8) nd rfl (by first | exact .inl rfl | exact .inr rfl) (je_call c__law_closed (hr.mono (by decide)) (by rfl) tk (ja_cons (je_var (pv 0)) (ja_cons (je_var (pv 1)) (ja_cons (je_var (pv 4)) (ja_cons (je_var (pv 5)) (ja_cons (je_var (pv 7)) ja_nil)))))))
  (jb_one (js_if (jt_not (jt_val (je_callB (cr_any rfl) calls_any (by rfl) T.n_any (by decide +kernel) (ja_cons (je_lc (own := [("state", 9)]) (t := (.nm 9)) (tt := wYes) (te := (wOp (oIn false) (wVar 9) (wVar 3))) rfl nd (ji_seq (je_ix hr (je_var (pv 8)) je_int)) (blkOk_by (by rfl)) (by rfl) (fun _ _ _ _ _ => (jg_nm (i := 9) nd rfl (by first | exact .inl rfl | exact .inr rfl))) (fun _ _ _ _ _ => jts_nil) (fun _ _ _ _ _ => (je_in hr (je_var (pv 9)) (je_var (pv 3))))) ja_nil)))) (jb_cons (js_if (jt_val (je_callB (cr_any rfl) calls_any (by rfl) T.n_any (by decide +kernel) (ja_cons (je_lc (own := [("k", 10)]) (t := (.nm 10)) (tt := wYes) (te := (wOp (oIn true) (wVar 10) (wVar 6))) rfl nd (ji_seq (je_ix hr (je_var (pv 8)) je_int)) (blkOk_by (by rfl)) (by rfl) (fun _ _ _ _ _ => (jg_nm (i := 10) nd rfl (by first | exact .inl rfl | exact .inr rfl))) (fun _ _ _ _ _ => jts_nil) (fun _ _ _ _ _ => (je_notIn hr (je_var (pv 10)) (je_var (pv 6))))) ja_nil))) (jb_one (js_ret je_bl)) jb_nil)
  (jb_one (js_if (jt_not (jt_val (je_call c__law_same_chart (hr.mono (by decide)) (by rfl) tk (ja_cons (je_call c_part (hr.mono (by decide)) (by rfl) tk (ja_cons (je_var (pv 2)) (ja_cons (je_callTy call_tuple_of calls_tuple (by rfl) T.n_tuple (by decide +kernel) (ja_cons (je_ix hr (je_var (pv 8)) je_int) ja_nil)) ja_nil))) (ja_cons (je_call c__law_part (hr.mono (by decide)) (by rfl) tk (ja_cons (je_var (pv 1)) (ja_cons (je_ix hr (je_var (pv 8)) je_int) (ja_cons (je_ix hr (je_var (pv 8)) je_int) ja_nil)))) ja_nil))))) (jb_one (js_ret je_bl)) jb_nil))) jb_nil))))
  (jb_one (js_ret je_bl)))
theorem sc__law_asked : FnScope ["chart", "plain", "bad", "own", "lost", "given", "told", "word", "words", "states", "edges"] ["chart", "plain", "bad", "own"] (defScope s__law_asked) := ⟨rfl, rfl, rfl, by decide +kernel, rfl, by decide +kernel, by decide +kernel⟩
theorem j__law_asked (T : Txt K mg C_Chart C_Lost) {p__law_lost : PT} (c__law_lost : CalP P w K mg base 1 "_law_lost" 3 p__law_lost) {p_lost_states : PT} (c_lost_states : CalP P w K mg base 1 "lost_states" 3 p_lost_states) {p__law_same : PT} (c__law_same : CalP P w K mg base 4 "_law_same" 2 p__law_same) {p__law_lost_word : PT} (c__law_lost_word : CalP P w K mg base 1 "_law_lost_word" 3 p__law_lost_word) {p__law_refused : PT} (c__law_refused : CalP P w K mg base 8 "_law_refused" 4 p__law_refused) {p__law_safe : PT} (c__law_safe : CalP P w K mg base 1 "_law_safe" 2 p__law_safe) {p__law_between : PT} (c__law_between : CalP P w K mg base 1 "_law_between" 2 p__law_between) {p_safe_edges : PT} (c_safe_edges : CalP P w K mg base 4 "safe_edges" 3 p_safe_edges) {p__law_same_chart : PT} (c__law_same_chart : CalP P w K mg base 5 "_law_same_chart" 2 p__law_same_chart) {p_safe_chart : PT} (c_safe_chart : CalP P w K mg base 7 "safe_chart" 3 p_safe_chart) {p__law_part : PT} (c__law_part : CalP P w K mg base 1 "_law_part" 3 p__law_part) {p_part : PT} (c_part : CalP P w K mg base 6 "part" 2 p_part) {f : Addr} {cdv : Value} {A : Around} {outer : List PySem.Env} {s : Shared} {H : Hp} {E : XK} (hr : Room 8 (cxOf (L2.CX P w) P w K mg base ["chart", "plain", "bad", "own", "lost", "given", "told", "word", "words", "states", "edges"] "_law_asked" (defScope s__law_asked) f cdv A outer s H E).A)
    (tk : Takes (cxOf (L2.CX P w) P w K mg base ["chart", "plain", "bad", "own", "lost", "given", "told", "word", "words", "states", "edges"] "_law_asked" (defScope s__law_asked) f cdv A outer s H E) (WK E)) : JB (cxOf (L2.CX P w) P w K mg base ["chart", "plain", "bad", "own", "lost", "given", "told", "word", "words", "states", "edges"] "_law_asked" (defScope s__law_asked) f cdv A outer s H E) (WK E) (defBody s__law_asked) (r__law_asked p__law_lost p_lost_states p__law_same p__law_lost_word p__law_refused p__law_safe p__law_between p_safe_edges p__law_same_chart p_safe_chart p__law_part p_part) := by
  have nd := (sc__law_asked).nd
  exact (jb_cons (js_set (i := 4) nd rfl (by first | exact .inl rfl | exact .inr rfl) (je_call c__law_lost (hr.mono (by decide)) (by rfl) tk (ja_cons (je_var (pv 0)) (ja_cons (je_var (pv 2)) (ja_cons (je_var (pv 3)) ja_nil)))))
  (jb_cons (js_set (i := 5) nd rfl (by first | exact .inl rfl | exact .inr rfl) (je_callTy call_list_of calls_list (by rfl) T.n_list (by decide +kernel) (ja_cons (je_var (pv 2)) ja_nil)))
  (jb_cons (js_set (i := 6) nd rfl (by first | exact .inl rfl | exact .inr rfl) (je_call c_lost_states (hr.mono (by decide)) (by rfl) tk (ja_cons (je_var (pv 1)) (ja_cons (je_var (pv 5)) (ja_cons (je_var (pv 3)) ja_nil)))))
  (jb_cons (js_if (PW.pt (jw_or (jt_not (jt_val (je_call c__law_same (hr.mono (by decide)) (by rfl) tk (ja_cons (je_var (pv 6)) (ja_cons (je_var (pv 4)) ja_nil))))) (jw_or1 (jt_not (jt_val (je_call c__law_same (hr.mono (by decide)) (by rfl) tk (ja_cons (je_var (pv 5)) (ja_cons (je_var (pv 2)) ja_nil)))))))) (jb_one (js_ret je_non)) jb_nil)
  (jb_cons (js_expr (je_append (je_var (pv 6)) (ja_cons je_int ja_nil)))
  (jb_cons (js_if (jt_not (jt_val (je_call c__law_same (hr.mono (by decide)) (by rfl) tk (ja_cons (je_call c_lost_states (hr.mono (by decide)) (by rfl) tk (ja_cons (je_var (pv 1)) (ja_cons (je_var (pv 5)) (ja_cons (je_var (pv 3)) ja_nil)))) (ja_cons (je_var (pv 4)) ja_nil))))) (jb_one (js_ret je_non)) jb_nil)
  (jb_cons (js_if (jt_in hr je_int (je_var (pv 4))) (jb_cons (js_set (i := 7) nd rfl (by first | exact .inl rfl | exact .inr rfl) (je_call c__law_lost_word (hr.mono (by decide)) (by rfl) tk (ja_cons (je_var (pv 0)) (ja_cons (je_var (pv 2)) (ja_cons (je_var (pv 3)) ja_nil)))))
  (jb_cons (js_set (i := 8) nd rfl (by first | exact .inl rfl | exact .inr rfl) (je_lst (ja_cons (je_call c__law_refused (hr.mono (by decide)) (by rfl) tk (ja_cons (je_var (pv 1)) (ja_cons (je_var (pv 5)) (ja_cons (je_var (pv 3)) (ja_cons je_int ja_nil))))) (ja_cons (je_call c__law_refused (hr.mono (by decide)) (by rfl) tk (ja_cons (je_var (pv 1)) (ja_cons (je_var (pv 5)) (ja_cons (je_var (pv 3)) (ja_cons je_int ja_nil))))) ja_nil))))
  (jb_cons (js_if (jt_not (jt_val (je_call c__law_same (hr.mono (by decide)) (by rfl) tk (ja_cons (je_var (pv 8)) (ja_cons (je_lst (ja_cons (je_var (pv 7)) (ja_cons (je_var (pv 7)) ja_nil))) ja_nil))))) (jb_one (js_ret je_non)) jb_nil)
  (jb_one (js_ret (je_lst (ja_cons (je_var (pv 4)) (ja_cons je_non ja_nil)))))))) jb_nil)
  (jb_cons (js_set (i := 9) nd rfl (by first | exact .inl rfl | exact .inr rfl) (je_call c__law_safe (hr.mono (by decide)) (by rfl) tk (ja_cons (je_var (pv 0)) (ja_cons (je_var (pv 4)) ja_nil))))
  (jb_cons (js_set (i := 10) nd rfl (by first | exact .inl rfl | exact .inr rfl) (je_call c__law_between (hr.mono (by decide)) (by rfl) tk (ja_cons (je_var (pv 0)) (ja_cons (je_var (pv 9)) ja_nil))))
  (jb_cons (js_if (jt_not (jt_val (je_call c__law_same (hr.mono (by decide)) (by rfl) tk (ja_cons (je_call c_safe_edges (hr.mono (by decide)) (by rfl) tk (ja_cons (je_var (pv 1)) (ja_cons (je_var (pv 5)) (ja_cons (je_var (pv 3)) ja_nil)))) (ja_cons (je_callTy call_tuple_of calls_tuple (by rfl) T.n_tuple (by decide +kernel) (ja_cons (je_var (pv 10)) ja_nil)) ja_nil))))) (jb_one (js_ret je_non)) jb_nil)
  (jb_cons (js_if (jt_not (jt_val (je_call c__law_same_chart (hr.mono (by decide)) (by rfl) tk (ja_cons (je_call c_safe_chart (hr.mono (by decide)) (by rfl) tk (ja_cons (je_var (pv 1)) (ja_cons (je_var (pv 5)) (ja_cons (je_var (pv 3)) ja_nil)))) (ja_cons (je_call c__law_part (hr.mono (by decide)) (by rfl) tk (ja_cons (je_var (pv 0)) (ja_cons (je_var (pv 9)) (ja_cons (je_var (pv 10)) ja_nil)))) ja_nil))))) (jb_one (js_ret je_non)) jb_nil)
  (jb_cons (js_if (jt_not (jt_val (je_call c__law_same_chart (hr.mono (by decide)) (by rfl) tk (ja_cons (je_call c_part (hr.mono (by decide)) (by rfl) tk (ja_cons (je_var (pv 1)) (ja_cons (je_callTy call_tuple_of calls_tuple (by rfl) T.n_tuple (by decide +kernel) (ja_cons (je_var (pv 10)) ja_nil)) ja_nil))) (ja_cons (je_call c__law_part (hr.mono (by decide)) (by rfl) tk (ja_cons (je_var (pv 0)) (ja_cons (je_var (pv 9)) (ja_cons (je_var (pv 10)) ja_nil)))) ja_nil))))) (jb_one (js_ret je_non)) jb_nil)
  (jb_one (js_ret (je_lst (ja_cons (je_var (pv 4)) (ja_cons (je_var (pv 10)) ja_nil)))))))))))))))))
theorem sc_law : FnScope ["script", "tape", "chart", "bad", "state", "own", "plain", "told", "states", "k", "edge", "smaller", "few", "less", "more"] ["script"] (defScope s_law) := ⟨rfl, rfl, rfl, by decide +kernel, rfl, by decide +kernel, by decide +kernel⟩
theorem j_law (T : Txt K mg C_Chart C_Lost) {p__law_chart : PT} (c__law_chart : CalP P w K mg base 4 "_law_chart" 1 p__law_chart) {p__law_bad : PT} (c__law_bad : CalP P w K mg base 3 "_law_bad" 2 p__law_bad) {p__law_take : PT} (c__law_take : CalP P w K mg base 2 "_law_take" 2 p__law_take) {p__law_own : PT} (c__law_own : CalP P w K mg base 3 "_law_own" 2 p__law_own) {p_Chart___init__ : PT} (c_Chart : MakP P w K mg base 4 "Chart" C_Chart 4 p_Chart___init__) {p__law_asked : PT} (c__law_asked : CalP P w K mg base 9 "_law_asked" 4 p__law_asked) {p__law_safe : PT} (c__law_safe : CalP P w K mg base 1 "_law_safe" 2 p__law_safe) {p__law_falls : PT} (c__law_falls : CalP P w K mg base 1 "_law_falls" 4 p__law_falls) {p__law_sets : PT} (c__law_sets : CalP P w K mg base 7 "_law_sets" 7 p__law_sets) {p_safe_chart : PT} (c_safe_chart : CalP P w K mg base 7 "safe_chart" 3 p_safe_chart) {p__law_same : PT} (c__law_same : CalP P w K mg base 4 "_law_same" 2 p__law_same) {p_safe_edges : PT} (c_safe_edges : CalP P w K mg base 4 "safe_edges" 3 p_safe_edges) {f : Addr} {cdv : Value} {A : Around} {outer : List PySem.Env} {s : Shared} {H : Hp} {E : XK} (hr : Room 9 (cxOf (L2.CX P w) P w K mg base ["script", "tape", "chart", "bad", "state", "own", "plain", "told", "states", "k", "edge", "smaller", "few", "less", "more"] "law" (defScope s_law) f cdv A outer s H E).A)
    (tk : Takes (cxOf (L2.CX P w) P w K mg base ["script", "tape", "chart", "bad", "state", "own", "plain", "told", "states", "k", "edge", "smaller", "few", "less", "more"] "law" (defScope s_law) f cdv A outer s H E) (WK E)) : JB (cxOf (L2.CX P w) P w K mg base ["script", "tape", "chart", "bad", "state", "own", "plain", "told", "states", "k", "edge", "smaller", "few", "less", "more"] "law" (defScope s_law) f cdv A outer s H E) (WK E) (defBody s_law) (r_law C_Chart p__law_chart p__law_bad p__law_take p__law_own p_Chart___init__ p__law_asked p__law_safe p__law_falls p__law_sets p_safe_chart p__law_same p_safe_edges) := by
  have nd := (sc_law).nd
  exact (jb_cons (js_set (i := 1) nd rfl (by first | exact .inl rfl | exact .inr rfl) (je_lst (ja_cons (je_callTy call_list_of calls_list (by rfl) T.n_list (by decide +kernel) (ja_cons (je_var (pv 0)) ja_nil)) (ja_cons je_int (ja_cons je_int (ja_cons je_int (ja_cons je_int ja_nil)))))))
  (jb_cons (js_set (i := 2) nd rfl (by first | exact .inl rfl | exact .inr rfl) (je_call c__law_chart (hr.mono (by decide)) (by rfl) tk (ja_cons (je_var (pv 1)) ja_nil)))
  (jb_cons (js_set (i := 3) nd rfl (by first | exact .inl rfl | exact .inr rfl) (je_call c__law_bad (hr.mono (by decide)) (by rfl) tk (ja_cons (je_var (pv 1)) (ja_cons (je_ix hr (je_var (pv 2)) je_int) ja_nil))))
  (jb_cons (js_if (jt_gt (je_call c__law_take (hr.mono (by decide)) (by rfl) tk (ja_cons (je_var (pv 1)) (ja_cons je_int ja_nil))) je_int) (jb_one (js_set (i := 3) nd rfl (by first | exact .inl rfl | exact .inr rfl) (je_lc (own := [("state", 4)]) (t := (.nm 4)) (tt := (wTest (wOp oGt (wVar 4) (wC (.int 0))))) (te := (wVar 4)) rfl nd (ji_seq (je_var (pv 3))) (blkOk_by (by rfl)) (by rfl) (fun _ _ _ _ _ => (jg_nm (i := 4) nd rfl (by first | exact .inl rfl | exact .inr rfl))) (fun _ _ _ _ _ => (jts_one (jt_gt (je_var (pv 4)) je_int))) (fun _ _ _ _ _ => (je_var (pv 4)))))) jb_nil)
  (jb_cons (js_set (i := 5) nd rfl (by first | exact .inl rfl | exact .inr rfl) (je_call c__law_own (hr.mono (by decide)) (by rfl) tk (ja_cons (je_var (pv 1)) (ja_cons (je_ix hr (je_var (pv 2)) je_int) ja_nil))))
  (jb_cons (js_set (i := 6) nd rfl (by first | exact .inl rfl | exact .inr rfl) (je_make c_Chart (hr.mono (by decide)) (by rfl) tk (ja_cons (je_ix hr (je_var (pv 2)) je_int) (ja_cons (je_ix hr (je_var (pv 2)) je_int) (ja_cons (je_callTy call_list_of calls_list (by rfl) T.n_list (by decide +kernel) (ja_cons (je_ix hr (je_var (pv 2)) je_int) ja_nil)) ja_nil)))))
  (jb_cons (js_set (i := 7) nd rfl (by first | exact .inl rfl | exact .inr rfl) (je_call c__law_asked (hr.mono (by decide)) (by rfl) tk (ja_cons (je_var (pv 2)) (ja_cons (je_var (pv 6)) (ja_cons (je_var (pv 3)) (ja_cons (je_var (pv 5)) ja_nil))))))
  (jb_cons (js_if (jt_isN (je_var (pv 7)) je_non) (jb_one (js_ret je_bl)) jb_nil)
  (jb_cons (js_if (jt_notN (je_ix hr (je_var (pv 7)) je_int) je_non) (jb_cons (js_set (i := 8) nd rfl (by first | exact .inl rfl | exact .inr rfl) (je_call c__law_safe (hr.mono (by decide)) (by rfl) tk (ja_cons (je_var (pv 2)) (ja_cons (je_ix hr (je_var (pv 7)) je_int) ja_nil))))
  (jb_cons (js_for (passes_of rfl) rfl (ji_range1 (by rfl) T.n_range (ja_cons (je_callB call_len_seq calls_len (by rfl) T.n_len (by decide +kernel) (ja_cons (je_ix hr (je_var (pv 2)) je_int) ja_nil)) ja_nil)) (jg_nm (i := 9) nd rfl (by first | exact .inl rfl | exact .inr rfl)) (jb_cons (js_set (i := 10) nd rfl (by first | exact .inl rfl | exact .inr rfl) (je_ix hr (je_ix hr (je_var (pv 2)) je_int) (je_var (pv 9))))
  (jb_one (js_if (PW.pt (jw_and (jt_in hr (je_ix hr (je_var (pv 10)) je_int) (je_var (pv 8))) (jw_and1 (jt_notIn hr (je_var (pv 9)) (je_ix hr (je_var (pv 7)) je_int))))) (jb_one (js_if (PW.pt (jw_or (jt_notIn hr (je_ix hr (je_var (pv 10)) je_int) (je_var (pv 5))) (jw_or1 (jt_not (jt_val (je_call c__law_falls (hr.mono (by decide)) (by rfl) tk (ja_cons (je_var (pv 2)) (ja_cons (je_var (pv 3)) (ja_cons (je_var (pv 5)) (ja_cons (je_ix hr (je_var (pv 10)) je_int) ja_nil)))))))))) (jb_one (js_ret je_bl)) jb_nil)) jb_nil))))
  (jb_cons (js_if (PW.pt (jw_or (jt_val (je_callB (cr_any rfl) calls_any (by rfl) T.n_any (by decide +kernel) (ja_cons (je_lc (own := [("state", 4)]) (t := (.nm 4)) (tt := wYes) (te := (wOp (oIn false) (wVar 4) (wVar 3))) rfl nd (ji_seq (je_var (pv 8))) (blkOk_by (by rfl)) (by rfl) (fun _ _ _ _ _ => (jg_nm (i := 4) nd rfl (by first | exact .inl rfl | exact .inr rfl))) (fun _ _ _ _ _ => jts_nil) (fun _ _ _ _ _ => (je_in hr (je_var (pv 4)) (je_var (pv 3))))) ja_nil))) (jw_or1 (jt_not (jt_val (je_call c__law_sets (hr.mono (by decide)) (by rfl) tk (ja_cons (je_var (pv 1)) (ja_cons (je_var (pv 2)) (ja_cons (je_var (pv 6)) (ja_cons (je_var (pv 3)) (ja_cons (je_var (pv 5)) (ja_cons (je_ix hr (je_var (pv 7)) je_int) (ja_cons (je_ix hr (je_var (pv 7)) je_int) ja_nil))))))))))))) (jb_one (js_ret je_bl)) jb_nil)
  (jb_cons (js_set (i := 11) nd rfl (by first | exact .inl rfl | exact .inr rfl) (je_call c_safe_chart (hr.mono (by decide)) (by rfl) tk (ja_cons (je_var (pv 6)) (ja_cons (je_callTy call_list_of calls_list (by rfl) T.n_list (by decide +kernel) (ja_cons (je_var (pv 3)) ja_nil)) (ja_cons (je_var (pv 5)) ja_nil)))))
  (jb_one (js_if (jt_not (jt_val (je_call c__law_same (hr.mono (by decide)) (by rfl) tk (ja_cons (je_call c_safe_edges (hr.mono (by decide)) (by rfl) tk (ja_cons (je_var (pv 11)) (ja_cons (je_lst ja_nil) (ja_cons (je_var (pv 5)) ja_nil)))) (ja_cons (je_tupRg rfl (by rfl) T.n_tuple (by rfl) T.n_range (je_callB call_len_seq calls_len (by rfl) T.n_len (by decide +kernel) (ja_cons (je_ix hr (je_var (pv 7)) je_int) ja_nil))) ja_nil))))) (jb_one (js_ret je_bl)) jb_nil)))))) jb_nil)
  (jb_cons (js_setLc (i := 12) (own := [("state", 4)]) (t := (.nm 4)) (tt := (wTest (wOp (oEq false) (wCallF 2 p__law_take (waCons (wVar 1) (waCons (wC (.int 2)) waNil))) (wC (.int 0))))) (te := (wVar 4)) rfl nd rfl (by rfl) (by rfl) (ji_seq (je_var (pv 3))) (blkOk_by (by rfl)) (by rfl) (fun _ _ _ _ _ => (jg_nm (i := 4) nd rfl (by first | exact .inl rfl | exact .inr rfl))) (fun _ _ _ _ _ => (jts_one (jt_eq hr (je_call c__law_take (hr.mono (by decide)) (by rfl) takes0 (ja_cons (je_var (pv 1)) (ja_cons je_int ja_nil))) je_int))) (fun _ _ _ _ _ => (je_var (pv 4))))
  (jb_cons (js_set (i := 13) nd rfl (by first | exact .inl rfl | exact .inr rfl) (je_call c__law_asked (hr.mono (by decide)) (by rfl) tk (ja_cons (je_var (pv 2)) (ja_cons (je_var (pv 6)) (ja_cons (je_var (pv 12)) (ja_cons (je_var (pv 5)) ja_nil))))))
  (jb_cons (js_set (i := 14) nd rfl (by first | exact .inl rfl | exact .inr rfl) (je_call c__law_asked (hr.mono (by decide)) (by rfl) tk (ja_cons (je_var (pv 2)) (ja_cons (je_var (pv 6)) (ja_cons (je_var (pv 3)) (ja_cons (je_var (pv 5)) ja_nil))))))
  (jb_cons (js_if (PW.pt (jw_or (jt_isN (je_var (pv 13)) je_non) (jw_or1 (jt_isN (je_var (pv 14)) je_non)))) (jb_one (js_ret je_bl)) jb_nil)
  (jb_cons (js_if (PW.pt (jw_and (jt_notN (je_ix hr (je_var (pv 7)) je_int) je_non) (jw_and1 (jt_val (je_callB (cr_any rfl) calls_any (by rfl) T.n_any (by decide +kernel) (ja_cons (je_lc (own := [("k", 9)]) (t := (.nm 9)) (tt := wYes) (te := (wOp (oIn true) (wVar 9) (wOp oIx (wVar 13) (wC (.int 1))))) rfl nd (ji_seq (je_ix hr (je_var (pv 7)) je_int)) (blkOk_by (by rfl)) (by rfl) (fun _ _ _ _ _ => (jg_nm (i := 9) nd rfl (by first | exact .inl rfl | exact .inr rfl))) (fun _ _ _ _ _ => jts_nil) (fun _ _ _ _ _ => (je_notIn hr (je_var (pv 9)) (je_ix hr (je_var (pv 13)) je_int)))) ja_nil)))))) (jb_one (js_ret je_bl)) jb_nil)
  (jb_one (js_ret (je_not (je_callB (cr_any rfl) calls_any (by rfl) T.n_any (by decide +kernel) (ja_cons (je_lc (own := [("state", 4)]) (t := (.nm 4)) (tt := wYes) (te := (wOp (oIn true) (wVar 4) (wOp oIx (wVar 7) (wC (.int 0))))) rfl nd (ji_seq (je_ix hr (je_var (pv 13)) je_int)) (blkOk_by (by rfl)) (by rfl) (fun _ _ _ _ _ => (jg_nm (i := 4) nd rfl (by first | exact .inl rfl | exact .inr rfl))) (fun _ _ _ _ _ => jts_nil) (fun _ _ _ _ _ => (je_notIn hr (je_var (pv 4)) (je_ix hr (je_var (pv 7)) je_int)))) ja_nil)))))))))))))))))))
end
end Y
set_option Elab.async false
set_option linter.all false
set_option maxRecDepth 100000
set_option maxHeartbeats 4000000
set_option autoImplicit false
/-! contracts: lines -/
namespace Y
open PySem L2
@[simp] theorem put_nm {i : Nat} {v : Val} {env : Env} : Tg.put (.nm i) v env = some (env.set i (some v)) := by rw [Tg.put]
@[simp] theorem put_tp {ts : List Tg} {xs : List Val} {env : Env} : Tg.put (.tp ts) (.tup xs) env = Tg.puts ts xs env := by rw [Tg.put]
@[simp] theorem puts_nil {env : Env} : Tg.puts [] [] env = some env := by rw [Tg.puts]
@[simp] theorem puts_cons {t : Tg} {ts : List Tg} {x : Val} {xs : List Val} {env : Env} : Tg.puts (t :: ts) (x :: xs) env = (Tg.put t x env).bind (Tg.puts ts xs) := by
  rw [Tg.puts]
  cases Tg.put t x env <;> rfl
@[simp] theorem startE_zero {n : Nat} : startE n [] = List.replicate n none := by simp [startE]
@[simp] theorem startE_cons {n : Nat} {x : Val} {xs : List Val} : startE (n + 1) (x :: xs) = some x :: startE n xs := by simp [startE]
@[simp] theorem wipeE_nil {env : Env} : wipeE env [] = env := rfl
@[simp] theorem wipeE_cons {env : Env} {v : Nat} {vs : List Nat} : wipeE env (v :: vs) = (wipeE env vs).set v none := rfl
/-- a sequence value as an iterable: what it gives while the store grows -/
theorem iseq_of {a : WE} {env : Env} {s : Store} {R : DIt → Store → Prop} {E : QE} {x : Val} {xs : List Val} (ha : ∀ Q : QV, Q x s → a env s Q E) (h : seqOf s x = some xs) (hns : ∀ ys, x ≠ .scr ys)
    (hR : ∀ it : DIt, (∀ s2 i, seqOf s2 x = some xs → it.at_ i s2 = some xs[i]?) → R it s) : wISeq a env s R E := by
  rw [wISeq_app]
  refine ha _ ?_
  cases x with
  | tup ys => cases h; exact hR _ fun _ _ _ => rfl
  | ref p => exact ⟨⟨_, seqOf_ref h⟩, hR _ fun s2 i k => dL_at (seqOf_ref k)⟩
  | scr ys => exact absurd rfl (hns ys)
  | _ => cases h
def gcds (ns : List Int) : Int := ns.foldl (fun d n => ((Nat.gcd d.natAbs n.natAbs : Nat) : Int)) 0
def short (ns : List Int) : List Int := if gcds ns = 0 then ns else ns.map (· / gcds ns)
def p_shortened : PT := fun xs s Q E => ∃ x ns, xs = [x] ∧ (∀ ys, x ≠ .scr ys) ∧ seqOf s x = some (ns.map Val.int) ∧ ns.length ≤ 16777216 ∧ (∀ n ∈ ns, n.natAbs.log2 < 9000) ∧ ∀ s', Sub s s' → Q (.tup ((short ns).map Val.int)) s'
theorem gcds_append {ns : List Int} {n : Int} : gcds (ns ++ [n]) = ((Nat.gcd (gcds ns).natAbs n.natAbs : Nat) : Int) := by
  unfold gcds
  rw [List.foldl_append]
  rfl
theorem take_add {α : Type} {l : List α} {i : Nat} {x : α} (h : l[i]? = some x) : l.take (i + 1) = l.take i ++ [x] := by rw [List.take_succ, h]; rfl
theorem rev_ind {α : Type} {P : List α → Prop} (h0 : P []) (h1 : ∀ l a, P l → P (l ++ [a])) (l : List α) : P l := by
  have : ∀ m : List α, P m.reverse := by
    intro m
    induction m with
    | nil => exact h0
    | cons a m ih => rw [List.reverse_cons]; exact h1 _ _ ih
  simpa using this l.reverse
theorem gcds_nn : ∀ ns : List Int, 0 ≤ gcds ns := rev_ind (by decide) fun l a _ => by
  rw [gcds_append]
  exact Int.natCast_nonneg _
theorem gcds_dvd : ∀ ns : List Int, ∀ n ∈ ns, gcds ns ∣ n := rev_ind (fun n h => nomatch h) fun l a ih n hn => by
  rw [gcds_append]
  rcases List.mem_append.mp hn with h | h
  · exact Int.ofNat_dvd_left.mpr (Nat.dvd_trans (Nat.gcd_dvd_left _ _) (Int.natAbs_dvd_natAbs.mpr (ih n h)))
  · rw [List.mem_singleton.mp h]
    exact Int.ofNat_dvd_left.mpr (Nat.gcd_dvd_right _ _)
theorem gcds_ne : ∀ ns : List Int, gcds ns ≠ 0 → ∃ n ∈ ns, n ≠ 0 := rev_ind (fun h => absurd rfl h) fun l a ih h => by
  rw [gcds_append] at h
  by_cases ha : a = 0
  · by_cases hg : gcds l = 0
    · rw [hg, ha] at h
      exact absurd rfl h
    · obtain ⟨n, h1, h2⟩ := ih hg
      exact ⟨n, List.mem_append_left _ h1, h2⟩
  · exact ⟨a, List.mem_append_right _ (List.mem_singleton.mpr rfl), ha⟩
theorem log2_mono {a b : Nat} (h : a ≤ b) : a.log2 ≤ b.log2 := by
  by_cases ha : a = 0
  · subst ha
    exact Nat.zero_le _
  · rw [Nat.le_log2 (by omega)]
    exact Nat.le_trans (Nat.log2_self_le ha) h
theorem gcds_log {ns : List Int} {B : Nat} (hb : ∀ n ∈ ns, n.natAbs.log2 < B) (h : gcds ns ≠ 0) : (gcds ns).natAbs.log2 < B := by
  obtain ⟨n, h1, h2⟩ := gcds_ne ns h
  refine Nat.lt_of_le_of_lt (log2_mono ?_) (hb n h1)
  exact Nat.le_of_dvd (by omega) (Int.natAbs_dvd_natAbs.mpr (gcds_dvd ns n h1))
theorem lb_map_ints {env : Env} {s1 : Store} {Q : QV} {te : WE} {vs : List Nat} {it : DIt} {i : Nat} {ns : List Int} {g : Int → Int} (hat : ∀ s2 j, Sub s1 s2 → it.at_ j s2 = some (ns.map Val.int)[j]?) (hn : ns.length ≤ 16777216)
    (he : ∀ n ∈ ns, ∀ s2, Sub s1 s2 → ∀ Q1 : QV, Q1 (.int (g n)) s2 → te ((wipeE env vs).set i (some (.int n))) s2 Q1 (fun _ _ => False))
    (hd : ∀ p s2, s1 p = none → Sub s1 s2 → s2 p = some (.lst ((ns.map g).map Val.int)) → Q (.ref p) s2) : LB it (.nm i) wYes te vs env Q s1 := by
  refine LB.map (ns.map Val.int) (fun j s2 k => hat s2 j k) (by rw [List.length_map]; exact hn) (fun x => .int (g (unI x))) (fun x hx s2 k => ?_) fun p s2 h1 h2 h3 => hd p s2 h1 h2 ?_
  · obtain ⟨n, hn, rfl⟩ := List.mem_map.mp hx
    exact ⟨_, put_nm, fun Q1 h => he n hn s2 k Q1 (h s2 (Sub.refl _))⟩
  · rw [h3, List.map_map, List.map_map]
    rfl
theorem ok_shortened {xs s Q E} (h : p_shortened xs s Q E) : r_shortened (DF Q E) (startE 3 xs) s := by
  obtain ⟨x, ns, rfl, hns, hx, hl, hb, q⟩ := h
  simp [r_shortened, wFor_app]
  refine iseq_of (x := x) (fun Q h => by simpa using h) hx hns fun it hat => ?_
  refine FB.of (ns.map Val.int) (fun i env s2 => s2 = s ∧ ∃ v, env = [some x, some (.int (gcds (ns.take i))), v]) ⟨rfl, none, rfl⟩ (fun i env s2 h => by rw [h.1]; exact hat _ _ hx) ?_ ?_
  · rintro i y env s2 hi ⟨rfl, v, rfl⟩
    simp only [List.getElem?_map, Option.map_eq_some_iff] at hi
    obtain ⟨n, hn, rfl⟩ := hi
    simp
    rw [take_add hn, gcds_append]
  · rintro i env s2 hi ⟨rfl, v, rfl⟩
    rw [List.length_map] at hi
    rw [List.take_of_length_le hi]
    simp [wLc_app]
    by_cases h0 : gcds ns = 0
    · refine .inr ⟨h0, ?_⟩
      rw [cTuple_of hx]
      have := q s2 (Sub.refl _)
      unfold short at this
      rwa [if_pos h0] at this
    · refine .inl ⟨h0, iseq_of (x := x) (fun Q h => by simpa using h) hx hns fun it hat => ?_⟩
      have hp := gcds_nn ns
      refine lb_map_ints (g := (· / gcds ns)) (fun s3 j k => hat s3 j (k.seq hx)) hl (fun n hn s3 k Q1 h => ?_) fun p s3 h1 h2 h3 => ?_
      · simp
        exact ⟨⟨by omega, gcds_log hb h0⟩, h⟩
      · rw [cTuple_of (seqOf_lst h3)]
        have := q s3 h2
        unfold short at this
        rwa [if_neg h0] at this
/-! ### reduced, independent -/
def Lt2 (k : Nat) (ns : List Int) : Prop := ∀ n ∈ ns, n.natAbs < 2 ^ k
theorem log2_lt_of {n k : Nat} (h : n < 2 ^ k) : n.log2 ≤ k := by
  by_cases hn : n = 0
  · subst hn
    exact Nat.zero_le _
  · exact Nat.le_of_lt ((Nat.log2_lt hn).mpr h)
theorem Lt2.mono {j k : Nat} {ns : List Int} (h : Lt2 j ns) (hjk : j ≤ k) : Lt2 k ns := fun n hn => Nat.lt_of_lt_of_le (h n hn) (Nat.pow_le_pow_right (by decide) hjk)
theorem short_length (ns : List Int) : (short ns).length = ns.length := by
  unfold short
  split
  · rfl
  · rw [List.length_map]
theorem natAbs_ediv_le (a b : Int) (hb : 0 < b) : (a / b).natAbs ≤ a.natAbs := by
  rcases Int.lt_or_le a 0 with h | h
  · have h1 : a / b < 0 := Int.ediv_neg_of_neg_of_pos h hb
    have h2 : a ≤ a / b := by
      have := Int.le_ediv_of_mul_le hb (a := a) (b := a) (by
        have : a * b ≤ a * 1 := Int.mul_le_mul_of_nonpos_left (by omega) (by omega)
        omega)
      exact this
    omega
  · have h1 : 0 ≤ a / b := Int.ediv_nonneg h (by omega)
    have h2 : a / b ≤ a := Int.ediv_le_self b h
    omega
theorem Lt2.short {k : Nat} {ns : List Int} (h : Lt2 k ns) : Lt2 k (short ns) := by
  unfold Y.short
  split
  · exact h
  · rename_i h0
    intro n hn
    obtain ⟨m, hm, rfl⟩ := List.mem_map.mp hn
    have := gcds_nn ns
    exact Nat.lt_of_le_of_lt (natAbs_ediv_le _ _ (by omega)) (h m hm)
theorem short_getD (ns : List Int) (k : Nat) (h : ns.getD k 0 = 0) : (short ns).getD k 0 = 0 := by
  unfold short
  split
  · exact h
  · rw [List.getD_eq_getElem?_getD] at h ⊢
    rw [List.getElem?_map]
    cases e : ns[k]? with
    | none => rfl
    | some z =>
      rw [e] at h
      have h : z = 0 := h
      subst h
      simp
/-- one basis row taken off -/
def red1 (row : List Int) (b : Nat × List Int) : List Int :=
  if row.getD b.1 0 ≠ 0 then short ((row.zip b.2).map fun p => b.2.getD b.1 0 * p.1 - row.getD b.1 0 * p.2) else row
def red (row : List Int) (bs : List (Nat × List Int)) : List Int := bs.foldl red1 row
theorem red1_length {row : List Int} {b : Nat × List Int} (h : b.2.length = row.length) : (red1 row b).length = row.length := by
  unfold red1
  split
  · rw [short_length, List.length_map, List.length_zip, h, Nat.min_self]
  · rfl
theorem Lt2.getD {k j : Nat} {ns : List Int} (h : Lt2 k ns) : (ns.getD j 0).natAbs < 2 ^ k := by
  rw [List.getD_eq_getElem?_getD]
  cases e : ns[j]? with
  | none => exact Nat.two_pow_pos k
  | some z => exact h z (List.mem_of_getElem? e)
theorem comb_lt {a x b y : Int} {k c : Nat} (ha : a.natAbs < 2 ^ c) (hx : x.natAbs < 2 ^ k) (hb : b.natAbs < 2 ^ k) (hy : y.natAbs < 2 ^ c) : (a * x - b * y).natAbs < 2 ^ (k + c + 1) := by
  have h1 : (a * x).natAbs ≤ (2 ^ c) * (2 ^ k) := by
    rw [Int.natAbs_mul]
    exact Nat.mul_le_mul (Nat.le_of_lt ha) (Nat.le_of_lt hx)
  have h2 : (b * y).natAbs < (2 ^ k) * (2 ^ c) := by
    rw [Int.natAbs_mul]
    rcases Nat.eq_zero_or_pos b.natAbs with z | z
    · rw [z, Nat.zero_mul]
      exact Nat.mul_pos (Nat.two_pow_pos _) (Nat.two_pow_pos _)
    · exact Nat.mul_lt_mul_of_lt_of_lt hb hy
  have e : 2 ^ (k + c + 1) = 2 ^ k * 2 ^ c * 2 := by rw [Nat.pow_add, Nat.pow_add, Nat.pow_one]
  have e2 : 2 ^ c * 2 ^ k = 2 ^ k * 2 ^ c := Nat.mul_comm _ _
  have h3 := Int.natAbs_sub_le (a * x) (b * y)
  omega
theorem Lt2.red1 {row : List Int} {b : Nat × List Int} {k c : Nat} (h : Lt2 k row) (hb : Lt2 c b.2) : Lt2 (k + c + 1) (red1 row b) := by
  unfold Y.red1
  split
  · refine Lt2.short fun n hn => ?_
    obtain ⟨⟨x, y⟩, hp, rfl⟩ := List.mem_map.mp hn
    have hz := List.of_mem_zip hp
    exact comb_lt hb.getD (h x hz.1) h.getD (hb y hz.2)
  · exact h.mono (by omega)
/-- a row of a basis -/
def bv (b : Nat × List Int) : Val := .tup [.int (b.1 : Nat), vT b.2]
structure BasOk (m : Nat) (bs : List (Nat × List Int)) : Prop where
  at_ : ∀ j b, bs[j]? = some b → b.1 < m ∧ b.2.length = m ∧ Lt2 (6 * 2 ^ j - 1) b.2
def p_reduced : PT := fun xs s Q E => ∃ (ns : List Int) (b : Addr) (bs : List (Nat × List Int)), xs = [vT ns, .ref b] ∧ s b = some (.lst (bs.map bv)) ∧ ns.length ≤ 1000 ∧ bs.length ≤ 8 ∧ Lt2 5 ns ∧ BasOk ns.length bs ∧
  ∀ s', Sub s s' → Q (vT (red ns bs)) s'
theorem red_append {row : List Int} {bs : List (Nat × List Int)} {b : Nat × List Int} : red row (bs ++ [b]) = red1 (red row bs) b := by
  unfold red
  rw [List.foldl_append]
  rfl
theorem red_facts {row : List Int} {bs : List (Nat × List Int)} (hb : BasOk row.length bs) (h5 : Lt2 5 row) : ∀ i, (red row (bs.take i)).length = row.length ∧ Lt2 (6 * 2 ^ i - 1) (red row (bs.take i))
  | 0 => ⟨rfl, h5⟩
  | i + 1 => by
    obtain ⟨h1, h2⟩ := red_facts hb h5 i
    cases e : bs[i]? with
    | none =>
      rw [List.getElem?_eq_none_iff] at e
      rw [List.take_of_length_le (by omega)]
      rw [List.take_of_length_le e] at h1 h2
      refine ⟨h1, h2.mono ?_⟩
      rw [Nat.pow_succ]
      omega
    | some b =>
      obtain ⟨b1, b2, b3⟩ := hb.at_ i b e
      rw [take_add e, red_append]
      refine ⟨(red1_length (by rw [b2, h1])).trans h1, (h2.red1 b3).mono ?_⟩
      have := Nat.two_pow_pos i
      rw [Nat.pow_succ]
      omega
theorem atI_nat {α : Type} {l : List α} {k : Nat} : atI l ((k : Nat) : Int) = l[k]? := by
  unfold atI ixN
  by_cases h : k < l.length
  · simp [h]
  · simp [h]
@[simp] theorem atI_0 {α : Type} {x : α} {l : List α} : atI (x :: l) 0 = some x := by
  have := atI_nat (l := x :: l) (k := 0)
  simpa using this
@[simp] theorem atI_1 {α : Type} {x y : α} {l : List α} : atI (x :: y :: l) 1 = some y := by
  have := atI_nat (l := x :: y :: l) (k := 1)
  simpa using this
@[simp] theorem atI_2 {α : Type} {x y z : α} {l : List α} : atI (x :: y :: z :: l) 2 = some z := by
  have := atI_nat (l := x :: y :: z :: l) (k := 2)
  simpa using this
@[simp] theorem atI_3 {α : Type} {x y z u : α} {l : List α} : atI (x :: y :: z :: u :: l) 3 = some u := by
  have := atI_nat (l := x :: y :: z :: u :: l) (k := 3)
  simpa using this
@[simp] theorem atI_4 {α : Type} {x y z u v : α} {l : List α} : atI (x :: y :: z :: u :: v :: l) 4 = some v := by
  have := atI_nat (l := x :: y :: z :: u :: v :: l) (k := 4)
  simpa using this
theorem atI_getD {l : List Int} {k : Nat} (h : k < l.length) : atI (l.map Val.int) ((k : Nat) : Int) = some (.int (l.getD k 0)) := by
  rw [atI_nat, List.getElem?_map, List.getD_eq_getElem?_getD, List.getElem?_eq_getElem h]
  rfl
theorem wIZip_app {env : Env} {s : Store} {wa : WA} {R : DIt → Store → Prop} {E : QE} : wIZip wa env s R E ↔ wa env s (fun vs s1 => match vs with
  | [.tup xs, .tup ys] => R (dZT xs ys) s1
  | [.ref c, .ref d] => (∃ xs, s1 c = some (.lst xs)) ∧ (∃ ys, s1 d = some (.lst ys)) ∧ R (dZL c d) s1
  | _ => False) E := .rfl
theorem zipV_ints {as bs : List Int} : zipV (as.map Val.int) (bs.map Val.int) = (as.zip bs).map fun p => .tup [.int p.1, .int p.2] := by
  unfold zipV
  rw [List.zip_map, List.map_map]
  rfl
theorem lb_map_pairs {env : Env} {s1 : Store} {Q : QV} {te : WE} {vs : List Nat} {it : DIt} {i j : Nat} {ps : List (Int × Int)} {g : Int × Int → Int} (hat : ∀ s2 j, Sub s1 s2 → it.at_ j s2 = some (ps.map fun p => Val.tup [.int p.1, .int p.2])[j]?) (hn : ps.length ≤ 16777216)
    (he : ∀ p ∈ ps, ∀ s2, Sub s1 s2 → ∀ Q1 : QV, Q1 (.int (g p)) s2 → te (((wipeE env vs).set i (some (.int p.1))).set j (some (.int p.2))) s2 Q1 (fun _ _ => False))
    (hd : ∀ p s2, s1 p = none → Sub s1 s2 → s2 p = some (.lst ((ps.map g).map Val.int)) → Q (.ref p) s2) : LB it (.tp [.nm i, .nm j]) wYes te vs env Q s1 := by
  refine LB.map (ps.map fun p => Val.tup [.int p.1, .int p.2]) (fun j s2 k => hat s2 j k) (by rw [List.length_map]; exact hn) (fun x => match x with | .tup [.int a, .int b] => .int (g (a, b)) | _ => .non) (fun x hx s2 k => ?_) fun p s2 h1 h2 h3 => hd p s2 h1 h2 ?_
  · obtain ⟨p, hp, rfl⟩ := List.mem_map.mp hx
    exact ⟨_, by simp, fun Q1 h => he p hp s2 k Q1 (h s2 (Sub.refl _))⟩
  · rw [h3, List.map_map, List.map_map]
    rfl
theorem ok_reduced {xs s Q E} (h : p_reduced xs s Q E) : r_reduced p_shortened (DF Q E) (startE 8 xs) s := by
  obtain ⟨ns, b, bs, rfl, hb, hl, hbl, h5, hbo, q⟩ := h
  simp [r_reduced, wFor_app]
  refine iseq_of (x := .ref b) (fun Q h => by simpa using h) (seqOf_lst hb) (fun _ z => nomatch z) fun it hat => ?_
  refine FB.of (bs.map bv) (fun i env s2 => Sub s s2 ∧ ∃ v2 v3 v4 v5 v6 v7, env = [some (vT (red ns (bs.take i))), some (.ref b), v2, v3, v4, v5, v6, v7]) ⟨Sub.refl _, _, _, _, _, _, _, rfl⟩ (fun i env s2 h => hat _ _ (seqOf_lst (h.1 _ _ hb))) ?_ ?_
  · rintro i y env s2 hi ⟨k2, v2, v3, v4, v5, v6, v7, rfl⟩
    simp only [List.getElem?_map, Option.map_eq_some_iff] at hi
    obtain ⟨c, hc, rfl⟩ := hi
    obtain ⟨c1, c2, c3⟩ := hbo.at_ i c hc
    obtain ⟨f1, f2⟩ := red_facts hbo h5 i
    have hib : i < bs.length := (List.getElem?_eq_some_iff.mp hc).1
    have hpw : 2 ^ i ≤ 2 ^ 7 := Nat.pow_le_pow_right (by decide) (by omega)
    have e1 : atI ((red ns (bs.take i)).map Val.int) ((c.1 : Nat) : Int) = some (.int ((red ns (bs.take i)).getD c.1 0)) := atI_getD (by omega)
    have e2 : atI (c.2.map Val.int) ((c.1 : Nat) : Int) = some (.int (c.2.getD c.1 0)) := atI_getD (by omega)
    rw [take_add hc, red_append]
    generalize hrow : red ns (bs.take i) = row at *
    simp [bv, vT, e1, e2]
    by_cases h0 : row[c.1]?.getD 0 = 0
    · refine .inl ⟨h0, k2, ?_⟩
      unfold red1
      rw [if_neg (by simpa using h0)]
    · refine .inr ⟨h0, ?_⟩
      rw [wLc_app, wIZip_app]
      simp
      have hzl : (row.zip c.2).length = row.length := by rw [List.length_zip, c2, f1, Nat.min_self]
      have hlr : ∀ {z : Int} {l : List Int}, Lt2 (6 * 2 ^ i - 1) l → z ∈ l → z.natAbs.log2 ≤ 800 := fun h hz => Nat.le_trans (log2_lt_of (h _ hz)) (by omega)
      have hlg : ∀ {l : List Int} {k : Nat}, Lt2 (6 * 2 ^ i - 1) l → (l[k]?.getD 0).natAbs.log2 ≤ 800 := fun {l k} h => by
        have := h.getD (j := k)
        rw [List.getD_eq_getElem?_getD] at this
        exact Nat.le_trans (log2_lt_of this) (by omega)
      refine lb_map_pairs (ps := row.zip c.2) (g := fun p => c.2[c.1]?.getD 0 * p.1 - row[c.1]?.getD 0 * p.2) (fun s3 j _ => by rw [dZT_at, zipV_ints]) (by omega) (fun p hp s3 k3 Q1 h => ?_) fun p s3 h1 h2 h3 => ?_
      · have hz := List.of_mem_zip (show (p.1, p.2) ∈ row.zip c.2 from hp)
        simp
        have a1 := hlg (k := c.1) c3
        have a2 := hlg (k := c.1) f2
        have a3 := hlr f2 hz.1
        have a4 := hlr c3 hz.2
        exact ⟨by omega, by omega, h⟩
      · have hred : red1 row c = short ((row.zip c.2).map fun p => c.2[c.1]?.getD 0 * p.1 - row[c.1]?.getD 0 * p.2) := by
          unfold red1
          rw [if_pos (by simpa using h0)]
          simp
        refine ⟨.ref p, (row.zip c.2).map (fun p => c.2[c.1]?.getD 0 * p.1 - row[c.1]?.getD 0 * p.2), rfl, (by intro ys z; cases z), seqOf_lst h3, by rw [List.length_map]; omega, fun n hn => ?_, fun s4 k4 => ⟨(k2.trans h2).trans k4, by rw [hred]⟩⟩
        obtain ⟨⟨x, y⟩, hp, rfl⟩ := List.mem_map.mp hn
        have hz := List.of_mem_zip hp
        have g1 := c3.getD (j := c.1)
        have g2 := f2.getD (j := c.1)
        rw [List.getD_eq_getElem?_getD] at g1 g2
        have := log2_lt_of (comb_lt g1 (f2 x hz.1) g2 (c3 y hz.2))
        exact Nat.lt_of_le_of_lt this (by omega)
  · rintro i env s2 hi ⟨k2, v2, v3, v4, v5, v6, v7, rfl⟩
    rw [List.length_map] at hi
    rw [List.take_of_length_le hi]
    simpa using q s2 k2
theorem nodup_lt : ∀ {m : Nat} {l : List Nat}, l.Nodup → (∀ x ∈ l, x < m) → l.length ≤ m
  | 0, [], _, _ => Nat.le_refl _
  | 0, x :: l, _, h => absurd (h x List.mem_cons_self) (by omega)
  | m + 1, l, hn, h => by
    by_cases hm : m ∈ l
    · have h1 := nodup_lt (m := m) (l := l.erase m) (hn.erase m) fun x hx => by
        have := h x (List.mem_of_mem_erase hx)
        have hne : x ≠ m := ((hn.mem_erase_iff).mp hx).1
        omega
      rw [List.length_erase_of_mem hm] at h1
      omega
    · exact Nat.le_succ_of_le (nodup_lt hn fun x hx => by
        have := h x hx
        have hne : x ≠ m := fun z => hm (z ▸ hx)
        omega)
/-- places of entries that are not 0 -/
def nz (row : List Int) : List Nat := (List.range row.length).filter fun k => decide (row.getD k 0 ≠ 0)
theorem enumV_ints {row : List Int} : enumV (row.map Val.int) = (List.range row.length).map fun k => .tup [.int (k : Nat), .int (row.getD k 0)] := by
  unfold enumV
  apply List.ext_getElem?
  intro j
  rw [List.getElem?_mapIdx, List.getElem?_map, List.getElem?_map]
  by_cases h : j < row.length
  · rw [List.getElem?_eq_getElem h, List.getElem?_range h]
    simp [h]
  · rw [List.getElem?_eq_none (by omega), List.getElem?_eq_none (by simpa using h)]
    rfl
structure IndS where
  n : Nat
  bs : List (Nat × List Int)
  ch : List Nat
def ind1 (st : IndS) (row : List Int) : IndS := match (nz (red row st.bs)) with
  | [] => ⟨st.n + 1, st.bs, st.ch⟩
  | p :: _ => ⟨st.n + 1, st.bs ++ [(p, red row st.bs)], st.ch ++ [st.n]⟩
def indS (rows : List (List Int)) : IndS := rows.foldl ind1 ⟨0, [], []⟩
theorem indS_append {rows : List (List Int)} {row : List Int} : indS (rows ++ [row]) = ind1 (indS rows) row := by
  unfold indS
  rw [List.foldl_append]
  rfl
structure BasInv (m : Nat) (bs : List (Nat × List Int)) : Prop where
  ok : BasOk m bs
  ne : ∀ (j : Nat) (b : Nat × List Int), bs[j]? = some b → b.2.getD b.1 0 ≠ 0
  zero : ∀ (i j : Nat) (a b : Nat × List Int), i < j → bs[i]? = some a → bs[j]? = some b → b.2.getD a.1 0 = 0
theorem BasInv.length_le {m : Nat} {bs : List (Nat × List Int)} (h : BasInv m bs) : bs.length ≤ m := by
  have : (bs.map (·.1)).length ≤ m := nodup_lt (by
    rw [List.nodup_iff_pairwise_ne, List.pairwise_map, List.pairwise_iff_getElem]
    intro i j hi hj hij e
    have h1 := h.zero i j _ _ hij (List.getElem?_eq_getElem hi) (List.getElem?_eq_getElem hj)
    rw [e] at h1
    exact h.ne j _ (List.getElem?_eq_getElem hj) h1) fun x hx => by
      obtain ⟨b, hb, rfl⟩ := List.mem_map.mp hx
      obtain ⟨j, hj⟩ := List.mem_iff_getElem?.mp hb
      exact (h.ok.at_ j b hj).1
  rwa [List.length_map] at this
theorem zip_get {α β : Type} : ∀ {l : List α} {m : List β} {k : Nat}, (l.zip m)[k]? = (l[k]?).bind fun x => (m[k]?).map fun y => (x, y)
  | [], m, k => by simp
  | x :: l, [], k => by simp
  | x :: l, y :: m, 0 => rfl
  | x :: l, y :: m, k + 1 => by simpa using zip_get (l := l) (m := m) (k := k)
theorem zip_zero {l m : List Int} {a b : Int} {k : Nat} (h : a * l.getD k 0 - b * m.getD k 0 = 0) : ((l.zip m).map fun p => a * p.1 - b * p.2).getD k 0 = 0 := by
  rw [List.getD_eq_getElem?_getD, List.getElem?_map, zip_get]
  rw [List.getD_eq_getElem?_getD, List.getD_eq_getElem?_getD] at h
  cases e1 : l[k]? with
  | none => rfl
  | some x =>
    cases e2 : m[k]? with
    | none => rfl
    | some y =>
      rw [e1, e2] at h
      exact h
theorem red1_zero {row : List Int} {b : Nat × List Int} {k : Nat} (h1 : row.getD k 0 = 0) (h2 : b.2.getD k 0 = 0) : (red1 row b).getD k 0 = 0 := by
  unfold red1
  split
  · exact short_getD _ _ (zip_zero (by rw [h1, h2]; omega))
  · exact h1
theorem red1_own {row : List Int} {b : Nat × List Int} : (red1 row b).getD b.1 0 = 0 := by
  unfold red1
  split
  · exact short_getD _ _ (zip_zero (by rw [Int.mul_comm]; omega))
  · rename_i h
    simpa using h
theorem red_zero {m : Nat} {row : List Int} {bs : List (Nat × List Int)} (hb : BasInv m bs) : ∀ i, ∀ j a, j < i → bs[j]? = some a → (red row (bs.take i)).getD a.1 0 = 0
  | 0, j, a, h, _ => absurd h (by omega)
  | i + 1, j, a, h, ha => by
    cases e : bs[i]? with
    | none =>
      rw [List.getElem?_eq_none_iff] at e
      have hj := (List.getElem?_eq_some_iff.mp ha).1
      have := red_zero (row := row) hb i j a (by omega) ha
      rw [List.take_of_length_le e] at this
      rwa [List.take_of_length_le (by omega)]
    | some b =>
      rw [take_add e, red_append]
      by_cases hj : j = i
      · subst hj
        rw [ha] at e
        cases e
        exact red1_own
      · exact red1_zero (red_zero hb i j a (by omega) ha) (hb.zero j i a b (by omega) ha e)
theorem nz_mem {row : List Int} {k : Nat} : k ∈ nz row ↔ k < row.length ∧ row.getD k 0 ≠ 0 := by
  unfold nz
  rw [List.mem_filter, List.mem_range]
  simp
theorem BasInv.step {m : Nat} {row : List Int} {bs : List (Nat × List Int)} {p : Nat} {r : List Nat} (hb : BasInv m bs) (hl : row.length = m) (h5 : Lt2 5 row) (hp : nz (red row bs) = p :: r) : BasInv m (bs ++ [(p, red row bs)]) := by
  subst hl
  obtain ⟨f1, f2⟩ := red_facts hb.ok h5 bs.length
  rw [List.take_length] at f1 f2
  have hm : p ∈ nz (red row bs) := by rw [hp]; exact List.mem_cons_self
  rw [nz_mem, f1] at hm
  have cut : ∀ {j : Nat} {b : Nat × List Int}, (bs ++ [(p, red row bs)])[j]? = some b → (j < bs.length ∧ bs[j]? = some b) ∨ (j = bs.length ∧ b = (p, red row bs)) := fun {j b} h => by
    rcases Nat.lt_trichotomy j bs.length with h1 | h1 | h1
    · rw [List.getElem?_append_left h1] at h
      exact .inl ⟨h1, h⟩
    · subst h1
      simp at h
      exact .inr ⟨rfl, h.symm⟩
    · rw [List.getElem?_eq_none (by simp; omega)] at h
      cases h
  refine ⟨⟨fun j b h => ?_⟩, fun j b h => ?_, fun i j a b hij ha h => ?_⟩
  · rcases cut h with ⟨_, h⟩ | ⟨rfl, rfl⟩
    · exact hb.ok.at_ j b h
    · exact ⟨hm.1, f1, f2⟩
  · rcases cut h with ⟨_, h⟩ | ⟨rfl, rfl⟩
    · exact hb.ne j b h
    · exact hm.2
  · rcases cut h with ⟨hj, h⟩ | ⟨rfl, rfl⟩
    · rw [List.getElem?_append_left (by omega)] at ha
      exact hb.zero i j a b hij ha h
    · rw [List.getElem?_append_left hij] at ha
      have := red_zero (row := row) hb bs.length i a hij ha
      rwa [List.take_length] at this
theorem indS_inv {m : Nat} {rows : List (List Int)} (h : ∀ r ∈ rows, r.length = m ∧ Lt2 5 r) : BasInv m (indS rows).bs ∧ (indS rows).n = rows.length ∧ (indS rows).ch.length ≤ rows.length := by
  revert h
  refine rev_ind (P := fun rows => (∀ r ∈ rows, r.length = m ∧ Lt2 5 r) → BasInv m (indS rows).bs ∧ (indS rows).n = rows.length ∧ (indS rows).ch.length ≤ rows.length) (fun _ => ?_) (fun l a ih h => ?_) rows
  · refine ⟨⟨⟨fun j b h => ?_⟩, fun j b h => ?_, fun i j a b _ h _ => ?_⟩, rfl, Nat.le_refl _⟩ <;> simp [indS] at h
  · obtain ⟨h1, h2, h4⟩ := ih fun r hr => h r (List.mem_append_left _ hr)
    obtain ⟨a1, a2⟩ := h a (List.mem_append_right _ List.mem_cons_self)
    rw [indS_append]
    unfold ind1
    split
    · exact ⟨h1, by simp [h2], by simp; omega⟩
    · rename_i p r hp
      exact ⟨h1.step a1 a2 hp, by simp [h2], by simp; omega⟩
theorem wIEnum_app {env : Env} {s : Store} {wa : WA} {R : DIt → Store → Prop} {E : QE} : wIEnum wa env s R E ↔ wa env s (fun vs s1 => match vs with
  | [.tup xs] => R (dET xs) s1
  | [.ref c] => (∃ xs, s1 c = some (.lst xs)) ∧ R (dEL c) s1
  | _ => False) E := .rfl
theorem ienum_of {wa : WA} {env : Env} {s : Store} {R : DIt → Store → Prop} {E : QE} {x : Val} {xs : List Val} (ha : ∀ Q : List Val → Store → Prop, Q [x] s → wa env s Q E) (h : seqOf s x = some xs) (hns : ∀ ys, x ≠ .scr ys)
    (hR : ∀ it : DIt, (∀ s2 i, seqOf s2 x = some xs → it.at_ i s2 = some (enumV xs)[i]?) → R it s) : wIEnum wa env s R E := by
  rw [wIEnum_app]
  refine ha _ ?_
  cases x with
  | tup ys => cases h; exact hR _ fun _ _ _ => dET_at
  | ref p => exact ⟨⟨_, seqOf_ref h⟩, hR _ fun s2 i k => dEL_at (seqOf_ref k)⟩
  | scr ys => exact absurd rfl (hns ys)
  | _ => cases h
theorem enumV_get {xs : List Val} {i : Nat} {y : Val} (h : (enumV xs)[i]? = some y) : ∃ x, xs[i]? = some x ∧ y = .tup [.int (i : Nat), x] := by
  unfold enumV at h
  rw [List.getElem?_mapIdx] at h
  cases e : xs[i]? with
  | none => rw [e] at h; cases h
  | some x => rw [e] at h; cases h; exact ⟨x, rfl, rfl⟩
theorem enumV_length {xs : List Val} : (enumV xs).length = xs.length := by unfold enumV; rw [List.length_mapIdx]
theorem mAppend_of {s : Store} {l : Addr} {ys : List Val} {y : Val} {Q : QV} (h : s l = some (.lst ys)) : mAppend (.ref l) [y] s Q ↔ ys.length < 16777216 ∧ Q .non (updS s l (.lst (ys ++ [y]))) := by
  unfold mAppend
  constructor
  · rintro ⟨l', zs, z, e1, e2, e3, h1, q⟩
    cases e1
    cases e2
    rw [h] at e3
    cases e3
    exact ⟨h1, q⟩
  · exact fun ⟨h1, q⟩ => ⟨l, ys, y, rfl, rfl, h, h1, q⟩
theorem tyS_list {s : Store} {l : Addr} {ys : List Val} (h : s l = some (.lst ys)) : tyS "list" (.ref l) s := .inl ⟨rfl, l, ys, rfl, h⟩
def p_independent : PT := fun xs s Q E => ∃ (r : Addr) (m : Nat) (rows : List (List Int)), xs = [.ref r] ∧ s r = some (.lst (rows.map vT)) ∧ m ≤ 8 ∧ rows.length ≤ 1000 ∧ (∀ r ∈ rows, r.length = m ∧ Lt2 5 r) ∧
  ∀ p s', s p = none → Sub s s' → s' p = some (.lst ((indS rows).ch.map fun k => .int (k : Nat))) → Q (.ref p) s'
theorem ok_independent {xs s Q E} (h : p_independent xs s Q E) : r_independent p_reduced (DF Q E) (startE 9 xs) s := by
  obtain ⟨r, m, rows, rfl, hr, hm, hl, hrow, q⟩ := h
  simp [r_independent, wFor_app]
  intro b hb c hc
  have hbc : c ≠ b := fun z => by rw [z] at hc; simp at hc
  rw [updS_ne hbc] at hc
  have s1 : Sub s (updS (updS s b (.lst [])) c (.lst [])) := (Sub.new hb).upd hc
  refine ienum_of (x := .ref r) (fun Q h => by simpa using h) (seqOf_lst (s1 _ _ hr)) (fun _ z => nomatch z) fun it hat => ?_
  refine FB.of (enumV (rows.map vT)) (fun i env s2 => Sub s s2 ∧ s2 b = some (.lst ((indS (rows.take i)).bs.map bv)) ∧ s2 c = some (.lst ((indS (rows.take i)).ch.map fun k => .int (k : Nat))) ∧
    ∃ v3 v4 v5 v6 v7 v8, env = [some (.ref r), some (.ref b), some (.ref c), v3, v4, v5, v6, v7, v8]) ⟨s1, ?_, ?_, _, _, _, _, _, _, rfl⟩ ?_ ?_ ?_
  · rw [updS_ne hbc.symm]
    simp
    rfl
  · simp
    rfl
  · rintro i env s2 ⟨k2, _⟩
    exact hat _ _ (seqOf_lst (k2 _ _ hr))
  · rintro i y env s2 hi ⟨k2, h1, h2, v3, v4, v5, v6, v7, v8, rfl⟩
    obtain ⟨x, hx, rfl⟩ := enumV_get hi
    simp only [List.getElem?_map, Option.map_eq_some_iff] at hx
    obtain ⟨row, hx, rfl⟩ := hx
    obtain ⟨w1, w2⟩ := hrow row (List.mem_of_getElem? hx)
    obtain ⟨i1, i2, i3⟩ := indS_inv (m := m) (rows := rows.take i) fun r h => hrow r (List.mem_of_mem_take h)
    have hlen := i1.length_le
    rw [take_add hx, indS_append]
    simp
    rw [cTuple_of (ys := row.map Val.int) (by simp [vT])]
    refine ⟨row, b, _, rfl, h1, by omega, by omega, w2, by rw [w1]; exact i1.ok, fun s3 k3 => ?_⟩
    have b3 := k3 _ _ h1
    have c3 := k3 _ _ h2
    simp [wLc_app]
    generalize hrest : red row (indS (rows.take i)).bs = rest
    have hrl : rest.length ≤ 1000 := by
      have := (red_facts (row := row) (by rw [w1]; exact i1.ok) w2 (indS (rows.take i)).bs.length).1
      rw [List.take_length, hrest] at this
      omega
    refine ienum_of (x := vT rest) (fun Q h => by simpa using h) (xs := rest.map Val.int) rfl (fun _ z => nomatch z) fun it2 hat2 => ?_
    refine LB.of (enumV (rest.map Val.int)) (fun j s4 _ => hat2 s4 j rfl) (by rw [enumV_length, List.length_map]; omega) (fun y => match y with | .tup [_, .int e] => !(e == 0) | _ => false) (fun y => match y with | .tup [k, _] => k | _ => .non) ?_ ?_ ?_
    · intro y hy s4 k4
      rw [enumV_ints] at hy
      obtain ⟨k, _, rfl⟩ := List.mem_map.mp hy
      exact ⟨_, by simp; rfl, fun Q1 h => by
        have := h s4 (Sub.refl _)
        simp at this ⊢
        by_cases h0 : rest[k]?.getD 0 = 0
        · rw [h0] at this
          exact .inl ⟨h0, this⟩
        · rw [beq_eq_false_iff_ne.mpr h0] at this
          exact .inr ⟨h0, this⟩⟩
    · intro y hy _ s4 k4 env3 he Q1 h
      rw [enumV_ints] at hy
      obtain ⟨k, _, rfl⟩ := List.mem_map.mp hy
      simp at he
      subst he
      simpa using h s4 (Sub.refl _)
    · intro p s4 hp k4 h4
      have e4 : s4 p = some (.lst ((nz rest).map fun k => Val.int (k : Nat))) := by
        rw [h4, enumV_ints, List.filter_map, List.map_map]
        unfold nz
        congr 3
        apply List.filter_congr
        intro k _
        rw [Bool.eq_iff_iff]
        simp
      have b4 := k4 _ _ b3
      have c4 := k4 _ _ c3
      rw [cLen_of (seqOf_lst e4)]
      simp
      unfold ind1
      rw [hrest]
      cases hnz : nz rest with
      | nil =>
        exact .inl ⟨by simp, (k2.trans k3).trans k4, b4, c4⟩
      | cons z zs =>
        refine .inr ⟨by simp, tyS_list b4, ?_⟩
        rw [oIx_lst e4]
        refine ⟨.int (z : Nat), by rw [hnz]; simp, ?_⟩
        rw [mAppend_of b4]
        refine ⟨by simp; omega, ?_⟩
        have c5 : updS s4 b (.lst ((indS (rows.take i)).bs.map bv ++ [.tup [.int (z : Nat), vT rest]])) c = some (.lst ((indS (rows.take i)).ch.map fun k => .int (k : Nat))) := by rw [updS_ne hbc]; exact c4
        refine ⟨tyS_list c5, ?_⟩
        rw [mAppend_of c5]
        have hti : (rows.take i).length ≤ 1000 := by rw [List.length_take]; omega
        have hil : i < rows.length := (List.getElem?_eq_some_iff.mp hx).1
        refine ⟨by simp; omega, ((((k2.trans k3).trans k4).upd hb).upd hc), ?_, ?_⟩
        · rw [updS_ne hbc.symm, updS_self]
          simp [bv]
        · rw [updS_self]
          have : (indS (rows.take i)).n = i := by rw [i2, List.length_take]; omega
          simp [this]
  · rintro i env s2 hi ⟨k2, h1, h2, v3, v4, v5, v6, v7, v8, rfl⟩
    rw [enumV_length, List.length_map] at hi
    rw [List.take_of_length_le hi] at h2
    simpa using q c s2 hc k2 h2
end Y
set_option Elab.async false
set_option linter.all false
set_option maxRecDepth 100000
set_option maxHeartbeats 4000000
set_option autoImplicit false
/-! contracts: charts -/
namespace Y
open PySem L2
abbrev Edge := Nat × Nat × Nat
def ev (e : Edge) : Val := .tup [.int (e.1 : Nat), .int (e.2.1 : Nat), .int (e.2.2 : Nat)]
def nV (k : Nat) : Val := .int (k : Nat)
def cnt (a : Nat) (w : List Nat) : List Int := (List.range a).map fun k => ((w.count k : Nat) : Int)
/-! count -/
def p_count : PT := fun xs s Q E => ∃ (a : Nat) (w : List Nat), xs = [.int (a : Nat), .tup (w.map nV)] ∧ a ≤ 1000 ∧ (∀ k ∈ w, k < a) ∧ ∀ s', Sub s s' → Q (vT (cnt a w)) s'
theorem rep_flat {α : Type} (x : α) : ∀ k : Nat, (List.replicate k [x]).flatten = List.replicate k x
  | 0 => rfl
  | k + 1 => by rw [List.replicate_succ, List.flatten_cons, rep_flat x k]; rfl
theorem cnt_nil (a : Nat) : (cnt a []).map Val.int = List.replicate a (.int 0) := by
  unfold cnt
  rw [List.map_map]
  apply List.ext_getElem?
  intro j
  rw [List.getElem?_map, List.getElem?_replicate]
  by_cases h : j < a
  · rw [List.getElem?_range h, if_pos h]; rfl
  · rw [List.getElem?_eq_none (by simpa using h), if_neg h]; rfl
theorem cnt_length (a : Nat) (w : List Nat) : (cnt a w).length = a := by unfold cnt; simp
theorem cnt_get {a k : Nat} {w : List Nat} (h : k < a) : (cnt a w)[k]? = some ((w.count k : Nat) : Int) := by
  unfold cnt
  rw [List.getElem?_map, List.getElem?_range h]
  rfl
theorem cnt_add {a k : Nat} {w : List Nat} (h : k < a) : (cnt a w).set k ((w.count k : Nat) + 1 : Int) = cnt a (w ++ [k]) := by
  apply List.ext_getElem?
  intro j
  by_cases hj : j < a
  · rw [cnt_get hj]
    by_cases e : k = j
    · subst e
      rw [List.getElem?_set_self (by rw [cnt_length]; exact hj)]
      simp [List.count_append]
    · rw [List.getElem?_set_ne e, cnt_get hj]
      simp [List.count_append, List.count_cons, e]
  · rw [List.getElem?_eq_none (by rw [List.length_set, cnt_length]; omega), List.getElem?_eq_none (by rw [cnt_length]; omega)]
theorem ok_count {xs s Q E} (h : p_count xs s Q E) : r_count (DF Q E) (startE 4 xs) s := by
  obtain ⟨a, w, rfl, ha, hw, q⟩ := h
  simp [r_count, wFor_app]
  intro l0 hl0
  refine ⟨by omega, by omega, by omega, fun p hp => ?_⟩
  rw [← cnt_nil]
  have hpl : p ≠ l0 := fun z => by rw [z] at hp; simp at hp
  rw [updS_ne hpl] at hp
  refine iseq_of (x := .tup (w.map nV)) (fun Q h => by simpa using h) rfl (fun _ z => nomatch z) fun it hat => ?_
  refine FB.of (w.map nV) (fun i env s2 => Sub s s2 ∧ s2 p = some (.lst ((cnt a (w.take i)).map Val.int)) ∧ ∃ v, env = [some (.int (a : Nat)), some (.tup (w.map nV)), some (.ref p), v]) ⟨(Sub.new hl0).upd hp, by simp, _, rfl⟩ (fun i env s2 h => hat _ _ rfl) ?_ ?_
  · rintro i y env s2 hi ⟨k2, h1, v, rfl⟩
    simp only [List.getElem?_map, Option.map_eq_some_iff] at hi
    obtain ⟨n, hn, rfl⟩ := hi
    have hna := hw n (List.mem_of_getElem? hn)
    simp [nV]
    refine ⟨n, rfl, _, h1, ?_⟩
    simp [cnt_get hna, h1, cnt_length, hna]
    refine ⟨k2.upd hp, ?_⟩
    rw [take_add hn, ← cnt_add hna, List.map_set]
    have hg := cnt_get (w := w.take i) hna
    rw [List.getElem?_eq_getElem (by rw [cnt_length]; exact hna)] at hg
    rw [Option.some.inj hg]
  · rintro i env s2 hi ⟨k2, h1, v, rfl⟩
    rw [List.length_map] at hi
    rw [List.take_of_length_le hi] at h1
    simp
    rw [cTuple_of (seqOf_lst h1)]
    exact q s2 k2
/-! round_row -/
def rrow (a : List Int) (b : List Int) (k : Nat) : List Int :=
  let r := (a.zip b).map fun p => p.1 - p.2
  r.set k (r.getD k 0 + 1)
def p_round_row : PT := fun xs s Q E => ∃ (p : Addr) (pts : List (List Int)) (e : Edge) (m : Nat) (a b : List Int), xs = [.ref p, ev e] ∧ s p = some (.lst (pts.map vT)) ∧ pts[e.1]? = some a ∧ pts[e.2.2]? = some b ∧ a.length = m ∧ b.length = m ∧ e.2.1 < m ∧ m ≤ 1000 ∧
  ∀ s', Sub s s' → Q (vT (rrow a b e.2.1)) s'
theorem ok_round_row {xs s Q E} (h : p_round_row xs s Q E) : r_round_row (DF Q E) (startE 8 xs) s := by
  obtain ⟨p, pts, ⟨x, k, y⟩, m, a, b, rfl, hp, ha, hb, la, lb, hk, hm, q⟩ := h
  simp only at ha hb hk
  simp [r_round_row, ev, wLc_app, wIZip_app]
  rw [oIx_lst hp, atI_nat]
  refine ⟨vT a, by rw [List.getElem?_map, ha]; rfl, ?_⟩
  rw [oIx_lst hp, atI_nat]
  refine ⟨vT b, by rw [List.getElem?_map, hb]; rfl, ?_⟩
  simp only [vT]
  have hzl : (a.zip b).length = m := by rw [List.length_zip, la, lb, Nat.min_self]
  refine lb_map_pairs (ps := a.zip b) (g := fun p => p.1 - p.2) (fun s3 j _ => by rw [dZT_at, zipV_ints]) (by omega) (fun p hp s3 k3 Q1 h => ?_) fun l s3 h1 h2 h3 => ?_
  · simpa using h
  · have hkl : k < ((a.zip b).map fun p => p.1 - p.2).length := by rw [List.length_map]; omega
    simp
    refine ⟨k, rfl, _, h3, ?_⟩
    refine ⟨.int (((a.zip b).map fun p => p.1 - p.2)[k]), by rw [List.getElem?_map, List.getElem?_eq_getElem hkl]; rfl, ?_⟩
    simp [h3]
    refine ⟨by rw [List.length_zip] at hzl; omega, ?_⟩
    rw [cTuple_of (seqOf_lst updS_self)]
    have e : (((a.zip b).map (Val.int ∘ fun p => p.1 - p.2)).set k (.int (a[k] - b[k] + 1))) = (rrow a b k).map Val.int := by
      unfold rrow
      simp only [List.getD_eq_getElem?_getD, List.getElem?_eq_getElem hkl, Option.getD_some, List.getElem_map, List.getElem_zip, List.map_set, List.map_map]
    rw [e]
    exact q _ (h2.upd h1)
/-! edge_table -/
def kE (a b : Nat) : Val := .tup [.int (a : Nat), .int (b : Nat)]
def tE (e : Edge) : Val × Val := (kE e.1 e.2.1, nV e.2.2)
def tgt (es : List Edge) (a b : Nat) : Option Nat := (es.find? fun e => e.1 == a && e.2.1 == b).map (·.2.2)
theorem kE_inj {a b c d : Nat} : kE a b = kE c d ↔ a = c ∧ b = d := by
  unfold kE
  simp
  omega
theorem isKey_kE {a b : Nat} : isKey 1 (kE a b) := .inr ⟨rfl, [.inl (a : Nat), .inl (b : Nat)], rfl⟩
open Classical in
theorem dlook_tE {es : List Edge} {a b : Nat} : dlook (es.map tE) (kE a b) = (tgt es a b).map nV := by
  unfold dlook tgt
  rw [List.find?_map, Option.map_map, Option.map_map]
  have : (fun p : Val × Val => decide (p.1 = kE a b)) ∘ tE = fun e : Edge => e.1 == a && e.2.1 == b := by
    funext e
    show decide (kE e.1 e.2.1 = kE a b) = _
    rw [Bool.eq_iff_iff]
    simp [kE_inj]
  rw [this]
  rfl
theorem tgt_none {es : List Edge} {a b : Nat} (h : ∀ e ∈ es, ¬(e.1 = a ∧ e.2.1 = b)) : tgt es a b = none := by
  unfold tgt
  rw [List.find?_eq_none.mpr (fun e he => by simpa using h e he)]
  rfl
theorem dput_tE {es : List Edge} {e : Edge} (h : ∀ f ∈ es, ¬(f.1 = e.1 ∧ f.2.1 = e.2.1)) : dput (es.map tE) (kE e.1 e.2.1) (nV e.2.2) = (es ++ [e]).map tE := by
  unfold dput
  rw [if_neg]
  · simp [tE]
  · simp only [List.any_eq_true, List.mem_map, decide_eq_true_eq, not_exists, not_and]
    rintro _ ⟨f, hf, rfl⟩ z
    exact h f hf (kE_inj.mp z)
theorem oIn_tE {neg : Bool} {s : Store} {d : Addr} {es : List Edge} {a b : Nat} {Q : QV} (h : s d = some (.dic 1 (es.map tE))) : oIn neg (.tup [.int (a : Nat), .int (b : Nat)]) (.ref d) s Q ↔ Q (.bl (if neg then !(tgt es a b).isSome else (tgt es a b).isSome)) s := by
  show oIn neg (kE a b) (.ref d) s Q ↔ _
  unfold oIn
  simp only [h, dlook_tE, isKey_kE, true_and, Option.isSome_map]
structure EsOk (a n : Nat) (es : List Edge) : Prop where
  rg : ∀ e ∈ es, e.1 < n ∧ e.2.1 < a ∧ e.2.2 < n
  det : es.Pairwise fun e f => ¬(e.1 = f.1 ∧ e.2.1 = f.2.1)
theorem EsOk.new {a n : Nat} {es : List Edge} (h : EsOk a n es) {i : Nat} {e : Edge} (he : es[i]? = some e) : ∀ f ∈ es.take i, ¬(f.1 = e.1 ∧ f.2.1 = e.2.1) := by
  intro f hf
  obtain ⟨j, hj⟩ := List.mem_iff_getElem?.mp hf
  rw [List.getElem?_take] at hj
  split at hj
  · rename_i hji
    obtain ⟨h1, rfl⟩ := List.getElem?_eq_some_iff.mp hj
    obtain ⟨h2, rfl⟩ := List.getElem?_eq_some_iff.mp he
    exact List.pairwise_iff_getElem.mp h.det j i h1 h2 hji
  · cases hj
def p_edge_table : PT := fun xs s Q E => ∃ (a n : Nat) (x : Val) (es : List Edge), xs = [.int (a : Nat), .int (n : Nat), x] ∧ seqOf s x = some (es.map ev) ∧ (∀ ys, x ≠ .scr ys) ∧ EsOk a n es ∧ es.length ≤ 1000 ∧
  ∀ p s', s p = none → Sub s s' → s' p = some (.dic 1 (es.map tE)) → Q (.ref p) s'
theorem oSet_dic {s : Store} {d : Addr} {t : Nat} {kvs : List (Val × Val)} {k v : Val} {R : Store → Prop} (h : s d = some (.dic t kvs)) : oSet (.ref d) k v s R ↔ isKey t k ∧ kvs.length < 16777216 ∧ R (updS s d (.dic t (dput kvs k v))) := by
  unfold oSet
  simp only [h]
theorem oSet_lst {s : Store} {d : Addr} {xs : List Val} {k : Int} {v : Val} {R : Store → Prop} (h : s d = some (.lst xs)) : oSet (.ref d) (.int k) v s R ↔ ∃ j, ixN xs.length k = some j ∧ R (updS s d (.lst (xs.set j v))) := by
  unfold oSet
  simp only [h]
  exact ⟨fun ⟨_, j, e, h1, h2⟩ => by cases e; exact ⟨j, h1, h2⟩, fun ⟨j, h1, h2⟩ => ⟨k, j, rfl, h1, h2⟩⟩
theorem ok_edge_table {xs s Q E} (h : p_edge_table xs s Q E) : r_edge_table (DF Q E) (startE 9 xs) s := by
  obtain ⟨a, n, x, es, rfl, hx, hns, ok, hl, q⟩ := h
  simp [r_edge_table, wFor_app]
  intro d hd
  refine ienum_of (x := x) (fun Q h => by simpa using h) ((Sub.new hd).seq hx) hns fun it hat => ?_
  refine FB.of (enumV (es.map ev)) (fun i env s2 => Sub s s2 ∧ s2 d = some (.dic 1 ((es.take i).map tE)) ∧ ∃ v4 v5 v6 v7 v8, env = [some (.int (a : Nat)), some (.int (n : Nat)), some x, some (.ref d), v4, v5, v6, v7, v8])
    ⟨Sub.new hd, updS_self, _, _, _, _, _, rfl⟩ (fun i env s2 h => hat _ _ (h.1.seq hx)) ?_ ?_
  · rintro i y env s2 hi ⟨k2, h1, v4, v5, v6, v7, v8, rfl⟩
    obtain ⟨x, hx, rfl⟩ := enumV_get hi
    simp only [List.getElem?_map, Option.map_eq_some_iff] at hx
    obtain ⟨e, he, rfl⟩ := hx
    obtain ⟨e1, e2, e3⟩ := ok.rg e (List.mem_of_getElem? he)
    have hnew := ok.new he
    have hti : (es.take i).length ≤ 1000 := by rw [List.length_take]; omega
    simp [ev, e1, e2, e3, Nat.not_le.mpr e1, Nat.not_le.mpr e2, Nat.not_le.mpr e3]
    rw [oIn_tE h1, tgt_none (fun f hf => hnew f hf)]
    simp
    rw [oSet_dic h1]
    refine ⟨isKey_kE, by rw [List.length_map]; omega, k2.upd hd, ?_⟩
    rw [updS_self, ← List.map_take, take_add he, ← dput_tE hnew]
    rfl
  · rintro i env s2 hi ⟨k2, h1, v4, v5, v6, v7, v8, rfl⟩
    rw [enumV_length, List.length_map] at hi
    rw [List.take_of_length_le hi] at h1
    simpa using q d s2 hd k2 h1
/-! find_trails, as the text runs -/
structure FT where
  tr : List (Option (List Nat))
  ord : List Nat
def ft1 (x : Nat) (st : FT) (p : Edge × Nat) : FT :=
  if p.1.1 = x ∧ st.tr.getD p.1.2.2 none = none then ⟨st.tr.set p.1.2.2 (some ((st.tr.getD x none).getD [] ++ [p.2])), st.ord ++ [p.1.2.2]⟩ else st
def ftRow (es : List Edge) (x : Nat) (st : FT) : FT := es.zipIdx.foldl (ft1 x) st
def ft0 (n : Nat) : FT := ⟨(List.replicate n none).set 0 (some []), [0]⟩
def ftAt (n : Nat) (es : List Edge) : Nat → FT
  | 0 => ft0 n
  | i + 1 => ftRow es ((ftAt n es i).ord.getD i 0) (ftAt n es i)
/-- what holds of it -/
structure FTInv (n : Nat) (es : List Edge) (st : FT) : Prop where
  len : st.tr.length = n
  nd : st.ord.Nodup
  iff : ∀ t, t ∈ st.ord ↔ t < n ∧ st.tr.getD t none ≠ none
  zero : 0 ∈ st.ord
  tl : ∀ (t : Nat) (l : List Nat), st.tr.getD t none = some l → l.length < st.ord.length ∧ ∀ k ∈ l, k < es.length
theorem FTInv.le {n : Nat} {es : List Edge} {st : FT} (h : FTInv n es st) : st.ord.length ≤ n := nodup_lt h.nd fun x hx => ((h.iff x).mp hx).1
theorem getD_set {α : Type} {l : List α} {i j : Nat} {x d : α} (h : i < l.length) : (l.set i x).getD j d = if i = j then x else l.getD j d := by
  rw [List.getD_eq_getElem?_getD, List.getD_eq_getElem?_getD]
  by_cases e : i = j
  · subst e
    rw [List.getElem?_set_self h, if_pos rfl]
    rfl
  · rw [List.getElem?_set_ne e, if_neg e]
theorem ft0_inv {n : Nat} {es : List Edge} (h : 0 < n) : FTInv n es (ft0 n) := by
  have hl : (List.replicate n (none : Option (List Nat))).length = n := List.length_replicate ..
  have g : ∀ t, (ft0 n).tr.getD t none = if 0 = t then some [] else none := fun t => by
    unfold ft0
    rw [getD_set (by omega)]
    split
    · rfl
    · rw [List.getD_eq_getElem?_getD, List.getElem?_replicate]
      split <;> rfl
  refine ⟨by simp [ft0], by simp [ft0], fun t => ?_, by simp [ft0], fun t l e => ?_⟩
  · rw [g]
    show t ∈ [0] ↔ _
    by_cases e : 0 = t
    · subst e
      simp [h]
    · rw [if_neg e]
      simp
      omega
  · rw [g] at e
    split at e
    · cases e
      exact ⟨by simp [ft0], fun k hk => nomatch hk⟩
    · cases e
theorem ft1_inv {n : Nat} {es : List Edge} {st : FT} {x : Nat} {p : Edge × Nat} (h : FTInv n es st) (hx : x ∈ st.ord) (hp : p.2 < es.length) (ht : p.1.2.2 < n) : FTInv n es (ft1 x st p) := by
  unfold ft1
  split
  · rename_i c
    obtain ⟨c1, c2⟩ := c
    have hlt : p.1.2.2 < st.tr.length := by rw [h.len]; exact ht
    have hnew : p.1.2.2 ∉ st.ord := fun z => ((h.iff _).mp z).2 c2
    obtain ⟨l, hl⟩ : ∃ l, st.tr.getD x none = some l := by
      cases e : st.tr.getD x none with
      | none => exact absurd e ((h.iff x).mp hx).2
      | some l => exact ⟨l, rfl⟩
    obtain ⟨l1, l2⟩ := h.tl x l hl
    refine ⟨by rw [List.length_set]; exact h.len, ?_, fun t => ?_, List.mem_append_left _ h.zero, fun t m e => ?_⟩
    · rw [List.nodup_append]
      exact ⟨h.nd, by simp, fun a ha b hb => by rw [List.mem_singleton] at hb; subst hb; exact fun z => hnew (z ▸ ha)⟩
    · rw [getD_set hlt, List.mem_append, List.mem_singleton]
      by_cases e : p.1.2.2 = t
      · subst e
        simp [ht]
      · rw [if_neg e, h.iff t]
        exact ⟨fun z => z.elim id fun z => absurd z.symm e, .inl⟩
    · rw [getD_set hlt] at e
      rw [List.length_append, List.length_singleton]
      by_cases e2 : p.1.2.2 = t
      · rw [if_pos e2, hl] at e
        cases e
        refine ⟨by simp; omega, fun k hk => ?_⟩
        rcases List.mem_append.mp hk with hk | hk
        · exact l2 k hk
        · rw [List.mem_singleton.mp hk]
          exact hp
      · rw [if_neg e2] at e
        obtain ⟨h1, h2⟩ := h.tl t m e
        exact ⟨by omega, h2⟩
  · exact h
theorem ft1_sub {st : FT} {x : Nat} {p : Edge × Nat} : ∀ t ∈ st.ord, t ∈ (ft1 x st p).ord := fun t h => by
  unfold ft1
  split
  · exact List.mem_append_left _ h
  · exact h
theorem ft1_pre {st : FT} {x : Nat} {p : Edge × Nat} : ∃ r, (ft1 x st p).ord = st.ord ++ r := by
  unfold ft1
  split
  · exact ⟨_, rfl⟩
  · exact ⟨[], by simp⟩
theorem ftRow_facts {n : Nat} {es : List Edge} {x : Nat} : ∀ (L : List (Edge × Nat)) {st : FT}, (∀ p ∈ L, p.2 < es.length ∧ p.1.2.2 < n) → FTInv n es st → x ∈ st.ord →
    FTInv n es (L.foldl (ft1 x) st) ∧ (∃ r, (L.foldl (ft1 x) st).ord = st.ord ++ r) ∧ ∀ p ∈ L, p.1.1 = x → p.1.2.2 ∈ (L.foldl (ft1 x) st).ord
  | [], st, _, h, _ => ⟨h, ⟨[], by simp⟩, fun p hp => nomatch hp⟩
  | p :: L, st, hL, h, hx => by
    obtain ⟨hp1, hp2⟩ := hL p List.mem_cons_self
    have h1 := ft1_inv h hx hp1 hp2
    obtain ⟨i1, ⟨r2, i2⟩, i3⟩ := ftRow_facts L (fun q hq => hL q (List.mem_cons_of_mem _ hq)) h1 (ft1_sub x hx)
    obtain ⟨r1, e1⟩ := ft1_pre (st := st) (x := x) (p := p)
    rw [List.foldl_cons]
    refine ⟨i1, ⟨r1 ++ r2, by rw [i2, e1, List.append_assoc]⟩, fun q hq hqx => ?_⟩
    rcases List.mem_cons.mp hq with rfl | hq
    · rw [i2]
      refine List.mem_append_left _ ?_
      by_cases c : st.tr.getD q.1.2.2 none = none
      · unfold ft1
        rw [if_pos ⟨hqx, c⟩]
        simp
      · exact ft1_sub _ ((h.iff _).mpr ⟨hp2, c⟩)
    · exact i3 q hq hqx
theorem zipIdx_ok {n a : Nat} {es : List Edge} (ok : EsOk a n es) : ∀ p ∈ es.zipIdx, p.2 < es.length ∧ p.1.2.2 < n := fun p hp => by
  obtain ⟨h1, h2, h3⟩ := List.mem_zipIdx hp
  have hm : p.1 ∈ es := by rw [h3]; exact List.getElem_mem _
  exact ⟨by omega, (ok.rg _ hm).2.2⟩
theorem getD_append {l r : List Nat} {j : Nat} (h : j < l.length) : (l ++ r).getD j 0 = l.getD j 0 := by
  rw [List.getD_eq_getElem?_getD, List.getD_eq_getElem?_getD, List.getElem?_append_left h]
theorem getD_mem {l : List Nat} {j : Nat} (h : j < l.length) : l.getD j 0 ∈ l := by
  rw [List.getD_eq_getElem?_getD, List.getElem?_eq_getElem h]
  exact List.getElem_mem h
/-- the steps up to i were taken -/
def FTGo (n : Nat) (es : List Edge) (i : Nat) : Prop := ∀ j < i, j < (ftAt n es j).ord.length
theorem ftAt_facts {n a : Nat} {es : List Edge} (ok : EsOk a n es) (hn : 0 < n) : ∀ i, FTGo n es i → FTInv n es (ftAt n es i) ∧ i ≤ (ftAt n es i).ord.length ∧ ∀ j < i, ∀ e ∈ es, e.1 = (ftAt n es i).ord.getD j 0 → e.2.2 ∈ (ftAt n es i).ord
  | 0, _ => ⟨ft0_inv hn, Nat.zero_le _, fun j h => absurd h (by omega)⟩
  | i + 1, hg => by
    obtain ⟨h1, h2, h3⟩ := ftAt_facts ok hn i fun j hj => hg j (by omega)
    have hi := hg i (by omega)
    obtain ⟨g1, ⟨r, g2⟩, g3⟩ := ftRow_facts es.zipIdx (zipIdx_ok ok) h1 (getD_mem hi)
    refine ⟨g1, ?_, fun j hj e he hs => ?_⟩
    · show i + 1 ≤ (ftRow es _ _).ord.length
      unfold ftRow
      rw [g2, List.length_append]
      omega
    · show _ ∈ (ftRow es _ _).ord
      have hs : e.1 = (ftRow es ((ftAt n es i).ord.getD i 0) (ftAt n es i)).ord.getD j 0 := hs
      unfold ftRow at hs ⊢
      rw [g2, getD_append (by omega)] at hs
      by_cases hji : j = i
      · subst hji
        obtain ⟨k, hk⟩ := List.mem_iff_getElem?.mp he
        exact g3 (e, k) (List.mem_zipIdx_iff_getElem?.mpr hk) hs
      · rw [g2]
        exact List.mem_append_left _ (h3 j (by omega) e he hs)
inductive Reach (es : List Edge) : Nat → Prop where
  | zero : Reach es 0
  | step {e : Edge} (h : e ∈ es) (r : Reach es e.1) : Reach es e.2.2
theorem ft_all {n a i : Nat} {es : List Edge} (ok : EsOk a n es) (hn : 0 < n) (hg : FTGo n es i) (hi : (ftAt n es i).ord.length ≤ i) {t : Nat} (h : Reach es t) : t ∈ (ftAt n es i).ord := by
  obtain ⟨h1, h2, h3⟩ := ftAt_facts ok hn i hg
  induction h with
  | zero => exact h1.zero
  | @step e he _ ih =>
    obtain ⟨j, hj⟩ := List.mem_iff_getElem?.mp ih
    have hlt := (List.getElem?_eq_some_iff.mp hj).1
    exact h3 j (by omega) e he (by rw [List.getD_eq_getElem?_getD, hj]; rfl)
def trV : Option (List Nat) → Val
  | none => .non
  | some l => .tup (l.map nV)
def p_find_trails : PT := fun xs s Q E => ∃ (a n : Nat) (es : List Edge), xs = [.int (n : Nat), .tup (es.map ev)] ∧ 0 < n ∧ n ≤ 1000 ∧ EsOk a n es ∧ es.length ≤ 1000 ∧
  ∀ p s' i, s p = none → Sub s s' → FTGo n es i → (ftAt n es i).ord.length = i → s' p = some (.lst ((ftAt n es i).tr.map trV)) → Q (.ref p) s'
theorem ixN_nat' {n k : Nat} (h : k < n) : ixN n ((k : Nat) : Int) = some k := by
  unfold ixN
  simp
  omega
theorem ok_find_trails {xs s Q E} (h : p_find_trails xs s Q E) : r_find_trails (DF Q E) (startE 8 xs) s := by
  obtain ⟨a, n, es, rfl, hn, hn2, ok, hel, q⟩ := h
  simp [r_find_trails, wFor_app]
  intro l0 hl0
  refine ⟨by omega, by omega, by omega, fun t ht => ?_⟩
  have htl : t ≠ l0 := fun z => by rw [z] at ht; simp at ht
  rw [updS_ne htl] at ht
  rw [oSet_lst (k := 0) updS_self]
  refine ⟨0, ixN_nat' (k := 0) (by simpa using hn), ?_⟩
  intro o ho
  have hot : o ≠ t := fun z => by rw [z] at ho; simp at ho
  have ho0 : s o = none := by
    rw [updS_ne hot, updS_ne hot] at ho
    by_cases z : o = l0
    · rw [z] at ho; simp at ho
    · rwa [updS_ne z] at ho
  have hat0 : ∀ s2 : Store, seqOf s2 (.tup (es.map ev)) = some (es.map ev) := fun _ => rfl
  refine ⟨fun m env s2 => ∃ i, m = n - i ∧ FTGo n es i ∧ Sub s s2 ∧ s2 t = some (.lst ((ftAt n es i).tr.map trV)) ∧ s2 o = some (.lst ((ftAt n es i).ord.map nV)) ∧
    ∃ v5 v6 v7, env = [some (.int (n : Nat)), some (.tup (es.map ev)), some (.ref t), some (.ref o), some (.int (i : Nat)), v5, v6, v7],
    ⟨n, 0, rfl, fun j h => absurd h (by omega), ((((Sub.new hl0).upd ht).upd ht).upd ho0), ?_, ?_, none, none, none, rfl⟩, ?_⟩
  · rw [updS_ne hot.symm, updS_self]
    simp [ftAt, ft0, trV]
  · simp [ftAt, ft0, nV]
  · rintro m env s2 ⟨i, rfl, hg, k2, h1, h2, v5, v6, v7, rfl⟩
    obtain ⟨f1, f2, f3⟩ := ftAt_facts ok hn i hg
    have fle := f1.le
    simp
    rw [cLen_of (seqOf_lst h2)]
    simp
    by_cases hlt : i < (ftAt n es i).ord.length
    · refine .inr ⟨hlt, ?_⟩
      rw [oIx_lst h2, atI_nat]
      generalize hx : (ftAt n es i).ord.getD i 0 = x
      have hxm : x ∈ (ftAt n es i).ord := by rw [← hx]; exact getD_mem hlt
      refine ⟨nV x, ?_, ?_⟩
      · rw [List.getElem?_map, List.getElem?_eq_getElem hlt, ← hx, List.getD_eq_getElem?_getD, List.getElem?_eq_getElem hlt]
        rfl
      refine ienum_of (x := .tup (es.map ev)) (fun Q h => by simpa using h) rfl (fun _ z => nomatch z) fun it hat => ?_
      refine FB.of (enumV (es.map ev)) (fun k env s3 => Sub s s3 ∧ s3 t = some (.lst (((es.zipIdx.take k).foldl (ft1 x) (ftAt n es i)).tr.map trV)) ∧ s3 o = some (.lst (((es.zipIdx.take k).foldl (ft1 x) (ftAt n es i)).ord.map nV)) ∧
        ∃ v6 v7, env = [some (.int (n : Nat)), some (.tup (es.map ev)), some (.ref t), some (.ref o), some (.int (i : Nat)), some (nV x), v6, v7]) ⟨k2, h1, h2, _, _, rfl⟩ (fun k env s3 h => hat _ _ rfl) ?_ ?_
      · rintro k y env s3 hy ⟨k3, g1, g2, v6, v7, rfl⟩
        obtain ⟨z, hz0, rfl⟩ := enumV_get hy
        simp only [List.getElem?_map, Option.map_eq_some_iff] at hz0
        obtain ⟨e, he, rfl⟩ := hz0
        have hz : es.zipIdx[k]? = some (e, k) := by rw [List.getElem?_zipIdx, he]; simp
        obtain ⟨e1, e2, e3⟩ := ok.rg e (List.mem_of_getElem? he)
        have hke : k < es.length := (List.getElem?_eq_some_iff.mp he).1
        obtain ⟨p1, ⟨r, p2⟩, _⟩ := ftRow_facts (x := x) (es.zipIdx.take k) (fun p hp => zipIdx_ok ok p (List.mem_of_mem_take hp)) f1 hxm
        generalize hst : (es.zipIdx.take k).foldl (ft1 x) (ftAt n es i) = st at *
        have hnx : (es.zipIdx.take (k + 1)).foldl (ft1 x) (ftAt n es i) = ft1 x st (e, k) := by
          rw [take_add hz, List.foldl_append, hst]
          rfl
        rw [hnx]
        have hxs : x ∈ st.ord := by rw [p2]; exact List.mem_append_left _ hxm
        have hxn := ((p1.iff x).mp hxs).1
        simp [ev, nV]
        have gt : ∀ j, j < n → (st.tr.map trV)[j]? = some (trV (st.tr.getD j none)) := fun j hj => by
          have : j < st.tr.length := by rw [p1.len]; exact hj
          rw [List.getElem?_map, List.getD_eq_getElem?_getD, List.getElem?_eq_getElem this]
          rfl
        by_cases hex : e.1 = x
        · refine .inr ⟨by omega, ?_⟩
          rw [oIx_lst g1, atI_nat]
          refine ⟨_, gt _ e3, ?_⟩
          cases hd : st.tr.getD e.2.2 none with
          | some l =>
            refine .inl ⟨rfl, k3, ?_⟩
            have e1 : ft1 x st (e, k) = st := by
              unfold ft1
              rw [if_neg (fun z => by rw [hd] at z; cases z.2)]
            rw [e1]
            exact ⟨g1, g2⟩
          | none =>
            refine .inr ⟨rfl, ?_⟩
            rw [oIx_lst g1, atI_nat]
            refine ⟨_, gt _ hxn, ?_⟩
            obtain ⟨l, hl⟩ : ∃ l, st.tr.getD x none = some l := by
              cases e : st.tr.getD x none with
              | none => exact absurd e ((p1.iff x).mp hxs).2
              | some l => exact ⟨l, rfl⟩
            obtain ⟨l1, l2⟩ := p1.tl x l hl
            have p1le := p1.le
            rw [hl]
            simp [trV]
            refine ⟨by omega, ?_⟩
            rw [oSet_lst g1]
            refine ⟨e.2.2, ixN_nat' (by rw [List.length_map, p1.len]; exact e3), ?_⟩
            have g2' : updS s3 t (.lst ((st.tr.map trV).set e.2.2 (.tup (l.map nV ++ [.int (k : Nat)])))) o = some (.lst (st.ord.map nV)) := by rw [updS_ne hot]; exact g2
            refine ⟨tyS_list g2', ?_⟩
            rw [mAppend_of g2']
            have e1 : ft1 x st (e, k) = ⟨st.tr.set e.2.2 (some (l ++ [k])), st.ord ++ [e.2.2]⟩ := by
              unfold ft1
              rw [if_pos ⟨hex, hd⟩, hl]
              rfl
            rw [e1]
            refine ⟨by rw [List.length_map]; omega, (k3.upd ht).upd ho0, ?_, ?_⟩
            · rw [updS_ne hot.symm, updS_self, List.map_set]
              simp [trV, nV]
            · rw [updS_self]
              simp [nV]
        · refine .inl ⟨by omega, k3, ?_⟩
          have e1 : ft1 x st (e, k) = st := by
            unfold ft1
            rw [if_neg (fun z => hex z.1)]
          rw [e1]
          exact ⟨g1, g2⟩
      · rintro k env s3 hk ⟨k3, g1, g2, v6, v7, rfl⟩
        rw [enumV_length, List.length_map] at hk
        rw [List.take_of_length_le (by simpa using hk)] at g1 g2
        simp
        refine ⟨n - (i + 1), by omega, i + 1, rfl, fun j hj => ?_, k3, ?_, ?_, by omega⟩
        · by_cases e : j = i
          · subst e; exact hlt
          · exact hg j (by omega)
        · rw [ftAt, hx]; exact g1
        · rw [ftAt, hx]; exact g2
    · refine .inl ⟨by omega, ?_⟩
      exact q t s2 i ht k2 hg (by omega) h1
end Y
set_option Elab.async false
set_option linter.all false
set_option maxRecDepth 100000
set_option maxHeartbeats 4000000
set_option autoImplicit false
/-! contracts: Chart -/
namespace Y
open PySem L2
theorem toNat_inj' {a b : Char} (h : a.toNat = b.toNat) : a = b := Char.ext (UInt32.toNat_inj.mp h)
theorem ofString_inj {a b : String} : Str.ofString a = Str.ofString b ↔ a = b := by
  constructor
  · intro h
    rw [Str.ofString_eq_toList, Str.ofString_eq_toList] at h
    injection h with h
    have h1 : a.toList.map Char.toNat = b.toList.map Char.toNat := by simpa using congrArg Array.toList h
    have h2 := (List.map_inj_right (fun x y z => toNat_inj' z)).mp h1
    exact String.toList_inj.mp h2
  · rintro rfl
    rfl
theorem ofString_beq {a b : String} : (Str.ofString a == Str.ofString b) = decide (a = b) := by
  rw [Bool.eq_iff_iff]
  simp [ofString_inj]
theorem wISeq_val {a : WE} {env : Env} {s : Store} {R : DIt → Store → Prop} {E : QE} {x : Val} {xs : List Val} (ha : ∀ Q : QV, Q x s → a env s Q E) (h : seqOf s x = some xs) (hns : ∀ ys, x ≠ .scr ys)
    (hR : ∀ it : DIt, (∀ s2 i, seqOf s2 x = some xs → it.at_ i s2 = some xs[i]?) → R it s) : wISeq a env s R E := iseq_of ha h hns hR
/-! paths -/
def wordOf (es : List Edge) (l : List Nat) : List Nat := l.map fun k => (es.getD k (0, 0, 0)).2.1
def p_paths (C : Addr) : PT := fun xs s Q E => ∃ (p t : Addr) (fs : List (Str × Val)) (trs : List (List Nat)) (es : List Edge), xs = [.ref p] ∧ s p = some (.ins C fs) ∧ fs.lookup ("_trails" : Str) = some (.ref t) ∧ fs.lookup ("edges" : Str) = some (.tup (es.map ev)) ∧
  s t = some (.lst (trs.map fun l => .tup (l.map nV))) ∧ trs.length ≤ 1000 ∧ (∀ l ∈ trs, l.length ≤ 1000 ∧ ∀ k ∈ l, k < es.length) ∧
  ∀ q s', s q = none → Sub s s' → s' q = some (.lst (trs.map fun l => .tup ((wordOf es l).map nV))) → Q (.ref q) s'
theorem lb_map_nat {env : Env} {s1 : Store} {Q : QV} {te : WE} {vs : List Nat} {it : DIt} {i : Nat} {ns : List Nat} {g : Nat → Val} (hat : ∀ s2 j, Sub s1 s2 → it.at_ j s2 = some (ns.map nV)[j]?) (hn : ns.length ≤ 16777216)
    (he : ∀ n ∈ ns, ∀ s2, Sub s1 s2 → ∀ Q1 : QV, (∀ s3, Sub s2 s3 → Q1 (g n) s3) → te ((wipeE env vs).set i (some (nV n))) s2 Q1 (fun _ _ => False))
    (hd : ∀ p s2, s1 p = none → Sub s1 s2 → s2 p = some (.lst (ns.map g)) → Q (.ref p) s2) : LB it (.nm i) wYes te vs env Q s1 := by
  refine LB.map (ns.map nV) (fun j s2 k => hat s2 j k) (by rw [List.length_map]; exact hn) (fun x => g (unI x).toNat) (fun x hx s2 k => ?_) fun p s2 h1 h2 h3 => hd p s2 h1 h2 ?_
  · obtain ⟨n, hn, rfl⟩ := List.mem_map.mp hx
    exact ⟨_, put_nm, fun Q1 h => he n hn s2 k Q1 (by simpa [unI, nV] using h)⟩
  · rw [h3, List.map_map]
    congr 2
/-- any items -/
theorem lb_map_of {α : Type} {env : Env} {s1 : Store} {Q : QV} {te : WE} {vs : List Nat} {it : DIt} {t : Tg} {as : List α} {f : α → Val} {u : Val → α} (hu : ∀ a, u (f a) = a) {g : α → Val} (hat : ∀ s2 j, Sub s1 s2 → it.at_ j s2 = some (as.map f)[j]?) (hn : as.length ≤ 16777216)
    (he : ∀ a ∈ as, ∀ s2, Sub s1 s2 → ∃ env3, t.put (f a) (wipeE env vs) = some env3 ∧ ∀ Q1 : QV, (∀ s3, Sub s2 s3 → Q1 (g a) s3) → te env3 s2 Q1 (fun _ _ => False))
    (hd : ∀ p s2, s1 p = none → Sub s1 s2 → s2 p = some (.lst (as.map g)) → Q (.ref p) s2) : LB it t wYes te vs env Q s1 := by
  refine LB.map (as.map f) (fun j s2 k => hat s2 j k) (by rw [List.length_map]; exact hn) (fun x => g (u x)) (fun x hx s2 k => ?_) fun p s2 h1 h2 h3 => hd p s2 h1 h2 ?_
  · obtain ⟨a, ha, rfl⟩ := List.mem_map.mp hx
    obtain ⟨env3, h1, h2⟩ := he a ha s2 k
    exact ⟨env3, h1, fun Q1 h => h2 Q1 (by simpa [hu] using h)⟩
  · rw [h3, List.map_map]
    congr 2
    apply List.map_congr_left
    intro a _
    show g (u (f a)) = g a
    rw [hu]
def unN : Val → Nat
  | .int i => i.toNat
  | _ => 0
theorem unN_nV (n : Nat) : unN (nV n) = n := rfl
def unNs : Val → List Nat
  | .tup xs => xs.map unN
  | _ => []
theorem unNs_map (l : List Nat) : unNs (.tup (l.map nV)) = l := by
  show (l.map nV).map unN = l
  rw [List.map_map]
  exact List.map_id'' (fun _ => rfl) l
def unE : Val → Edge
  | .tup [a, b, c] => (unN a, unN b, unN c)
  | _ => (0, 0, 0)
theorem unE_ev (e : Edge) : unE (ev e) = e := rfl
theorem evs_at {es : List Edge} {n : Nat} (h : n < es.length) : L2.atI (es.map ev) ((n : Nat) : Int) = some (ev (es.getD n (0, 0, 0))) := by
  rw [atI_nat, List.getElem?_map, List.getD_eq_getElem?_getD, List.getElem?_eq_getElem h]
  rfl
theorem ok_paths {C xs s Q E} (h : p_paths C xs s Q E) : r_paths C (DF Q E) (startE 3 xs) s := by
  obtain ⟨p, t, fs, trs, es, rfl, hp, ht, he, h1, hl, hk, q⟩ := h
  simp [r_paths, wLc_app]
  refine wISeq_val (x := .ref t) (fun Q h => by simp [hp]; exact ⟨_, ht, h⟩) (seqOf_lst h1) (fun _ z => nomatch z) fun it hat => ?_
  refine lb_map_of (u := unNs) unNs_map (g := fun l => .tup ((wordOf es l).map nV)) (fun s2 j k => hat s2 j (seqOf_lst (k _ _ h1))) (by omega) (fun l hl s2 k2 => ⟨_, put_nm, fun Q1 hq => ?_⟩) q
  obtain ⟨l1, l2⟩ := hk l hl
  simp [wLc_app]
  refine wISeq_val (x := .tup (l.map nV)) (fun Q h => by simpa using h) rfl (fun _ z => nomatch z) fun it2 hat2 => ?_
  refine lb_map_nat (g := fun k => nV (es.getD k (0, 0, 0)).2.1) (fun s3 j _ => hat2 s3 j rfl) (by omega) (fun n hn s3 k3 Q2 hq2 => ?_) fun w s3 h5 h6 h7 => ?_
  · have hpp := k3 _ _ (k2 _ _ hp)
    simp [hpp, he, nV]
    refine ⟨ev (es.getD n (0, 0, 0)), evs_at (l2 n hn), ?_⟩
    simpa [ev, nV] using hq2 s3 (Sub.refl _)
  · rw [cTuple_of (seqOf_lst h7)]
    have e : (l.map fun k => nV (es.getD k (0, 0, 0)).2.1) = (wordOf es l).map nV := by
      unfold wordOf
      rw [List.map_map]
      rfl
    rw [e]
    exact hq s3 h6
/-! Chart -/
structure Ch where
  a : Nat
  n : Nat
  es : List Edge
def FTEnd (n : Nat) (es : List Edge) (trs : List (List Nat)) : Prop := ∃ i, FTGo n es i ∧ (ftAt n es i).ord.length = i ∧ (ftAt n es i).tr = trs.map some
def ptsOf (a : Nat) (es : List Edge) (trs : List (List Nat)) : List (List Int) := trs.map fun l => cnt a (wordOf es l)
def rowsOf (es : List Edge) (pts : List (List Int)) : List (List Int) := es.map fun e => rrow (pts.getD e.1 []) (pts.getD e.2.2 []) e.2.1
def chFs (c : Ch) (d t q r : Addr) : List (Str × Val) := [("_targets", .ref d), ("actions", nV c.a), ("states", nV c.n), ("edges", .tup (c.es.map ev)), ("_trails", .ref t), ("_points", .ref q), ("_rounds", .ref r)]
def ecode (e : Edge) : Nat := e.1 * 256 + e.2.1 * 16 + e.2.2
def SortedE (es : List Edge) : Prop := es.Pairwise fun e f => ecode e ≤ ecode f
structure ChOk (c : Ch) : Prop where
  n0 : 0 < c.n
  n10 : c.n ≤ 10
  a5 : c.a ≤ 5
  len : c.es.length < 64
  ok : EsOk c.a c.n c.es
  srt : SortedE c.es
  re : ∀ t < c.n, Reach c.es t
structure IsChart (C : Addr) (s : Store) (v : Val) (c : Ch) : Prop where
  ok : ChOk c
  ex : ∃ (p d t q r : Addr) (es0 : List Edge) (trs : List (List Nat)), v = .ref p ∧ s p = some (.ins C (chFs c d t q r)) ∧ es0.Perm c.es ∧ EsOk c.a c.n es0 ∧ s d = some (.dic 1 (es0.map tE)) ∧ FTEnd c.n c.es trs ∧
    s t = some (.lst (trs.map fun l => .tup (l.map nV))) ∧ s q = some (.lst ((ptsOf c.a c.es trs).map vT)) ∧ s r = some (.lst ((indS (rowsOf c.es (ptsOf c.a c.es trs))).ch.map nV))
theorem IsChart.sub {C : Addr} {s s' : Store} {v : Val} {c : Ch} (h : IsChart C s v c) (k : Sub s s') : IsChart C s' v c := by
  obtain ⟨p, d, t, q, r, es0, trs, h1, h2, h3, h4, h5, h6, h7, h8, h9⟩ := h.ex
  exact ⟨h.ok, p, d, t, q, r, es0, trs, h1, k _ _ h2, h3, h4, k _ _ h5, h6, k _ _ h7, k _ _ h8, k _ _ h9⟩
def eI (e : Edge) : List Int := [(e.1 : Nat), (e.2.1 : Nat), (e.2.2 : Nat)]
theorem vT_eI (e : Edge) : vT (eI e) = ev e := rfl
theorem code_eI (e : Edge) : TS.code 16 (eI e) = ((ecode e : Nat) : Int) := by
  unfold eI ecode
  simp only [TS.code, List.length_cons, List.length_nil]
  omega
def unEI : List Int → Edge
  | [a, b, c] => (a.toNat, b.toNat, c.toNat)
  | _ => (0, 0, 0)
theorem unEI_eI (e : Edge) : unEI (eI e) = e := rfl
theorem perm_eI {es : List Edge} {us : List (List Int)} (h : us.Perm (es.map eI)) : (us.map unEI).Perm es ∧ us = (us.map unEI).map eI := by
  constructor
  · have := h.map unEI
    rw [List.map_map] at this
    rwa [List.map_congr_left (f := unEI ∘ eI) (g := id) (fun a _ => unEI_eI a), List.map_id] at this
  · rw [List.map_map]
    symm
    rw [List.map_congr_left (g := id), List.map_id]
    intro y hy
    obtain ⟨t, _, rfl⟩ := List.mem_map.mp (h.mem_iff.mp hy)
    rfl
theorem sorted_eI {es : List Edge} (h : (es.map eI).Pairwise fun n m => TS.code 16 n ≤ TS.code 16 m) : SortedE es := by
  rw [List.pairwise_map] at h
  refine List.Pairwise.imp (fun {a b} h => ?_) h
  rw [code_eI, code_eI] at h
  omega
/-- all but p stays -/
def SubP (p : Addr) (s s' : Store) : Prop := ∀ b o, b ≠ p → s b = some o → s' b = some o
theorem SubP.of {p : Addr} {s s' : Store} (h : Sub s s') : SubP p s s' := fun b o _ e => h b o e
theorem SubP.trans {p : Addr} {s s' s'' : Store} (h : SubP p s s') (h' : SubP p s' s'') : SubP p s s'' := fun b o n e => h' b o n (h b o n e)
theorem SubP.set {p : Addr} {s : Store} {o : Ob} : SubP p s (updS s p o) := fun b o' n e => by rw [updS_ne n]; exact e
theorem SubP.seq {p : Addr} {s s' : Store} {x : Val} {xs : List Val} (h : SubP p s s') (hx : x ≠ .ref p) (e : seqOf s x = some xs) : seqOf s' x = some xs := by
  cases x with
  | ref a => exact seqOf_lst (h _ _ (fun z => hx (by rw [z])) (seqOf_ref e))
  | _ => exact e
def p_Chart___init__ (C : Addr) : PT := fun xs s Q E => ∃ (p : Addr) (a n : Nat) (x : Val) (es0 : List Edge), xs = [.ref p, nV a, nV n, x] ∧ s p = some (.ins C []) ∧ seqOf s x = some (es0.map ev) ∧ (∀ ys, x ≠ .scr ys) ∧ x ≠ .ref p ∧
  a ≤ 5 ∧ 0 < n ∧ n ≤ 10 ∧ EsOk a n es0 ∧ es0.length < 64 ∧ (∀ t < n, Reach es0 t) ∧
  ∀ es s', es.Perm es0 → SortedE es → SubP p s s' → IsChart C s' (.ref p) ⟨a, n, es⟩ → Q .non s'
theorem EsOk.perm {a n : Nat} {es es' : List Edge} (h : EsOk a n es) (p : es'.Perm es) : EsOk a n es' :=
  ⟨fun e he => h.rg e (p.mem_iff.mp he), h.det.perm p.symm fun {e f} h z => h ⟨z.1.symm, z.2.symm⟩⟩
theorem Reach.perm {es es' : List Edge} (p : es.Perm es') {t : Nat} (h : Reach es t) : Reach es' t := by
  induction h with
  | zero => exact .zero
  | step he _ ih => exact .step (p.mem_iff.mp he) ih
theorem ft_end {n a i : Nat} {es : List Edge} (ok : EsOk a n es) (hn : 0 < n) (hg : FTGo n es i) (he : (ftAt n es i).ord.length = i) (hr : ∀ t < n, Reach es t) :
    ∃ trs : List (List Nat), (ftAt n es i).tr = trs.map some ∧ trs.length = n ∧ ∀ l ∈ trs, l.length < n ∧ ∀ k ∈ l, k < es.length := by
  obtain ⟨h1, h2, h3⟩ := ftAt_facts ok hn i hg
  have hall : ∀ o ∈ (ftAt n es i).tr, ∃ l, o = some l ∧ l.length < n ∧ ∀ k ∈ l, k < es.length := fun o ho => by
    obtain ⟨t, ht⟩ := List.mem_iff_getElem?.mp ho
    have htn : t < n := by rw [← h1.len]; exact (List.getElem?_eq_some_iff.mp ht).1
    have hm := ft_all ok hn hg (by omega) (hr t htn)
    have hne := ((h1.iff t).mp hm).2
    have hgd : (ftAt n es i).tr.getD t none = o := by rw [List.getD_eq_getElem?_getD, ht]; rfl
    rw [hgd] at hne
    cases o with
    | none => exact absurd rfl hne
    | some l =>
      obtain ⟨l1, l2⟩ := h1.tl t l hgd
      have := h1.le
      exact ⟨l, rfl, by omega, l2⟩
  refine ⟨(ftAt n es i).tr.map fun o => o.getD [], ?_, by rw [List.length_map, h1.len], fun l hl => ?_⟩
  · rw [List.map_map]
    symm
    rw [List.map_congr_left (g := id), List.map_id]
    intro o ho
    obtain ⟨l, rfl, _⟩ := hall o ho
    rfl
  · obtain ⟨o, ho, rfl⟩ := List.mem_map.mp hl
    obtain ⟨l, rfl, h⟩ := hall o ho
    exact h
theorem rrow_ok {w1 w2 : List Int} {k m : Nat} (h1 : w1.length = m) (h2 : w2.length = m) (b1 : ∀ z ∈ w1, 0 ≤ z ∧ z < 10) (b2 : ∀ z ∈ w2, 0 ≤ z ∧ z < 10) : (rrow w1 w2 k).length = m ∧ Lt2 5 (rrow w1 w2 k) := by
  have hz : ∀ z ∈ (w1.zip w2).map (fun p => p.1 - p.2), -10 < z ∧ z < 10 := fun z hz => by
    obtain ⟨⟨x, y⟩, hp, rfl⟩ := List.mem_map.mp hz
    have := List.of_mem_zip hp
    have := b1 x this.1
    have := b2 y (List.of_mem_zip hp).2
    show -10 < x - y ∧ x - y < 10
    omega
  constructor
  · unfold rrow
    simp only [List.length_set, List.length_map, List.length_zip]
    omega
  · intro z hzm
    unfold rrow at hzm
    rcases List.mem_or_eq_of_mem_set hzm with h | h
    · have := hz z h
      omega
    · have : -10 < ((w1.zip w2).map (fun p => p.1 - p.2)).getD k 0 ∧ ((w1.zip w2).map (fun p => p.1 - p.2)).getD k 0 < 10 := by
        rw [List.getD_eq_getElem?_getD]
        cases e : ((w1.zip w2).map (fun p => p.1 - p.2))[k]? with
        | none => exact ⟨by decide, by decide⟩
        | some y => exact hz y (List.mem_of_getElem? e)
      omega
theorem ok_init {C xs s Q E} (h : p_Chart___init__ C xs s Q E) : r_Chart___init__ C p_edge_table p_find_trails (p_paths C) p_count p_round_row p_independent (DF Q E) (startE 8 xs) s := by
  obtain ⟨p, a, n, x, es0, rfl, hp, hx, hns, hxp, ha, hn0, hn, ok, hl, hre, q⟩ := h
  have i1 : ¬ ((5 : Int) < a) := by omega
  have i2 : ¬ ((10 : Int) < n) := by omega
  simp [r_Chart___init__, nV, i1, i2]
  refine ⟨a, n, x, es0, rfl, hx, hns, ok, by omega, fun d s1 hd k1 hd1 => ?_⟩
  have hdp : d ≠ p := fun z => by rw [z, hp] at hd; cases hd
  refine ⟨[], k1 _ _ hp, by simp, ?_⟩
  simp [putV, ofString_inj]
  generalize hs2 : updS (updS (updS s1 p (.ins C [(("_targets" : Str), .ref d)])) p (.ins C [(("_targets" : Str), .ref d), (("actions" : Str), .int (a : Nat))])) p (.ins C [(("_targets" : Str), .ref d), (("actions" : Str), .int (a : Nat)), (("states" : Str), .int (n : Nat))]) = s2
  have hp2 : s2 p = some (.ins C [(("_targets" : Str), .ref d), (("actions" : Str), .int (a : Nat)), (("states" : Str), .int (n : Nat))]) := by rw [← hs2, updS_self]
  have k2 : SubP p s s2 := by rw [← hs2]; exact (((SubP.of k1).trans SubP.set).trans SubP.set).trans SubP.set
  have hd2 : s2 d = some (.dic 1 (es0.map tE)) := by rw [← hs2, updS_ne hdp, updS_ne hdp, updS_ne hdp]; exact hd1
  clear hs2
  have hx2 := k2.seq hxp hx
  rw [wLc_app]
  refine wISeq_val (x := x) (fun Q h => by simpa using h) hx2 hns fun it hat => ?_
  refine lb_map_of (u := unE) unE_ev (g := ev) (fun s3 j k => hat s3 j (k.seq hx2)) (by omega) (fun e he s3 k3 => ⟨_, put_nm, fun Q1 hq => ?_⟩) fun w s3 hw k3 hw3 => ?_
  · simp
    rw [cTuple_of (ys := [.int (e.1 : Nat), .int (e.2.1 : Nat), .int (e.2.2 : Nat)]) rfl]
    exact hq s3 (Sub.refl _)
  refine ⟨w, es0.map eI, rfl, by rw [hw3, List.map_map]; rfl, by rw [List.length_map]; exact hl, fun t ht => ?_, fun v us hus hsrt hv => ?_⟩
  · obtain ⟨e, he, rfl⟩ := List.mem_map.mp ht
    obtain ⟨e1, e2, e3⟩ := ok.rg e he
    refine ⟨rfl, fun m hm => ?_⟩
    simp [eI] at hm
    omega
  obtain ⟨pe, ue⟩ := perm_eI hus
  generalize hes : us.map unEI = es at pe ue
  subst ue
  have hso := sorted_eI hsrt
  have hev : (es.map eI).map vT = es.map ev := by rw [List.map_map]; rfl
  rw [hev, cTuple_of (seqOf_lst updS_self)]
  have hvp : v ≠ p := fun z => by rw [z, k3 _ _ hp2] at hv; cases hv
  have ok' := ok.perm pe
  refine ⟨_, by rw [updS_ne hvp.symm]; exact k3 _ _ hp2, by simp, ?_⟩
  simp [putV, ofString_inj, ofString_beq, List.lookup]
  have hel : es.length < 64 := by rw [pe.length_eq]; exact hl
  refine ⟨a, n, es, rfl, hn0, by omega, ok', by omega, fun t s4 i ht k4 hgo hend ht4 => ?_⟩
  obtain ⟨trs, htr, htl, hte⟩ := ft_end ok' hn0 hgo hend fun t h => (hre t h).perm pe.symm
  have hp4 := k4 _ _ updS_self
  have htp : t ≠ p := fun z => by rw [z, updS_self] at ht; cases ht
  refine ⟨_, hp4, by simp, ?_⟩
  simp [putV, ofString_inj]
  have ht4' : s4 t = some (.lst (trs.map fun l => .tup (l.map nV))) := by
    rw [ht4, htr, List.map_map]
    rfl
  have hd4 : s4 d = some (.dic 1 (es0.map tE)) := k4 _ _ (by
    have hdv : d ≠ v := fun z => by rw [z] at hd2; rw [k3 _ _ hd2] at hv; cases hv
    rw [updS_ne hdp, updS_ne hdv]
    exact k3 _ _ hd2)
  have k24 : SubP p s s4 := fun b o hb e => k4 _ _ (by
    have e2 := k3 _ _ (k2 b o hb e)
    have hbv : b ≠ v := fun z => by rw [z, hv] at e2; cases e2
    rw [updS_ne hb, updS_ne hbv]
    exact e2)
  generalize hs5 : updS s4 p (.ins C [(("_targets" : Str), .ref d), (("actions" : Str), .int (a : Nat)), (("states" : Str), .int (n : Nat)), (("edges" : Str), .tup (es.map ev)), (("_trails" : Str), .ref t)]) = s5
  have hp5 : s5 p = some (.ins C [(("_targets" : Str), .ref d), (("actions" : Str), .int (a : Nat)), (("states" : Str), .int (n : Nat)), (("edges" : Str), .tup (es.map ev)), (("_trails" : Str), .ref t)]) := by rw [← hs5, updS_self]
  have ht5 : s5 t = some (.lst (trs.map fun l => .tup (l.map nV))) := by rw [← hs5, updS_ne htp]; exact ht4'
  have hd5 : s5 d = some (.dic 1 (es0.map tE)) := by rw [← hs5, updS_ne hdp]; exact hd4
  have k5 : SubP p s s5 := by rw [← hs5]; exact k24.trans SubP.set
  clear hs5
  rw [wFor_app]
  simp
  refine ⟨by omega, ?_⟩
  refine FB.of ((List.range n).map fun k => Val.int (0 + (k : Nat))) (fun k env s6 => s6 = s5 ∧ ∃ v5, env = [some (.ref p), some (.int (a : Nat)), some (.int (n : Nat)), some x, none, v5, none, none]) ⟨rfl, _, rfl⟩ (fun k env s6 h => dR_at) ?_ ?_
  · rintro k y env s6 hk ⟨rfl, v5, rfl⟩
    rw [List.getElem?_map, Option.map_eq_some_iff] at hk
    obtain ⟨m, hm, rfl⟩ := hk
    have hmn : m < n := by
      have := List.mem_of_getElem? hm
      simpa using this
    simp [hp5, ofString_beq, List.lookup]
    rw [oIx_lst ht5, atI_nat]
    refine ⟨.tup ((trs[m]'(by omega)).map nV), by rw [List.getElem?_map, List.getElem?_eq_getElem (by omega)]; rfl, ?_⟩
    simp
  · rintro k env s6 hk ⟨rfl, v5, rfl⟩
    simp [wLc_app, wISeq_app]
    refine ⟨p, t, _, trs, es, rfl, hp5, by simp [ofString_beq, List.lookup], by simp [ofString_beq, List.lookup], ht5, by omega, fun l hl => ⟨by have := (hte l hl).1; omega, (hte l hl).2⟩, fun w2 s7 hw2 k7 hw7 => ?_⟩
    refine ⟨⟨_, hw7⟩, ?_⟩
    refine lb_map_of (u := unNs) (f := fun w : List Nat => .tup (w.map nV)) unNs_map (as := trs.map (wordOf es)) (g := fun w => vT (cnt a w)) (fun s8 j k => by rw [dL_at (k _ _ hw7), List.map_map]; rfl) (by rw [List.length_map]; omega) (fun w hw s8 k8 => ⟨_, put_nm, fun Q1 hq => ?_⟩) fun q1 s8 hq1 k8 hq8 => ?_
    · obtain ⟨l, hl, rfl⟩ := List.mem_map.mp hw
      simp
      refine ⟨a, wordOf es l, rfl, by omega, fun m hm => ?_, hq⟩
      obtain ⟨k, hk, rfl⟩ := List.mem_map.mp hm
      have hk2 := (hte l hl).2 k hk
      rw [List.getD_eq_getElem?_getD, List.getElem?_eq_getElem hk2]
      exact (ok'.rg _ (List.getElem_mem hk2)).2.1
    have hp8 := k8 _ _ (k7 _ _ hp5)
    have hq1p : q1 ≠ p := fun z => by rw [z, k7 _ _ hp5] at hq1; cases hq1
    refine ⟨_, hp8, by simp, ?_⟩
    simp [putV, ofString_inj]
    generalize hs9 : updS s8 p (.ins C [(("_targets" : Str), .ref d), (("actions" : Str), .int (a : Nat)), (("states" : Str), .int (n : Nat)), (("edges" : Str), .tup (es.map ev)), (("_trails" : Str), .ref t), (("_points" : Str), .ref q1)]) = s9
    have hp9 : s9 p = some (.ins C [(("_targets" : Str), .ref d), (("actions" : Str), .int (a : Nat)), (("states" : Str), .int (n : Nat)), (("edges" : Str), .tup (es.map ev)), (("_trails" : Str), .ref t), (("_points" : Str), .ref q1)]) := by rw [← hs9, updS_self]
    have hq9 : s9 q1 = some (.lst ((ptsOf a es trs).map vT)) := by
      rw [← hs9, updS_ne hq1p, hq8]
      unfold ptsOf
      rw [List.map_map, List.map_map]
      rfl
    have ht9 : s9 t = some (.lst (trs.map fun l => .tup (l.map nV))) := by rw [← hs9, updS_ne htp]; exact k8 _ _ (k7 _ _ ht5)
    have hd9 : s9 d = some (.dic 1 (es0.map tE)) := by rw [← hs9, updS_ne hdp]; exact k8 _ _ (k7 _ _ hd5)
    have k9 : SubP p s s9 := by rw [← hs9]; exact ((k5.trans (SubP.of k7)).trans (SubP.of k8)).trans SubP.set
    clear hs9
    have hpl : (ptsOf a es trs).length = n := by unfold ptsOf; rw [List.length_map, htl]
    have hpt : ∀ m, m < n → ∃ w, (ptsOf a es trs)[m]? = some w ∧ w.length = a ∧ ∀ z ∈ w, 0 ≤ z ∧ z < 10 := fun m hm => by
      have hm' : m < trs.length := by omega
      refine ⟨cnt a (wordOf es trs[m]), ?_, cnt_length _ _, fun z hz => ?_⟩
      · unfold ptsOf
        rw [List.getElem?_map, List.getElem?_eq_getElem hm']
        rfl
      · unfold cnt at hz
        obtain ⟨k, _, rfl⟩ := List.mem_map.mp hz
        have h1 := List.count_le_length (a := k) (l := wordOf es trs[m])
        have h2 : (wordOf es trs[m]).length = trs[m].length := by unfold wordOf; rw [List.length_map]
        have h3 := (hte trs[m] (List.getElem_mem hm')).1
        omega
    refine ⟨.tup (es.map ev), by simp [ofString_beq, List.lookup], ?_⟩
    show LB (dT (es.map ev)) _ _ _ _ _ _ _
    refine lb_map_of (u := unE) unE_ev (g := fun e => vT (rrow ((ptsOf a es trs).getD e.1 []) ((ptsOf a es trs).getD e.2.2 []) e.2.1)) (fun s10 j k => rfl) (by omega) (fun e he s10 k10 => ⟨_, put_nm, fun Q1 hq => ?_⟩) fun w3 s10 hw3 k10 hw10 => ?_
    · have hp10 := k10 _ _ hp9
      obtain ⟨e1, e2, e3⟩ := ok'.rg e he
      obtain ⟨w1, hw1, lw1, _⟩ := hpt e.1 e1
      obtain ⟨w2, hw2, lw2, _⟩ := hpt e.2.2 e3
      simp [hp10, ofString_beq, List.lookup]
      refine ⟨q1, ptsOf a es trs, e, a, w1, w2, rfl, k10 _ _ hq9, hw1, hw2, lw1, lw2, e2, by omega, fun s11 k11 => ?_⟩
      have := hq s11 k11
      rw [List.getD_eq_getElem?_getD, List.getD_eq_getElem?_getD, hw1, hw2] at this
      exact this
    have hp10 := k10 _ _ hp9
    refine ⟨w3, a, rowsOf es (ptsOf a es trs), rfl, by rw [hw10]; unfold rowsOf; rw [List.map_map]; rfl, by omega, by unfold rowsOf; rw [List.length_map]; omega, fun rw_ hrw => ?_, fun r s11 hr k11 hr11 => ?_⟩
    · unfold rowsOf at hrw
      obtain ⟨e, he, rfl⟩ := List.mem_map.mp hrw
      obtain ⟨e1, e2, e3⟩ := ok'.rg e he
      obtain ⟨w1, hw1, lw1, bw1⟩ := hpt e.1 e1
      obtain ⟨w2, hw2, lw2, bw2⟩ := hpt e.2.2 e3
      rw [List.getD_eq_getElem?_getD, List.getD_eq_getElem?_getD, hw1, hw2]
      exact rrow_ok lw1 lw2 bw1 bw2
    have hp11 := k11 _ _ hp10
    have hrp : r ≠ p := fun z => by rw [z, hp10] at hr; cases hr
    refine ⟨_, hp11, by simp, ?_⟩
    simp [putV, ofString_inj]
    refine q es _ pe hso ?_ ⟨⟨hn0, hn, ha, hel, ok', hso, fun t h => (hre t h).perm pe.symm⟩, p, d, t, q1, r, es0, trs, rfl, updS_self, pe.symm, ok, ?_, ⟨i, hgo, hend, htr⟩, ?_, ?_, ?_⟩
    · exact ((k9.trans (SubP.of k10)).trans (SubP.of k11)).trans SubP.set
    · rw [updS_ne hdp]; exact k11 _ _ (k10 _ _ hd9)
    · rw [updS_ne htp]; exact k11 _ _ (k10 _ _ ht9)
    · rw [updS_ne hq1p]; exact k11 _ _ (k10 _ _ hq9)
    · rw [updS_ne hrp]; exact hr11
end Y
set_option Elab.async false
set_option linter.all false
set_option maxRecDepth 100000
set_option maxHeartbeats 4000000
set_option autoImplicit false
/-! plain: what is reached -/
namespace Y
open PySem L2
inductive RF (f : Edge → Bool) (es : List Edge) (x0 : Nat) : Nat → Prop where
  | zero : RF f es x0 x0
  | step {e : Edge} (h : e ∈ es) (hf : f e = true) (r : RF f es x0 e.1) : RF f es x0 e.2.2
def bf1 (f : Edge → Bool) (x : Nat) (ord : List Nat) (e : Edge) : List Nat := if e.1 = x ∧ f e = true ∧ e.2.2 ∉ ord then ord ++ [e.2.2] else ord
def bfRow (f : Edge → Bool) (es : List Edge) (x : Nat) (ord : List Nat) : List Nat := es.foldl (bf1 f x) ord
def bfAt (f : Edge → Bool) (es : List Edge) (x0 : Nat) : Nat → List Nat
  | 0 => [x0]
  | i + 1 => if i < (bfAt f es x0 i).length then bfRow f es ((bfAt f es x0 i).getD i 0) (bfAt f es x0 i) else bfAt f es x0 i
section
variable {f : Edge → Bool} {es : List Edge} {x0 n : Nat}
theorem bfRow_facts {x : Nat} : ∀ (L : List Edge) {ord : List Nat}, (∀ e ∈ L, e ∈ es ∧ e.2.2 < n) → ord.Nodup → (∀ t ∈ ord, t < n ∧ RF f es x0 t) → x ∈ ord →
    (bfRow f L x ord).Nodup ∧ (∀ t ∈ bfRow f L x ord, t < n ∧ RF f es x0 t) ∧ (∃ r, bfRow f L x ord = ord ++ r) ∧ ∀ e ∈ L, e.1 = x → f e = true → e.2.2 ∈ bfRow f L x ord
  | [], ord, _, h1, h2, _ => ⟨h1, h2, ⟨[], by simp [bfRow]⟩, fun e h => nomatch h⟩
  | e :: L, ord, hL, h1, h2, hx => by
    obtain ⟨he1, he2⟩ := hL e List.mem_cons_self
    have hb : (bf1 f x ord e).Nodup ∧ (∀ t ∈ bf1 f x ord e, t < n ∧ RF f es x0 t) ∧ (∃ r, bf1 f x ord e = ord ++ r) ∧ (e.1 = x → f e = true → e.2.2 ∈ bf1 f x ord e) := by
      unfold bf1
      split
      · rename_i c
        obtain ⟨c1, c2, c3⟩ := c
        refine ⟨?_, fun t ht => ?_, ⟨_, rfl⟩, fun _ _ => by simp⟩
        · rw [List.nodup_append]
          exact ⟨h1, by simp, fun a ha b hb => by rw [List.mem_singleton] at hb; subst hb; exact fun z => c3 (z ▸ ha)⟩
        · rcases List.mem_append.mp ht with ht | ht
          · exact h2 t ht
          · rw [List.mem_singleton.mp ht]
            exact ⟨he2, .step he1 c2 (by rw [c1]; exact (h2 x hx).2)⟩
      · rename_i c
        refine ⟨h1, h2, ⟨[], by simp⟩, fun c1 c2 => ?_⟩
        by_cases hm : e.2.2 ∈ ord
        · exact hm
        · exact absurd ⟨c1, c2, hm⟩ c
    obtain ⟨b1, b2, ⟨r1, b3⟩, b4⟩ := hb
    obtain ⟨i1, i2, ⟨r2, i3⟩, i4⟩ := bfRow_facts L (fun q hq => hL q (List.mem_cons_of_mem _ hq)) b1 b2 (by rw [b3]; exact List.mem_append_left _ hx)
    have e0 : bfRow f (e :: L) x ord = bfRow f L x (bf1 f x ord e) := rfl
    rw [e0]
    refine ⟨i1, i2, ⟨r1 ++ r2, by rw [i3, b3, List.append_assoc]⟩, fun q hq hqx hqf => ?_⟩
    rcases List.mem_cons.mp hq with rfl | hq
    · rw [i3]
      exact List.mem_append_left _ (b4 hqx hqf)
    · exact i4 q hq hqx hqf
structure BFOk (f : Edge → Bool) (es : List Edge) (x0 n i : Nat) (ord : List Nat) : Prop where
  nd : ord.Nodup
  sound : ∀ t ∈ ord, t < n ∧ RF f es x0 t
  start : x0 ∈ ord
  closed : ∀ j < i, j < ord.length → ∀ e ∈ es, e.1 = ord.getD j 0 → f e = true → e.2.2 ∈ ord
theorem bfAt_ok (hn : x0 < n) (hes : ∀ e ∈ es, e.2.2 < n) : ∀ i, BFOk f es x0 n i (bfAt f es x0 i)
  | 0 => ⟨by simp [bfAt], fun t h => by simp [bfAt] at h; subst h; exact ⟨hn, .zero⟩, by simp [bfAt], fun j h => absurd h (by omega)⟩
  | i + 1 => by
    have ih := bfAt_ok hn hes i
    unfold bfAt
    split
    · rename_i hlt
      obtain ⟨h1, h2, ⟨r, h3⟩, h4⟩ := bfRow_facts (f := f) (es := es) (x0 := x0) (n := n) (x := (bfAt f es x0 i).getD i 0) es (fun e he => ⟨he, hes e he⟩) ih.nd ih.sound (getD_mem hlt)
      refine ⟨h1, h2, by rw [h3]; exact List.mem_append_left _ ih.start, fun j hj hjl e he hs hf => ?_⟩
      rw [h3, getD_append (by omega)] at hs
      by_cases hji : j = i
      · subst hji
        exact h4 e he hs hf
      · rw [h3]
        exact List.mem_append_left _ (ih.closed j (by omega) (by omega) e he hs hf)
    · rename_i hlt
      exact ⟨ih.nd, ih.sound, ih.start, fun j hj hjl => ih.closed j (by omega) hjl⟩
theorem bfAt_le (hn : x0 < n) (hes : ∀ e ∈ es, e.2.2 < n) (i : Nat) : (bfAt f es x0 i).length ≤ n := nodup_lt (bfAt_ok (f := f) hn hes i).nd fun t ht => ((bfAt_ok (f := f) hn hes i).sound t ht).1
theorem bfAt_stop {i : Nat} (h : (bfAt f es x0 i).length ≤ i) : ∀ k, bfAt f es x0 (i + k) = bfAt f es x0 i
  | 0 => rfl
  | k + 1 => by
    rw [← Nat.add_assoc, bfAt, bfAt_stop h k, if_neg (by omega)]
/-- all that is reached -/
theorem bfAt_mem (hn : x0 < n) (hes : ∀ e ∈ es, e.2.2 < n) {i : Nat} (h : (bfAt f es x0 i).length ≤ i) {t : Nat} : t ∈ bfAt f es x0 i ↔ RF f es x0 t := by
  have ok := bfAt_ok (f := f) hn hes i
  refine ⟨fun ht => (ok.sound t ht).2, fun hr => ?_⟩
  induction hr with
  | zero => exact ok.start
  | @step e he hf _ ih =>
    obtain ⟨j, hj⟩ := List.mem_iff_getElem?.mp ih
    have hlt := (List.getElem?_eq_some_iff.mp hj).1
    exact ok.closed j (by omega) hlt e he (by rw [List.getD_eq_getElem?_getD, hj]; rfl) hf
theorem RF_lt (hn : x0 < n) (hes : ∀ e ∈ es, e.2.2 < n) {t : Nat} (h : RF f es x0 t) : t < n := by
  cases h with
  | zero => exact hn
  | step he _ _ => exact hes _ he
theorem RF_reach {t : Nat} : RF (fun _ => true) es 0 t ↔ Reach es t := by
  constructor
  · intro h
    induction h with
    | zero => exact .zero
    | step he _ _ ih => exact .step he ih
  · intro h
    induction h with
    | zero => exact .zero
    | step he _ ih => exact .step he rfl ih
end
/-! ### rising lists are told by their members -/
theorem rising_ext : ∀ {l m : List Nat}, l.Pairwise (· < ·) → m.Pairwise (· < ·) → (∀ x, x ∈ l ↔ x ∈ m) → l = m
  | [], [], _, _, _ => rfl
  | [], y :: m, _, _, h => absurd ((h y).mpr List.mem_cons_self) (by simp)
  | x :: l, [], _, _, h => absurd ((h x).mp List.mem_cons_self) (by simp)
  | x :: l, y :: m, h1, h2, h => by
    rw [List.pairwise_cons] at h1 h2
    have hxy : x = y := by
      rcases List.mem_cons.mp ((h x).mp List.mem_cons_self) with e | e
      · exact e
      · rcases List.mem_cons.mp ((h y).mpr List.mem_cons_self) with e2 | e2
        · exact e2.symm
        · have := h1.1 y e2
          have := h2.1 x e
          omega
    subst hxy
    rw [rising_ext h1.2 h2.2 fun z => ?_]
    constructor
    · intro hz
      rcases List.mem_cons.mp ((h z).mp (List.mem_cons_of_mem _ hz)) with e | e
      · have := h1.1 z hz
        omega
      · exact e
    · intro hz
      rcases List.mem_cons.mp ((h z).mpr (List.mem_cons_of_mem _ hz)) with e | e
      · have := h2.1 z hz
        omega
      · exact e
/-- a sorted list of whole numbers that are told apart -/
theorem rising_of {ns : List Nat} {ms : List Int} (hp : ms.Perm (ns.map fun k => ((k : Nat) : Int))) (hs : ms.Pairwise (· ≤ ·)) (hn : ns.Nodup) : ∃ ks : List Nat, ms = ks.map (fun k => ((k : Nat) : Int)) ∧ ks.Pairwise (· < ·) ∧ ∀ x, x ∈ ks ↔ x ∈ ns := by
  have hnn : ∀ m ∈ ms, ∃ k : Nat, m = (k : Int) := fun m hm => by
    obtain ⟨k, _, rfl⟩ := List.mem_map.mp (hp.mem_iff.mp hm)
    exact ⟨k, rfl⟩
  refine ⟨ms.map Int.toNat, ?_, ?_, fun x => ?_⟩
  · rw [List.map_map]
    symm
    rw [List.map_congr_left (g := id), List.map_id]
    intro m hm
    obtain ⟨k, rfl⟩ := hnn m hm
    rfl
  · have hnd : ms.Nodup := hp.nodup_iff.mpr (by
      rw [List.nodup_iff_pairwise_ne, List.pairwise_map]
      exact (List.nodup_iff_pairwise_ne.mp hn).imp fun {a b} h z => h (by omega))
    rw [List.pairwise_map]
    rw [List.nodup_iff_pairwise_ne] at hnd
    refine List.Pairwise.imp_of_mem (fun {a b} ha hb h => ?_) (List.Pairwise.and hs hnd)
    obtain ⟨k, rfl⟩ := hnn a ha
    obtain ⟨j, rfl⟩ := hnn b hb
    obtain ⟨h1, h2⟩ := h
    show k < j
    have : k ≠ j := fun z => h2 (by rw [z])
    omega
  · rw [List.mem_map]
    constructor
    · rintro ⟨m, hm, rfl⟩
      obtain ⟨k, hk, rfl⟩ := List.mem_map.mp (hp.mem_iff.mp hm)
      exact hk
    · intro hx
      exact ⟨(x : Int), hp.mem_iff.mpr (List.mem_map.mpr ⟨x, hx, rfl⟩), rfl⟩
/-! ### a part, renumbered -/
def kes (es : List Edge) (ks : List Nat) : List Edge := ks.map fun k => es.getD k (0, 0, 0)
theorem kes_mem {es : List Edge} {ks : List Nat} (h : ∀ k ∈ ks, k < es.length) : ∀ e ∈ kes es ks, e ∈ es := fun e he => by
  obtain ⟨k, hk, rfl⟩ := List.mem_map.mp he
  rw [List.getD_eq_getElem?_getD, List.getElem?_eq_getElem (h k hk)]
  exact List.getElem_mem _
abbrev fT : Edge → Bool := fun _ => true
def ren (ns : List Nat) (e : Edge) : Edge := (ns.idxOf e.1, e.2.1, ns.idxOf e.2.2)
theorem idx_get {ns : List Nat} {x : Nat} (h : x ∈ ns) : ns[ns.idxOf x]? = some x := by
  rw [List.getElem?_eq_getElem (List.idxOf_lt_length_of_mem h), List.getElem_idxOf]
theorem idx_inj {ns : List Nat} {x y : Nat} (hx : x ∈ ns) (hy : y ∈ ns) (h : ns.idxOf x = ns.idxOf y) : x = y := by
  have h1 := idx_get hx
  rw [h, idx_get hy] at h1
  exact (Option.some.inj h1).symm
theorem idx_lt {ns : List Nat} (hr : ns.Pairwise (· < ·)) {x y : Nat} (hx : x ∈ ns) (hy : y ∈ ns) (h : x < y) : ns.idxOf x < ns.idxOf y := by
  rcases Nat.lt_trichotomy (ns.idxOf x) (ns.idxOf y) with c | c | c
  · exact c
  · have := idx_inj hx hy c
    omega
  · have h1 := List.idxOf_lt_length_of_mem hx
    have h2 := List.idxOf_lt_length_of_mem hy
    have := List.pairwise_iff_getElem.mp hr _ _ h2 h1 c
    rw [List.getElem_idxOf, List.getElem_idxOf] at this
    omega
theorem getD_at {es : List Edge} {k : Nat} (h : k < es.length) : es.getD k (0, 0, 0) = es[k] := by
  rw [List.getD_eq_getElem?_getD, List.getElem?_eq_getElem h]
  rfl
theorem kes_pair {P : Edge → Edge → Prop} {es : List Edge} {ks : List Nat} (h : es.Pairwise P) (hr : ks.Pairwise (· < ·)) (hk : ∀ k ∈ ks, k < es.length) : (kes es ks).Pairwise P := by
  unfold kes
  rw [List.pairwise_map]
  refine List.Pairwise.imp_of_mem (fun {a b} ha hb hab => ?_) hr
  rw [getD_at (hk a ha), getD_at (hk b hb)]
  exact List.pairwise_iff_getElem.mp h a b _ _ hab
/-- the strict order of a chart's edges -/
def ltE (e f : Edge) : Prop := e.1 < f.1 ∨ (e.1 = f.1 ∧ e.2.1 < f.2.1)
theorem ChOk.lt {c : Ch} (h : ChOk c) : c.es.Pairwise ltE := by
  have h1 := h.n10
  have h2 := h.a5
  refine List.Pairwise.imp_of_mem (fun {e f} he hf hef => ?_) (List.Pairwise.and h.srt h.ok.det)
  obtain ⟨a1, a2⟩ := hef
  obtain ⟨e1, e2, e3⟩ := h.ok.rg e he
  obtain ⟨f1, f2, f3⟩ := h.ok.rg f hf
  unfold ecode at a1
  unfold ltE
  omega
theorem lt_code {e f : Edge} (h : ltE e f) (he : e.2.1 < 16 ∧ e.2.2 < 16) (hf : f.2.1 < 16 ∧ f.2.2 < 16) : ecode e < ecode f := by
  unfold ecode
  unfold ltE at h
  omega
/-- two lists of the same rising codes -/
theorem sorted_uniq : ∀ {l m : List Edge}, l.Pairwise (fun e f => ecode e < ecode f) → m.Pairwise (fun e f => ecode e ≤ ecode f) → m.Perm l → m = l
  | [], m, _, _, p => p.eq_nil
  | x :: l, [], _, _, p => absurd p.length_eq (by simp)
  | x :: l, y :: m, h1, h2, p => by
    rw [List.pairwise_cons] at h1 h2
    have hxy : y = x := by
      rcases List.mem_cons.mp (p.mem_iff.mp List.mem_cons_self) with e | e
      · exact e
      · rcases List.mem_cons.mp (p.mem_iff.mpr (List.mem_cons_self (a := x) (l := l))) with e2 | e2
        · exact e2.symm
        · have := h1.1 y e
          have := h2.1 x e2
          omega
    subst hxy
    rw [sorted_uniq h1.2 h2.2 p.cons_inv]
structure PartOk (c : Ch) (ns ks : List Nat) : Prop where
  ch : ChOk c
  up : ks.Pairwise (· < ·)
  lt : ∀ k ∈ ks, k < c.es.length
  nr : ns.Pairwise (· < ·)
  mem : ∀ m, m ∈ ns ↔ RF fT (kes c.es ks) 0 m
  src : ∀ e ∈ kes c.es ks, RF fT (kes c.es ks) 0 e.1
def partCh (c : Ch) (ns ks : List Nat) : Ch := ⟨c.a, ns.length, (kes c.es ks).map (ren ns)⟩
section
variable {c : Ch} {ns ks : List Nat}
theorem PartOk.ends (h : PartOk c ns ks) {e : Edge} (he : e ∈ kes c.es ks) : e.1 ∈ ns ∧ e.2.2 ∈ ns := ⟨(h.mem _).mpr (h.src e he), (h.mem _).mpr (.step he rfl (h.src e he))⟩
theorem PartOk.len (h : PartOk c ns ks) : 0 < ns.length ∧ ns.length ≤ 10 := by
  have h0 : 0 ∈ ns := (h.mem 0).mpr .zero
  have hn := h.ch.n10
  have : ns.length ≤ c.n := nodup_lt (List.nodup_iff_pairwise_ne.mpr (h.nr.imp fun {a b} z => by omega)) fun x hx =>
    RF_lt h.ch.n0 (fun e he => (h.ch.ok.rg e (kes_mem h.lt e he)).2.2) ((h.mem x).mp hx)
  exact ⟨List.length_pos_of_mem h0, by omega⟩
theorem PartOk.ok (h : PartOk c ns ks) : EsOk c.a ns.length ((kes c.es ks).map (ren ns)) := by
  refine ⟨fun e he => ?_, ?_⟩
  · obtain ⟨f, hf, rfl⟩ := List.mem_map.mp he
    obtain ⟨h1, h2⟩ := h.ends hf
    exact ⟨List.idxOf_lt_length_of_mem h1, (h.ch.ok.rg f (kes_mem h.lt f hf)).2.1, List.idxOf_lt_length_of_mem h2⟩
  · rw [List.pairwise_map]
    refine List.Pairwise.imp_of_mem (fun {e f} he hf hef => ?_) (kes_pair h.ch.ok.det h.up h.lt)
    rintro ⟨z1, z2⟩
    exact hef ⟨idx_inj (h.ends he).1 (h.ends hf).1 z1, z2⟩
theorem PartOk.rising (h : PartOk c ns ks) : ((kes c.es ks).map (ren ns)).Pairwise fun e f => ecode e < ecode f := by
  rw [List.pairwise_map]
  have h5 := h.ch.a5
  have hl := h.len
  refine List.Pairwise.imp_of_mem (fun {e f} he hf hef => ?_) (kes_pair h.ch.lt h.up h.lt)
  have e1 := h.ok.rg _ (List.mem_map.mpr ⟨e, he, rfl⟩)
  have f1 := h.ok.rg _ (List.mem_map.mpr ⟨f, hf, rfl⟩)
  refine lt_code ?_ ⟨by omega, by omega⟩ ⟨by omega, by omega⟩
  rcases hef with z | ⟨z1, z2⟩
  · exact .inl (idx_lt h.nr (h.ends he).1 (h.ends hf).1 z)
  · exact .inr ⟨by show ns.idxOf e.1 = ns.idxOf f.1; rw [z1], z2⟩
theorem PartOk.zero (h : PartOk c ns ks) : ns.idxOf 0 = 0 := by
  have h0 : 0 ∈ ns := (h.mem 0).mpr .zero
  cases hns : ns with
  | nil => rw [hns] at h0; cases h0
  | cons x l =>
    have hp := h.nr
    rw [hns, List.pairwise_cons] at hp
    rw [hns] at h0
    rcases List.mem_cons.mp h0 with e | e
    · rw [← e]; simp
    · have := hp.1 0 e
      omega
theorem PartOk.reach (h : PartOk c ns ks) : ∀ t < ns.length, Reach ((kes c.es ks).map (ren ns)) t := by
  have main : ∀ m, RF fT (kes c.es ks) 0 m → Reach ((kes c.es ks).map (ren ns)) (ns.idxOf m) := fun m hm => by
    induction hm with
    | zero => rw [h.zero]; exact .zero
    | @step e he _ _ ih => exact Reach.step (e := ren ns e) (List.mem_map.mpr ⟨e, he, rfl⟩) ih
  intro t ht
  have hm : ns[t] ∈ ns := List.getElem_mem ht
  have := main _ ((h.mem _).mp hm)
  have e : ns.idxOf ns[t] = t := by
    have h1 := idx_get hm
    have h2 := List.idxOf_lt_length_of_mem hm
    rcases Nat.lt_trichotomy (ns.idxOf ns[t]) t with c | c | c
    · have := List.pairwise_iff_getElem.mp h.nr _ _ h2 ht c
      rw [List.getElem_idxOf] at this
      omega
    · exact c
    · have := List.pairwise_iff_getElem.mp h.nr _ _ ht h2 c
      rw [List.getElem_idxOf] at this
      omega
  rwa [e] at this
end
end Y
set_option Elab.async false
set_option linter.all false
set_option maxRecDepth 100000
set_option maxHeartbeats 4000000
set_option autoImplicit false
/-! contracts: mends, guards -/
namespace Y
open PySem L2
section
variable {c : Ch} {d t q r : Addr}
theorem lk_actions : (chFs c d t q r).lookup ("actions" : Str) = some (nV c.a) := by simp [chFs, ofString_beq, List.lookup]
theorem lk_states : (chFs c d t q r).lookup ("states" : Str) = some (nV c.n) := by simp [chFs, ofString_beq, List.lookup]
theorem lk_edges : (chFs c d t q r).lookup ("edges" : Str) = some (.tup (c.es.map ev)) := by simp [chFs, ofString_beq, List.lookup]
theorem lk_targets : (chFs c d t q r).lookup ("_targets" : Str) = some (.ref d) := by simp [chFs, ofString_beq, List.lookup]
theorem lk_trails : (chFs c d t q r).lookup ("_trails" : Str) = some (.ref t) := by simp [chFs, ofString_beq, List.lookup]
theorem lk_after : (chFs c d t q r).lookup ("after" : Str) = none := by simp [chFs, ofString_beq, List.lookup]
theorem lk_enabled : (chFs c d t q r).lookup ("enabled" : Str) = none := by simp [chFs, ofString_beq, List.lookup]
end
/-- what the defs read of a chart -/
theorem IsChart.get {C : Addr} {s : Store} {v : Val} {c : Ch} (h : IsChart C s v c) : ∃ (p : Addr) (fs : List (Str × Val)) (d : Addr) (es0 : List Edge), v = .ref p ∧ s p = some (.ins C fs) ∧ fs.lookup ("actions" : Str) = some (nV c.a) ∧ fs.lookup ("states" : Str) = some (nV c.n) ∧ fs.lookup ("edges" : Str) = some (.tup (c.es.map ev)) ∧
    fs.lookup ("_targets" : Str) = some (.ref d) ∧ fs.lookup ("after" : Str) = none ∧ fs.lookup ("enabled" : Str) = none ∧ es0.Perm c.es ∧ s d = some (.dic 1 (es0.map tE)) := by
  obtain ⟨p, d, t, q, r, es0, trs, h1, h2, h3, h4, h5, h6, h7, h8, h9⟩ := h.ex
  exact ⟨p, _, d, es0, h1, h2, lk_actions, lk_states, lk_edges, lk_targets, lk_after, lk_enabled, h3, h5⟩
theorem tgt_some {a n : Nat} {es : List Edge} (ok : EsOk a n es) {x b t : Nat} : tgt es x b = some t ↔ (x, b, t) ∈ es := by
  unfold tgt
  constructor
  · intro h
    rw [Option.map_eq_some_iff] at h
    obtain ⟨e, he, rfl⟩ := h
    have h1 := List.mem_of_find?_eq_some he
    have h2 := List.find?_some he
    simp at h2
    obtain ⟨rfl, rfl⟩ := h2
    exact h1
  · intro h
    cases hf : es.find? fun e => e.1 == x && e.2.1 == b with
    | none =>
      rw [List.find?_eq_none] at hf
      exact absurd (by simp) (hf _ h)
    | some e =>
      have h1 := List.mem_of_find?_eq_some hf
      have h2 := List.find?_some hf
      simp at h2
      have : e = (x, b, t) := by
        obtain ⟨i, hi⟩ := List.mem_iff_getElem?.mp h
        obtain ⟨j, hj⟩ := List.mem_iff_getElem?.mp h1
        obtain ⟨hi1, hi2⟩ := List.getElem?_eq_some_iff.mp hi
        obtain ⟨hj1, hj2⟩ := List.getElem?_eq_some_iff.mp hj
        have pw := List.pairwise_iff_getElem.mp ok.det
        rcases Nat.lt_trichotomy i j with hij | hij | hij
        · exact absurd ⟨by rw [hi2, hj2]; exact h2.1.symm, by rw [hi2, hj2]; exact h2.2.symm⟩ (pw i j hi1 hj1 hij)
        · subst hij
          rw [hi] at hj
          exact (Option.some.inj hj).symm
        · exact absurd ⟨by rw [hi2, hj2]; exact h2.1, by rw [hi2, hj2]; exact h2.2⟩ (pw j i hj1 hi1 hij)
      rw [this]
      rfl
theorem tgt_perm {a n : Nat} {es es' : List Edge} (ok : EsOk a n es) (p : es'.Perm es) (x b : Nat) : tgt es' x b = tgt es x b := by
  have ok' := ok.perm p
  cases h : tgt es x b with
  | some t => exact (tgt_some ok').mpr (p.mem_iff.mpr ((tgt_some ok).mp h))
  | none =>
    cases h' : tgt es' x b with
    | none => rfl
    | some t =>
      have := (tgt_some ok).mpr (p.mem_iff.mp ((tgt_some ok').mp h'))
      rw [h] at this
      cases this
/-! after, enabled -/
def p_Chart_after (C : Addr) : PT := fun xs s Q E => ∃ (v : Val) (c : Ch) (x b : Nat), xs = [v, nV x, nV b] ∧ IsChart C s v c ∧ ∀ s', Sub s s' → Q (((tgt c.es x b).map nV).getD .non) s'
theorem ok_after {C xs s Q E} (h : p_Chart_after C xs s Q E) : r_Chart_after C (DF Q E) (startE 3 xs) s := by
  obtain ⟨v, c, x, b, rfl, hc, q⟩ := h
  obtain ⟨p, fs, d, es0, rfl, hp, _, _, _, hd, _, _, hpm, hd2⟩ := hc.get
  simp [r_Chart_after, hp, hd, nV, hd2]
  refine ⟨1, _, ⟨rfl, rfl⟩, isKey_kE, ?_⟩
  rw [show (Val.tup [.int (x : Nat), .int (b : Nat)]) = kE x b from rfl, dlook_tE, tgt_perm hc.ok.ok hpm]
  exact q s (Sub.refl _)
def p_Chart_enabled (C : Addr) : PT := fun xs s Q E => ∃ (v : Val) (c : Ch) (x : Nat), xs = [v, nV x] ∧ IsChart C s v c ∧
  ∀ p s', s p = none → Sub s s' → s' p = some (.lst (((List.range c.a).filter fun b => (tgt c.es x b).isSome).map nV)) → Q (.ref p) s'
theorem ok_enabled {C xs s Q E} (h : p_Chart_enabled C xs s Q E) : r_Chart_enabled C (DF Q E) (startE 3 xs) s := by
  obtain ⟨v, c, x, rfl, hc, q⟩ := h
  obtain ⟨p, fs, d, es0, rfl, hp, ha, _, _, hd, _, _, hpm, hd2⟩ := hc.get
  have := hc.ok.a5
  simp [r_Chart_enabled, wLc_app, hp, ha, nV]
  refine ⟨by omega, ?_⟩
  refine LB.of ((List.range c.a).map fun k => Val.int (0 + (k : Nat))) (fun i s2 _ => dR_at) (by simp; omega) (fun y => (tgt c.es x (unN y)).isSome) (fun y => y) ?_ ?_ ?_
  · intro y hy s2 k2
    obtain ⟨k, _, rfl⟩ := List.mem_map.mp hy
    refine ⟨_, put_nm, fun Q1 h => ?_⟩
    have hp2 := k2 _ _ hp
    have hd3 := k2 _ _ hd2
    simp [hp2, hd]
    rw [oIn_tE hd3, tgt_perm hc.ok.ok hpm]
    have := h s2 (Sub.refl _)
    simp [unN] at this ⊢
    cases e : tgt c.es x k with
    | none => rw [e] at this; exact .inl ⟨rfl, this⟩
    | some t => rw [e] at this; exact .inr ⟨rfl, this⟩
  · intro y hy _ s2 k2 env3 he Q1 h
    obtain ⟨k, _, rfl⟩ := List.mem_map.mp hy
    simp at he
    subst he
    simpa using h s2 (Sub.refl _)
  · intro p2 s2 hp2 k2 h2
    refine q p2 s2 hp2 k2 ?_
    rw [h2, List.map_id', List.filter_map]
    congr 2
    simp [nV, unN, Function.comp_def]
/-! reached_by -/
def p_reached_by (C : Addr) : PT := fun xs s Q E => ∃ (v x : Val) (c : Ch) (ks : List Nat), xs = [v, x] ∧ IsChart C s v c ∧ seqOf s x = some (ks.map nV) ∧ (∀ ys, x ≠ .scr ys) ∧ (∀ k ∈ ks, k < c.es.length) ∧ ks.length ≤ 1000 ∧
  ∀ (q : Addr) (s' : Store) (ns : List Nat), s q = none → Sub s s' → ns.Pairwise (· < ·) → (∀ m, m ∈ ns ↔ RF fT (kes c.es ks) 0 m) → s' q = some (.lst (ns.map nV)) → Q (.ref q) s'
theorem contains_nat {m : Nat} {l : List Nat} : ((l.map fun k => ((k : Nat) : Int)).contains (m : Int)) = decide (m ∈ l) := by
  rw [Bool.eq_iff_iff]
  simp
  constructor
  · rintro ⟨a, ha, e⟩
    have : a = m := by omega
    rwa [← this]
  · exact fun h => ⟨m, h, rfl⟩
theorem oIn_nat {neg : Bool} {s : Store} {o : Addr} {l : List Nat} {m : Nat} {Q : QV} (h : s o = some (.lst (l.map nV))) : oIn neg (.int (m : Nat)) (.ref o) s Q ↔ Q (.bl (if neg then !decide (m ∈ l) else decide (m ∈ l))) s := by
  rw [oIn_ints_lst (ns := l.map fun k => ((k : Nat) : Int)) (by rw [h, List.map_map]; rfl), contains_nat]
theorem oIn_natT {neg : Bool} {s : Store} {l : List Nat} {m : Nat} {Q : QV} : oIn neg (.int (m : Nat)) (.tup (l.map nV)) s Q ↔ Q (.bl (if neg then !decide (m ∈ l) else decide (m ∈ l))) s := by
  have : l.map nV = (l.map fun k => ((k : Nat) : Int)).map Val.int := by rw [List.map_map]; rfl
  rw [this, oIn_ints_tup, contains_nat]
/-- sorted(list of numbers told apart) -/
theorem sort_nat {s : Store} {o : Addr} {l : List Nat} {Q : QV} (h : s o = some (.lst (l.map nV))) (hn : l.Nodup) (q : ∀ (p : Addr) (ns : List Nat), s p = none → ns.Pairwise (· < ·) → (∀ m, m ∈ ns ↔ m ∈ l) → Q (.ref p) (updS s p (.lst (ns.map nV)))) : cSortI [.ref o] s Q := by
  refine ⟨.ref o, l.map fun k => ((k : Nat) : Int), rfl, seqOf_lst (by rw [h, List.map_map]; rfl), (fun _ z => nomatch z), fun p ms hpm hpw hp => ?_⟩
  obtain ⟨ks, rfl, h1, h2⟩ := rising_of hpm hpw hn
  have := q p ks hp h1 h2
  rwa [List.map_map]
theorem ok_reached_by {C xs s Q E} (h : p_reached_by C xs s Q E) : r_reached_by C (DF Q E) (startE 8 xs) s := by
  obtain ⟨v, x, c, ks, rfl, hc, hx, hns, hk, hl, q⟩ := h
  obtain ⟨p, fs, d, es0, rfl, hp, _, _, he, _, _, _, _, _⟩ := hc.get
  have hn0 := hc.ok.n0
  have hn10 := hc.ok.n10
  have hes : ∀ e ∈ kes c.es ks, e.2.2 < c.n := fun e h => (hc.ok.ok.rg e (kes_mem hk e h)).2.2
  simp [r_reached_by]
  intro o ho
  refine ⟨fun m env s2 => ∃ i, m = c.n - i ∧ i ≤ (bfAt fT (kes c.es ks) 0 i).length ∧ Sub s s2 ∧ s2 o = some (.lst ((bfAt fT (kes c.es ks) 0 i).map nV)) ∧ ∃ v4 v5 v6 v7, env = [some (.ref p), some x, some (.ref o), some (.int (i : Nat)), v4, v5, v6, v7],
    ⟨c.n, 0, rfl, Nat.zero_le _, Sub.new ho, by simp [bfAt, nV], none, none, none, none, rfl⟩, ?_⟩
  rintro m env s2 ⟨i, rfl, hi, k2, h1, v4, v5, v6, v7, rfl⟩
  have hle := bfAt_le (f := fT) hn0 hes i
  have hok := bfAt_ok (f := fT) hn0 hes i
  simp
  rw [cLen_of (seqOf_lst h1)]
  simp
  by_cases hlt : i < (bfAt fT (kes c.es ks) 0 i).length
  · refine .inr ⟨hlt, ?_⟩
    rw [wFor_app]
    refine wISeq_val (x := x) (fun Q h => by simpa using h) (k2.seq hx) hns fun it hat => ?_
    generalize hx0 : (bfAt fT (kes c.es ks) 0 i).getD i 0 = x0
    have hxm : x0 ∈ bfAt fT (kes c.es ks) 0 i := by rw [← hx0]; exact getD_mem hlt
    refine FB.of (ks.map nV) (fun k env s3 => Sub s s3 ∧ s3 o = some (.lst ((bfRow fT (kes c.es (ks.take k)) x0 (bfAt fT (kes c.es ks) 0 i)).map nV)) ∧
      ∃ v4 v5 v6 v7, env = [some (.ref p), some x, some (.ref o), some (.int (i : Nat)), v4, v5, v6, v7]) ⟨k2, by simpa [kes, bfRow] using h1, _, _, _, _, rfl⟩ (fun k env s3 h => hat _ _ (h.1.seq hx)) ?_ ?_
    · rintro k y env s3 hy ⟨k3, g1, v4, v5, v6, v7, rfl⟩
      rw [List.getElem?_map, Option.map_eq_some_iff] at hy
      obtain ⟨z, hz, rfl⟩ := hy
      have hzl := hk z (List.mem_of_getElem? hz)
      obtain ⟨b1, b2, ⟨r, b3⟩, _⟩ := bfRow_facts (f := fT) (es := kes c.es ks) (x0 := 0) (n := c.n) (x := x0) (kes c.es (ks.take k)) (ord := bfAt fT (kes c.es ks) 0 i) (fun e h => by
        have hm : e ∈ kes c.es ks := by
          obtain ⟨w, hw, rfl⟩ := List.mem_map.mp h
          exact List.mem_map.mpr ⟨w, List.mem_of_mem_take hw, rfl⟩
        exact ⟨hm, hes e hm⟩) hok.nd hok.sound hxm
      have hlen : (bfRow fT (kes c.es (ks.take k)) x0 (bfAt fT (kes c.es ks) 0 i)).length ≤ c.n := nodup_lt b1 fun t ht => (b2 t ht).1
      have hgi : (bfRow fT (kes c.es (ks.take k)) x0 (bfAt fT (kes c.es ks) 0 i))[i]? = some x0 := by
        rw [b3, List.getElem?_append_left hlt, List.getElem?_eq_getElem hlt, ← hx0, List.getD_eq_getElem?_getD, List.getElem?_eq_getElem hlt]
        rfl
      have hnx : bfRow fT (kes c.es (ks.take (k + 1))) x0 (bfAt fT (kes c.es ks) 0 i) = bf1 fT x0 (bfRow fT (kes c.es (ks.take k)) x0 (bfAt fT (kes c.es ks) 0 i)) (c.es.getD z (0, 0, 0)) := by
        unfold bfRow kes
        rw [take_add hz, List.map_append, List.foldl_append]
        rfl
      rw [hnx]
      generalize hord : bfRow fT (kes c.es (ks.take k)) x0 (bfAt fT (kes c.es ks) 0 i) = ord at *
      generalize hee : c.es.getD z (0, 0, 0) = e at *
      have hp3 := k3 _ _ hp
      have hev := evs_at hzl
      rw [hee] at hev
      simp [nV, hp3, he, hev, ev]
      rw [oIx_lst g1, atI_nat]
      refine ⟨nV x0, by rw [List.getElem?_map, hgi]; rfl, ?_⟩
      simp [nV]
      rw [oIn_nat g1]
      by_cases hex : e.1 = x0
      · refine .inr ⟨by omega, ?_⟩
        by_cases hin : e.2.2 ∈ ord
        · refine .inl ⟨by simp [hin], k3, ?_⟩
          have : bf1 fT x0 ord e = ord := by
            unfold bf1
            rw [if_neg fun z => z.2.2 hin]
          rw [this]
          exact g1
        · refine .inr ⟨by simp [hin], tyS_list g1, ?_⟩
          rw [mAppend_of g1]
          have : bf1 fT x0 ord e = ord ++ [e.2.2] := by
            unfold bf1
            rw [if_pos ⟨hex, rfl, hin⟩]
          rw [this]
          exact ⟨by rw [List.length_map]; omega, k3.upd ho, by rw [updS_self]; simp [nV]⟩
      · refine .inl ⟨by omega, k3, ?_⟩
        have : bf1 fT x0 ord e = ord := by
          unfold bf1
          rw [if_neg fun z => hex z.1]
        rw [this]
        exact g1
    · rintro k env s3 hk2 ⟨k3, g1, v4, v5, v6, v7, rfl⟩
      rw [List.length_map] at hk2
      rw [List.take_of_length_le hk2] at g1
      have hbi : bfAt fT (kes c.es ks) 0 (i + 1) = bfRow fT (kes c.es ks) x0 (bfAt fT (kes c.es ks) 0 i) := by
        rw [bfAt, if_pos hlt, hx0]
      simp
      refine ⟨c.n - (i + 1), by omega, i + 1, rfl, ?_, k3, by rw [hbi]; exact g1, by omega⟩
      have := bfAt_ok (f := fT) hn0 hes (i + 1)
      rw [hbi]
      obtain ⟨_, _, ⟨r, b3⟩, _⟩ := bfRow_facts (f := fT) (es := kes c.es ks) (x0 := 0) (n := c.n) (x := x0) (kes c.es ks) (ord := bfAt fT (kes c.es ks) 0 i) (fun e h => ⟨h, hes e h⟩) hok.nd hok.sound hxm
      rw [b3, List.length_append]
      omega
  · refine .inl ⟨by omega, ?_⟩
    refine sort_nat h1 hok.nd fun q1 ns hq1 hpw hm => ?_
    refine q q1 _ ns (by
      cases e : s q1 with
      | none => rfl
      | some z => rw [k2 _ _ e] at hq1; cases hq1) (k2.trans (Sub.new hq1)) hpw (fun t => ?_) updS_self
    rw [hm, bfAt_mem hn0 hes (by omega)]
/-! part -/
def DB (it : DIt) (t : Tg) (tt : WB) (tk tv : WE) (vs : List Nat) (env : Env) (Q : QV) (s1 : Store) : Prop := ∀ p, s1 p = none → ∃ (n : Nat) (I : Nat → Store → Prop), I 0 (updS s1 p (.dic 0 [])) ∧ ∀ i s2, I i s2 →
  (it.at_ i s2 = some none ∧ Q (.ref p) s2) ∨ (i < n ∧ ∃ x env3, it.at_ i s2 = some (some x) ∧ t.put x (wipeE env vs) = some env3 ∧ tt env3 s2 (fun b s3 =>
    if b = true then tk env3 s3 (fun y s4 => tv env3 s4 (fun z s5 => ∃ kvs, (∃ k : Key, y = kVal k) ∧ s5 p = some (.dic 0 kvs) ∧ kvs.length < 16777216 ∧ I (i + 1) (updS s5 p (.dic 0 (dput kvs y z)))) (fun _ _ => False)) (fun _ _ => False) else I (i + 1) s3) (fun _ _ => False))
theorem wDc_app {env : Env} {s : Store} {Q : QV} {E : QE} {t : Tg} {tt : WB} {tk tv : WE} {vs : List Nat} {wi : WI} : wDc wi t tt tk tv vs env s Q E ↔ wi env s (fun it s1 => DB it t tt tk tv vs env Q s1) E := .rfl
/-- a dict by whole numbers -/
def nE (p : Nat × Nat) : Val × Val := (nV p.1, nV p.2)
theorem nV_inj {a b : Nat} : nV a = nV b ↔ a = b := by
  unfold nV
  constructor
  · intro h
    injection h with h
    omega
  · rintro rfl
    rfl
open Classical in
theorem dlook_nE {ps : List (Nat × Nat)} {m : Nat} : dlook (ps.map nE) (nV m) = ((ps.find? fun p => p.1 == m).map (·.2)).map nV := by
  unfold dlook
  rw [List.find?_map, Option.map_map, Option.map_map]
  have : (fun p : Val × Val => decide (p.1 = nV m)) ∘ nE = fun p : Nat × Nat => p.1 == m := by
    funext e
    show decide (nV e.1 = nV m) = _
    rw [Bool.eq_iff_iff]
    simp [nV_inj]
  rw [this]
  rfl
theorem dput_nE {ps : List (Nat × Nat)} {m k : Nat} (h : ∀ p ∈ ps, p.1 ≠ m) : dput (ps.map nE) (nV m) (nV k) = (ps ++ [(m, k)]).map nE := by
  unfold dput
  rw [if_neg]
  · simp [nE]
  · simp only [List.any_eq_true, List.mem_map, decide_eq_true_eq, not_exists, not_and]
    rintro _ ⟨f, hf, rfl⟩ z
    exact h f hf (nV_inj.mp z)
theorem find_zip : ∀ {ns : List Nat} {m k : Nat}, m ∈ ns → ((ns.zipIdx k).find? fun p => p.1 == m) = some (m, k + ns.idxOf m)
  | x :: ns, m, k, h => by
    rw [List.zipIdx_cons, List.find?_cons, List.idxOf_cons]
    by_cases e : x = m
    · subst e
      simp
    · have hm : m ∈ ns := by
        rcases List.mem_cons.mp h with z | z
        · exact absurd z.symm e
        · exact z
      have e2 : (x == m) = false := by simpa using e
      rw [e2]
      simp only [e2]
      rw [find_zip hm]
      simp
      omega
theorem DB.enum {it : DIt} {env : Env} {s1 : Store} {Q : QV} {tk tv : WE} {vs : List Nat} {i j : Nat} {ns : List Nat} (hat : ∀ k s2, Sub s1 s2 → it.at_ k s2 = some (enumV (ns.map nV))[k]?) (nd : ns.Nodup) (hl : ns.length ≤ 1000)
    (hk : ∀ k m s2 (Q1 : QV), Q1 (nV m) s2 → tk (((wipeE env vs).set i (some (nV k))).set j (some (nV m))) s2 Q1 (fun _ _ => False))
    (hv : ∀ k m s2 (Q1 : QV), Q1 (nV k) s2 → tv (((wipeE env vs).set i (some (nV k))).set j (some (nV m))) s2 Q1 (fun _ _ => False))
    (hd : ∀ p s2, s1 p = none → Sub s1 s2 → s2 p = some (.dic 0 (ns.zipIdx.map nE)) → Q (.ref p) s2) : DB it (.tp [.nm i, .nm j]) wYes tk tv vs env Q s1 := by
  intro p hp
  refine ⟨ns.length, fun k s2 => Sub s1 s2 ∧ s2 p = some (.dic 0 ((ns.zipIdx.take k).map nE)), ⟨(Sub.refl _).upd hp, by simp⟩, fun k s2 ⟨h1, h2⟩ => ?_⟩
  rcases Nat.lt_or_ge k ns.length with hlt | hge
  · have hg : (enumV (ns.map nV))[k]? = some (.tup [nV k, nV ns[k]]) := by
      unfold enumV
      rw [List.getElem?_mapIdx, List.getElem?_map, List.getElem?_eq_getElem hlt]
      rfl
    have hz : ns.zipIdx[k]? = some (ns[k], k) := by rw [List.getElem?_zipIdx, List.getElem?_eq_getElem hlt]; simp
    refine .inr ⟨hlt, _, _, by rw [hat k s2 h1, hg], by simp; rfl, ?_⟩
    simp only [wYes_app, if_true]
    refine hk _ _ _ _ (hv _ _ _ _ ⟨_, ⟨.inl (ns[k] : Nat), rfl⟩, h2, ?_, h1.upd hp, ?_⟩)
    · rw [List.length_map, List.length_take]
      omega
    · rw [updS_self, take_add hz, dput_nE]
      intro q hq
      obtain ⟨m, hm⟩ := List.mem_iff_getElem?.mp hq
      rw [List.getElem?_take] at hm
      split at hm
      · rename_i hmk
        rw [List.getElem?_zipIdx] at hm
        rw [List.getElem?_eq_getElem (by omega)] at hm
        simp at hm
        subst hm
        intro z
        have := List.pairwise_iff_getElem.mp (List.nodup_iff_pairwise_ne.mp nd) m k (by omega) hlt hmk
        exact this z
      · cases hm
  · refine .inl ⟨by rw [hat k s2 h1, List.getElem?_eq_none (by rw [enumV_length, List.length_map]; exact hge)], hd p s2 hp h1 ?_⟩
    rw [h2, List.take_of_length_le (by rw [List.length_zipIdx]; exact hge)]
def p_part (C : Addr) : PT := fun xs s Q E => ∃ (v x : Val) (c : Ch) (ks : List Nat), xs = [v, x] ∧ IsChart C s v c ∧ seqOf s x = some (ks.map nV) ∧ (∀ ys, x ≠ .scr ys) ∧ (∀ k ∈ ks, k < c.es.length) ∧ ks.Pairwise (· < ·) ∧ (∀ e ∈ kes c.es ks, RF fT (kes c.es ks) 0 e.1) ∧
  ∀ (v' : Val) (s' : Store) (ns : List Nat), Sub s s' → PartOk c ns ks → IsChart C s' v' (partCh c ns ks) → Q v' s'
theorem up_len {ks : List Nat} {m : Nat} (h : ks.Pairwise (· < ·)) (hk : ∀ k ∈ ks, k < m) : ks.length ≤ m := nodup_lt (List.nodup_iff_pairwise_ne.mpr (h.imp fun {a b} z => by omega)) hk
theorem ok_part {C xs s Q E} (h : p_part C xs s Q E) : r_part C (p_reached_by C) (p_Chart___init__ C) (DF Q E) (startE 12 xs) s := by
  obtain ⟨v, x, c, ks, rfl, hc, hx, hns, hk, hup, hsrc, q⟩ := h
  obtain ⟨p, fs, d, es0, rfl, hp, ha, _, he, _, _, _, _, _⟩ := hc.get
  have hkl := up_len hup hk
  have hcl := hc.ok.len
  simp [r_part]
  refine ⟨_, x, c, ks, rfl, hc, hx, hns, hk, by omega, fun a s1 ns ha1 k1 hpw hmem h1 => ?_⟩
  have po : PartOk c ns ks := ⟨hc.ok, hup, hk, hpw, hmem, hsrc⟩
  obtain ⟨l0, l10⟩ := po.len
  simp [wLc_app]
  refine wISeq_val (x := x) (fun Q h => by simpa using h) (k1.seq hx) hns fun it hat => ?_
  refine lb_map_nat (ns := ks) (g := fun k => ev (c.es.getD k (0, 0, 0))) (fun s2 j k => hat s2 j (k.seq (k1.seq hx))) (by omega) (fun k hk2 s2 k2 Q1 h => ?_) fun b s2 hb k2 h2 => ?_
  · have hp2 := k2 _ _ (k1 _ _ hp)
    have hev := evs_at (hk k hk2)
    simp [hp2, he, nV, hev]
    exact h s2 (Sub.refl _)
  have hkes : (ks.map fun k => ev (c.es.getD k (0, 0, 0))) = (kes c.es ks).map ev := by unfold kes; rw [List.map_map]; rfl
  rw [hkes] at h2
  generalize hL : kes c.es ks = L at *
  have h1' := k2 _ _ h1
  rw [wFor_app]
  refine wISeq_val (x := .ref b) (fun Q h => by simpa using h) (seqOf_lst h2) (fun _ z => nomatch z) fun it2 hat2 => ?_
  refine FB.of (L.map ev) (fun i env s3 => s3 = s2 ∧ ∃ v5 v6, env = [some (.ref p), some x, some (.ref a), some (.ref b), none, v5, v6, none, none, none, none, none]) ⟨rfl, _, _, rfl⟩ (fun i env s3 h => by rw [h.1]; exact hat2 _ _ (seqOf_lst h2)) ?_ ?_
  · rintro i y env s3 hi ⟨rfl, v5, v6, rfl⟩
    rw [List.getElem?_map, Option.map_eq_some_iff] at hi
    obtain ⟨e, he2, rfl⟩ := hi
    have hm : e.1 ∈ ns := (hmem _).mpr (hsrc e (List.mem_of_getElem? he2))
    simp [ev]
    rw [oIn_nat h1']
    simp [hm]
  · rintro i env s3 _ ⟨rfl, v5, v6, rfl⟩
    simp [wDc_app]
    have hnd : ns.Nodup := List.nodup_iff_pairwise_ne.mpr (hpw.imp fun {a b} z => by omega)
    refine ienum_of (x := .ref a) (fun Q h => by simpa using h) (seqOf_lst h1') (fun _ z => nomatch z) fun it3 hat3 => ?_
    refine DB.enum (ns := ns) (fun k s4 k4 => hat3 s4 k (seqOf_lst (k4 _ _ h1'))) hnd (by omega) (fun k m s4 Q1 h => by simpa using h) (fun k m s4 Q1 h => by simpa using h) fun g s4 hg k4 h4 => ?_
    have h2' := k4 _ _ h2
    have h1'' := k4 _ _ h1'
    rw [wLc_app]
    refine wISeq_val (x := .ref b) (fun Q h => by simpa using h) (seqOf_lst h2') (fun _ z => nomatch z) fun it4 hat4 => ?_
    have hLl : L.length < 64 := by rw [← hL]; unfold kes; rw [List.length_map]; omega
    have look : ∀ {m : Nat} {s5 : Store} {Q1 : QV}, Sub s4 s5 → m ∈ ns → (Q1 (nV (ns.idxOf m)) s5) → oIx (.ref g) (.int (m : Nat)) s5 Q1 := fun {m s5 Q1} k5 hm h => by
      unfold oIx
      simp only [k5 _ _ h4]
      refine ⟨.inl ⟨rfl, .inl (m : Nat), rfl⟩, nV (ns.idxOf m), ?_, h⟩
      show dlook _ (nV m) = _
      rw [dlook_nE, find_zip hm]
      simp
    refine lb_map_of (u := unE) (as := L) unE_ev (g := fun e => ev (ren ns e)) (fun s5 j k => hat4 s5 j (seqOf_lst (k _ _ h2'))) (by omega) (fun e he2 s5 k5 => ⟨_, by simp [ev]; rfl, fun Q1 h => ?_⟩) fun w s5 hw k5 h5 => ?_
    · have hm1 : e.1 ∈ ns := (hmem _).mpr (hsrc e he2)
      have hm2 : e.2.2 ∈ ns := (hmem _).mpr (.step he2 rfl (hsrc e he2))
      simp
      refine look k5 hm1 (look k5 hm2 ?_)
      exact h s5 (Sub.refl _)
    · have hp5 := k5 _ _ (k4 _ _ (k2 _ _ (k1 _ _ hp)))
      refine ⟨fs, hp5, nV c.a, ha, ?_⟩
      rw [cLen_of (seqOf_lst (k5 _ _ h1''))]
      simp
      intro o ho
      have hwo : w ≠ o := fun z => by rw [z, ho] at h5; cases h5
      refine ⟨o, c.a, ns.length, .ref w, (L.map (ren ns)), rfl, updS_self, seqOf_lst (by rw [updS_ne hwo, h5, List.map_map]; rfl), (fun _ z => nomatch z), (fun z => hwo (by injection z)), hc.ok.a5, l0, l10, ?_, by rw [List.length_map]; omega, ?_, fun es s6 hes hso k6 hch => ⟨rfl, ?_⟩⟩
      · have := po.ok
        rwa [hL] at this
      · have := po.reach
        rwa [hL] at this
      · have hr := po.rising
        rw [hL] at hr
        have := sorted_uniq hr hso hes
        subst this
        refine q _ _ ns ((k1.trans (k2.trans (k4.trans k5))).trans fun z oz e => k6 _ _ (fun y => by rw [y, ho] at e; cases e) (by rw [updS_ne (fun y => by rw [y, ho] at e; cases e)]; exact e)) po ?_
        unfold partCh
        rw [hL]
        exact hch
end Y
set_option Elab.async false
set_option linter.all false
set_option maxRecDepth 100000
set_option maxHeartbeats 4000000
set_option autoImplicit false
/-! plain: rounds over the edges until nothing changes -/
namespace Y
open PySem L2
def sat1 (cond : List Nat → Edge → Bool) (new : Edge → Nat) (l : List Nat) (e : Edge) : List Nat := if cond l e = true ∧ new e ∉ l then l ++ [new e] else l
def satR (cond : List Nat → Edge → Bool) (new : Edge → Nat) (es : List Edge) (l : List Nat) : List Nat := es.foldl (sat1 cond new) l
def satN (cond : List Nat → Edge → Bool) (new : Edge → Nat) (es : List Edge) (l : List Nat) : Nat → List Nat
  | 0 => l
  | k + 1 => satR cond new es (satN cond new es l k)
section
variable {cond : List Nat → Edge → Bool} {new : Edge → Nat} {es : List Edge} {n : Nat}
structure SatOk (P : Nat → Prop) (n : Nat) (l : List Nat) : Prop where
  nd : l.Nodup
  lt : ∀ x ∈ l, x < n
  P : ∀ x ∈ l, P x
theorem sat1_ok {P : Nat → Prop} {l : List Nat} {e : Edge} (h : SatOk P n l) (hn : new e < n) (hP : cond l e = true → P (new e)) : SatOk P n (sat1 cond new l e) := by
  unfold sat1
  split
  · rename_i c
    refine ⟨?_, fun x hx => ?_, fun x hx => ?_⟩
    · rw [List.nodup_append]
      exact ⟨h.nd, by simp, fun a ha b hb => by rw [List.mem_singleton] at hb; subst hb; exact fun z => c.2 (z ▸ ha)⟩
    · rcases List.mem_append.mp hx with z | z
      · exact h.lt x z
      · rw [List.mem_singleton.mp z]; exact hn
    · rcases List.mem_append.mp hx with z | z
      · exact h.P x z
      · rw [List.mem_singleton.mp z]; exact hP c.1
  · exact h
theorem sat1_app {l : List Nat} {e : Edge} : ∃ r, sat1 cond new l e = l ++ r ∧ (cond l e = true → new e ∉ l → r ≠ []) := by
  unfold sat1
  split
  · exact ⟨_, rfl, fun _ _ => by simp⟩
  · rename_i c
    exact ⟨[], by simp, fun h1 h2 => absurd ⟨h1, h2⟩ c⟩
theorem satR_app : ∀ (L : List Edge) (l : List Nat), ∃ r, satR cond new L l = l ++ r ∧ (r = [] → ∀ e ∈ L, cond l e = true → new e ∈ l)
  | [], l => ⟨[], by simp [satR], fun _ e h => nomatch h⟩
  | e :: L, l => by
    obtain ⟨r1, h1, h2⟩ := sat1_app (cond := cond) (new := new) (l := l) (e := e)
    obtain ⟨r2, h3, h4⟩ := satR_app L (sat1 cond new l e)
    have e0 : satR cond new (e :: L) l = satR cond new L (sat1 cond new l e) := rfl
    refine ⟨r1 ++ r2, by rw [e0, h3, h1, List.append_assoc], fun h f hf hc => ?_⟩
    obtain ⟨z1, z2⟩ := List.append_eq_nil_iff.mp h
    subst z1
    subst z2
    rw [List.append_nil] at h1
    rcases List.mem_cons.mp hf with rfl | hf
    · exact Decidable.byContradiction fun hn => h2 hc hn rfl
    · have := h4 rfl f hf
      rw [h1] at this
      exact this hc
theorem satR_ok {P : Nat → Prop} : ∀ (L : List Edge) {l : List Nat}, SatOk P n l → (∀ e ∈ L, new e < n) → (∀ l' e, SatOk P n l' → e ∈ L → cond l' e = true → P (new e)) → SatOk P n (satR cond new L l)
  | [], l, h, _, _ => h
  | e :: L, l, h, hn, hP => satR_ok L (sat1_ok h (hn e List.mem_cons_self) (hP l e h List.mem_cons_self)) (fun f hf => hn f (List.mem_cons_of_mem _ hf)) fun l' f a b => hP l' f a (List.mem_cons_of_mem _ b)
theorem satN_ok {P : Nat → Prop} {l : List Nat} (h : SatOk P n l) (hn : ∀ e ∈ es, new e < n) (hP : ∀ l' e, SatOk P n l' → e ∈ es → cond l' e = true → P (new e)) : ∀ k, SatOk P n (satN cond new es l k)
  | 0 => h
  | k + 1 => satR_ok es (satN_ok h hn hP k) hn hP
theorem satN_sub {l : List Nat} : ∀ k, ∀ x ∈ l, x ∈ satN cond new es l k
  | 0, x, h => h
  | k + 1, x, h => by
    obtain ⟨r, h1, _⟩ := satR_app (cond := cond) (new := new) es (satN cond new es l k)
    rw [satN, h1]
    exact List.mem_append_left _ (satN_sub k x h)
/-- behind as many rounds as there are states nothing changes -/
theorem satN_closed {l : List Nat} (h : SatOk (fun _ => True) n l) (hn : ∀ e ∈ es, new e < n) : ∀ e ∈ es, cond (satN cond new es l n) e = true → new e ∈ satN cond new es l n := by
  have main : ∀ k, (∀ e ∈ es, cond (satN cond new es l k) e = true → new e ∈ satN cond new es l k) ∨ k ≤ (satN cond new es l k).length := fun k => by
    induction k with
    | zero => exact .inr (Nat.zero_le _)
    | succ k ih =>
      obtain ⟨r, h1, h2⟩ := satR_app (cond := cond) (new := new) es (satN cond new es l k)
      by_cases hr : r = []
      · refine .inl ?_
        have e0 : satN cond new es l (k + 1) = satN cond new es l k := by rw [satN, h1, hr, List.append_nil]
        rw [e0]
        exact h2 hr
      · rcases ih with ih | ih
        · exfalso
          -- closed, so nothing is added
          have same : ∀ (L : List Edge), (∀ e ∈ L, e ∈ es) → satR cond new L (satN cond new es l k) = satN cond new es l k := fun L => by
            induction L with
            | nil => intro _; rfl
            | cons e L ihL =>
              intro hL
              have e1 : sat1 cond new (satN cond new es l k) e = satN cond new es l k := by
                unfold sat1
                rw [if_neg fun z => z.2 (ih e (hL e List.mem_cons_self) z.1)]
              show satR cond new L (sat1 cond new (satN cond new es l k) e) = _
              rw [e1]
              exact ihL fun f hf => hL f (List.mem_cons_of_mem _ hf)
          rw [same es fun e h => h] at h1
          exact hr (List.append_cancel_left (h1.symm.trans (List.append_nil _).symm))
        · refine .inr ?_
          rw [satN, h1, List.length_append]
          have := List.length_pos_iff.mpr hr
          omega
  have ok := satN_ok (cond := cond) (new := new) (es := es) h hn (fun _ _ _ _ _ => True.intro) n
  rcases main n with hc | hl
  · exact hc
  · intro e he _
    -- n different numbers below n are all of them
    refine Decidable.byContradiction fun hne => ?_
    have : (new e :: satN cond new es l n).length ≤ n := nodup_lt (List.nodup_cons.mpr ⟨hne, ok.nd⟩) fun x hx => by
      rcases List.mem_cons.mp hx with rfl | hx
      · exact hn e he
      · exact ok.lt x hx
    rw [List.length_cons] at this
    omega
end
/-! ### lost, safe -/
def unc (own : List Nat) (e : Edge) : Bool := !decide (e.2.1 ∈ own)
def lostC (own : List Nat) (l : List Nat) (e : Edge) : Bool := unc own e && decide (e.2.2 ∈ l)
def lostF (c : Ch) (bad own : List Nat) : List Nat := satN (lostC own) (fun e => e.1) c.es bad c.n
def safeC (lost : List Nat) (l : List Nat) (e : Edge) : Bool := decide (e.1 ∈ l) && !decide (e.2.2 ∈ lost)
def safeF (c : Ch) (lost : List Nat) : List Nat := satN (safeC lost) (fun e => e.2.2) c.es [0] c.n
def keepE (lost : List Nat) (e : Edge) : Bool := !decide (e.2.2 ∈ lost)
structure BadOk (c : Ch) (bad : List Nat) : Prop where
  nd : bad.Nodup
  lt : ∀ x ∈ bad, x < c.n
section
variable {c : Ch} {bad own lost : List Nat}
theorem lostF_ok (hc : ChOk c) (hb : BadOk c bad) : SatOk (fun x => ∃ b ∈ bad, RF (unc own) c.es x b) c.n (lostF c bad own) := by
  refine satN_ok ⟨hb.nd, hb.lt, fun x hx => ⟨x, hx, .zero⟩⟩ (fun e he => (hc.ok.rg e he).1) (fun l e hl he hce => ?_) c.n
  unfold lostC at hce
  simp only [Bool.and_eq_true, decide_eq_true_eq] at hce
  obtain ⟨b, hb1, hb2⟩ := hl.P _ hce.2
  refine ⟨b, hb1, ?_⟩
  -- one step ahead
  have : ∀ y, RF (unc own) c.es e.2.2 y → RF (unc own) c.es e.1 y := fun y hy => by
    induction hy with
    | zero => exact .step he hce.1 .zero
    | step h1 h2 _ ih => exact .step h1 h2 ih
  exact this b hb2
theorem lostF_bad {x : Nat} (h : x ∈ bad) : x ∈ lostF c bad own := satN_sub c.n x h
theorem lostF_closed (hc : ChOk c) (hb : BadOk c bad) {e : Edge} (he : e ∈ c.es) (h1 : e.2.1 ∉ own) (h2 : e.2.2 ∈ lostF c bad own) : e.1 ∈ lostF c bad own := by
  refine satN_closed ⟨hb.nd, hb.lt, fun _ _ => True.intro⟩ (fun e he => (hc.ok.rg e he).1) e he ?_
  unfold lostC unc
  simp only [Bool.and_eq_true, decide_eq_true_eq]
  exact ⟨by simpa using h1, h2⟩
theorem safeF_ok (hc : ChOk c) : SatOk (fun x => RF (keepE lost) c.es 0 x) c.n (safeF c lost) := by
  refine satN_ok ⟨by simp, fun x hx => by rw [List.mem_singleton.mp hx]; exact hc.n0, fun x hx => by rw [List.mem_singleton.mp hx]; exact .zero⟩ (fun e he => (hc.ok.rg e he).2.2) (fun l e hl he hce => ?_) c.n
  unfold safeC at hce
  simp only [Bool.and_eq_true, decide_eq_true_eq] at hce
  exact .step he hce.2 (hl.P _ hce.1)
theorem safeF_mem (hc : ChOk c) {x : Nat} : x ∈ safeF c lost ↔ RF (keepE lost) c.es 0 x := by
  refine ⟨(safeF_ok hc).P x, fun h => ?_⟩
  induction h with
  | zero => exact satN_sub c.n 0 (by simp)
  | @step e he hf _ ih =>
    refine satN_closed (new := fun e => e.2.2) (h := ⟨by simp, fun x hx => by rw [List.mem_singleton.mp hx]; exact hc.n0, fun _ _ => True.intro⟩) (fun e he => (hc.ok.rg e he).2.2) e he ?_
    unfold safeC
    simp only [Bool.and_eq_true, decide_eq_true_eq]
    exact ⟨ih, hf⟩
end
end Y
set_option Elab.async false
set_option linter.all false
set_option maxRecDepth 100000
set_option maxHeartbeats 4000000
set_option autoImplicit false
/-! contracts: guards -/
namespace Y
open PySem L2
/-- a list or tuple of numbers, kept under the name x -/
structure NSeq (s : Store) (x : Val) (l : List Nat) : Prop where
  seq : seqOf s x = some (l.map nV)
  ns : ∀ ys, x ≠ .scr ys
theorem NSeq.sub {s s' : Store} {x : Val} {l : List Nat} (h : NSeq s x l) (k : Sub s s') : NSeq s' x l := ⟨k.seq h.seq, h.ns⟩
theorem NSeq.lst {s : Store} {p : Addr} {l : List Nat} (h : s p = some (.lst (l.map nV))) : NSeq s (.ref p) l := ⟨seqOf_lst h, fun _ z => nomatch z⟩
theorem NSeq.tup {s : Store} {l : List Nat} : NSeq s (.tup (l.map nV)) l := ⟨rfl, fun _ z => nomatch z⟩
theorem oIn_N {neg : Bool} {s : Store} {x : Val} {l : List Nat} {m : Nat} {Q : QV} (h : NSeq s x l) : oIn neg (.int (m : Nat)) x s Q ↔ Q (.bl (if neg then !decide (m ∈ l) else decide (m ∈ l))) s := by
  obtain ⟨h, hns⟩ := h
  cases x with
  | tup ys =>
    have : ys = l.map nV := by simpa using h
    subst this
    exact oIn_natT
  | ref p => exact oIn_nat (seqOf_ref h)
  | scr ys => exact absurd rfl (hns ys)
  | _ => cases h
structure GArg (C : Addr) (s : Store) (v xb xo : Val) (c : Ch) (bad own : List Nat) : Prop where
  ch : IsChart C s v c
  b : NSeq s xb bad
  o : NSeq s xo own
  ok : BadOk c bad
theorem GArg.sub {C : Addr} {s s' : Store} {v xb xo : Val} {c : Ch} {bad own : List Nat} (h : GArg C s v xb xo c bad own) (k : Sub s s') : GArg C s' v xb xo c bad own := ⟨h.ch.sub k, h.b.sub k, h.o.sub k, h.ok⟩
def p_lost_states (C : Addr) : PT := fun xs s Q E => ∃ (v xb xo : Val) (c : Ch) (bad own : List Nat), xs = [v, xb, xo] ∧ GArg C s v xb xo c bad own ∧
  ∀ (p : Addr) (s' : Store) (ns : List Nat), s p = none → Sub s s' → ns.Pairwise (· < ·) → (∀ m, m ∈ ns ↔ m ∈ lostF c bad own) → s' p = some (.lst (ns.map nV)) → Q (.ref p) s'
theorem sat_take {cond : List Nat → Edge → Bool} {new : Edge → Nat} {es : List Edge} {l : List Nat} {k : Nat} {e : Edge} (h : es[k]? = some e) : satR cond new (es.take (k + 1)) l = sat1 cond new (satR cond new (es.take k) l) e := by
  unfold satR
  rw [take_add h, List.foldl_append]
  rfl
theorem sat_len {cond : List Nat → Edge → Bool} {new : Edge → Nat} {es : List Edge} {l : List Nat} {n i k : Nat} (h : SatOk (fun _ => True) n l) (hn : ∀ e ∈ es, new e < n) : (satR cond new (es.take k) (satN cond new es l i)).length ≤ n := by
  have := satR_ok (cond := cond) (new := new) (es.take k) (satN_ok (cond := cond) (new := new) (es := es) h hn (fun _ _ _ _ _ => True.intro) i) (fun e he => hn e (List.mem_of_mem_take he)) (fun _ _ _ _ _ => True.intro)
  exact nodup_lt this.nd this.lt
theorem none_of {s s' : Store} {p : Addr} (k : Sub s s') (h : s' p = none) : s p = none := by
  cases e : s p with
  | none => rfl
  | some z => rw [k _ _ e] at h; cases h
theorem ok_lost_states {C xs s Q E} (h : p_lost_states C xs s Q E) : r_lost_states C (DF Q E) (startE 8 xs) s := by
  obtain ⟨v, xb, xo, c, bad, own, rfl, ga, q⟩ := h
  obtain ⟨p, fs, d, es0, rfl, hp, _, hst, he, _, _, _, _, _⟩ := ga.ch.get
  have hn := ga.ch.ok.n10
  have hrg : ∀ e ∈ c.es, e.1 < c.n := fun e he => (ga.ch.ok.ok.rg e he).1
  have hso : SatOk (fun _ => True) c.n bad := ⟨ga.ok.nd, ga.ok.lt, fun _ _ => True.intro⟩
  simp [r_lost_states]
  rw [cList_of ga.b.seq]
  intro l hl
  rw [wFor_app]
  have hlp : l ≠ p := fun z => by rw [z, hp] at hl; cases hl
  simp [updS_ne hlp.symm, hp, hst, nV]
  refine ⟨by omega, ?_⟩
  have env0 : ∀ (i : Nat) (env : Env) (s2 : Store), True := fun _ _ _ => True.intro
  refine FB.of ((List.range c.n).map fun k => Val.int (0 + (k : Nat))) (fun i env s2 => i ≤ c.n ∧ Sub s s2 ∧ s2 l = some (.lst ((satN (lostC own) (fun e => e.1) c.es bad i).map nV)) ∧ ∃ v4 v5 v6 v7, env = [some (.ref p), some xb, some xo, some (.ref l), v4, v5, v6, v7])
    ⟨Nat.zero_le _, Sub.new hl, updS_self, _, _, _, _, rfl⟩ (fun i env s2 h => dR_at) ?_ ?_
  · rintro i y env s2 hi ⟨_, k2, h1, v4, v5, v6, v7, rfl⟩
    have hin : i < c.n := by simpa using (List.getElem?_eq_some_iff.mp hi).1
    refine ⟨_, by simp; rfl, ?_⟩
    rw [wFor_app]
    refine wISeq_val (x := .tup (c.es.map ev)) (fun Q h => by simp [k2 _ _ hp, he]; exact h) rfl (fun _ z => nomatch z) fun it hat => ?_
    refine FB.of (c.es.map ev) (fun k env s3 => Sub s s3 ∧ s3 l = some (.lst ((satR (lostC own) (fun e => e.1) (c.es.take k) (satN (lostC own) (fun e => e.1) c.es bad i)).map nV)) ∧ ∃ v4 v5 v6 v7, env = [some (.ref p), some xb, some xo, some (.ref l), v4, v5, v6, v7])
      ⟨k2, h1, _, _, _, _, rfl⟩ (fun k env s3 h => hat _ _ rfl) ?_ ?_
    · rintro k y env s3 hk ⟨k3, g1, v4, v5, v6, v7, rfl⟩
      rw [List.getElem?_map, Option.map_eq_some_iff] at hk
      obtain ⟨e, he2, rfl⟩ := hk
      have hlen := sat_len (cond := lostC own) (new := fun e => e.1) (es := c.es) (i := i) (k := k) hso hrg
      rw [sat_take he2]
      generalize hord : satR (lostC own) (fun e => e.1) (c.es.take k) (satN (lostC own) (fun e => e.1) c.es bad i) = ord at *
      simp [ev]
      rw [oIn_N (ga.o.sub k3)]
      have hl1 : lostC own ord e = true ↔ e.2.1 ∉ own ∧ e.2.2 ∈ ord := by simp [lostC, unc]
      by_cases c1 : e.2.1 ∈ own
      · refine .inl ⟨by simp [c1], k3, ?_⟩
        unfold sat1
        rw [if_neg fun z => (hl1.mp z.1).1 c1]
        exact g1
      · refine .inr ⟨by simp [c1], ?_⟩
        rw [oIn_nat g1]
        by_cases c2 : e.2.2 ∈ ord
        · refine .inr ⟨by simp [c2], ?_⟩
          rw [oIn_nat g1]
          by_cases c3 : e.1 ∈ ord
          · refine .inl ⟨by simp [c3], k3, ?_⟩
            unfold sat1
            rw [if_neg fun z => z.2 c3]
            exact g1
          · refine .inr ⟨by simp [c3], tyS_list g1, ?_⟩
            rw [mAppend_of g1]
            unfold sat1
            rw [if_pos ⟨hl1.mpr ⟨c1, c2⟩, c3⟩]
            exact ⟨by rw [List.length_map]; omega, k3.upd hl, by rw [updS_self]; simp [nV]⟩
        · refine .inl ⟨by simp [c2], k3, ?_⟩
          unfold sat1
          rw [if_neg fun z => c2 (hl1.mp z.1).2]
          exact g1
    · rintro k env s3 hk ⟨k3, g1, v4, v5, v6, v7, rfl⟩
      rw [List.length_map] at hk
      rw [List.take_of_length_le hk] at g1
      exact ⟨hin, k3, g1, _, _, _, _, rfl⟩
  · rintro i env s2 hi ⟨hin, k2, h1, v4, v5, v6, v7, rfl⟩
    simp at hi
    have : i = c.n := by omega
    subst this
    simp
    have hnd := (satN_ok (cond := lostC own) (new := fun e => e.1) (es := c.es) hso hrg (fun _ _ _ _ _ => True.intro) c.n).nd
    refine sort_nat h1 hnd fun q1 ns hq1 hpw hm => ?_
    exact q q1 _ ns (none_of k2 hq1) (k2.trans (Sub.new hq1)) hpw hm updS_self
end Y
set_option Elab.async false
set_option linter.all false
set_option maxRecDepth 100000
set_option maxHeartbeats 4000000
set_option autoImplicit false
/-! plain: the first of the shortest words to a bad state -/
namespace Y
open PySem L2
abbrev SW := Nat × List Nat
def lw1 (own : List Nat) (p : SW) (st : List SW) (e : Edge) : List SW := if e.1 = p.1 ∧ unc own e = true ∧ e.2.2 ∉ st.map (·.1) then st ++ [(e.2.2, p.2 ++ [e.2.1])] else st
def lwRow (own : List Nat) (es : List Edge) (p : SW) (st : List SW) : List SW := es.foldl (lw1 own p) st
def lwAt (own : List Nat) (es : List Edge) : Nat → List SW
  | 0 => [(0, [])]
  | i + 1 => if i < (lwAt own es i).length then lwRow own es ((lwAt own es i).getD i (0, [])) (lwAt own es i) else lwAt own es i
section
variable {own : List Nat} {es : List Edge}
theorem lw1_fst {p : SW} {st : List SW} {e : Edge} : (lw1 own p st e).map (·.1) = bf1 (unc own) p.1 (st.map (·.1)) e := by
  unfold lw1 bf1
  split
  · rw [List.map_append]; rfl
  · rfl
theorem lwRow_fst {p : SW} : ∀ (L : List Edge) (st : List SW), (lwRow own L p st).map (·.1) = bfRow (unc own) L p.1 (st.map (·.1))
  | [], st => rfl
  | e :: L, st => by
    show (lwRow own L p (lw1 own p st e)).map _ = bfRow (unc own) L p.1 (bf1 (unc own) p.1 (st.map (·.1)) e)
    rw [lwRow_fst L, lw1_fst]
theorem lwAt_fst : ∀ i, (lwAt own es i).map (·.1) = bfAt (unc own) es 0 i
  | 0 => rfl
  | i + 1 => by
    have ih := lwAt_fst i
    unfold lwAt bfAt
    have hl : (bfAt (unc own) es 0 i).length = (lwAt own es i).length := by rw [← ih, List.length_map]
    rw [hl]
    split
    · rename_i h
      rw [lwRow_fst, ih]
      congr 1
      rw [← ih, List.getD_eq_getElem?_getD, List.getD_eq_getElem?_getD, List.getElem?_map, List.getElem?_eq_getElem h]
      rfl
    · exact ih
theorem lwAt_len (i : Nat) : (lwAt own es i).length = (bfAt (unc own) es 0 i).length := by rw [← lwAt_fst, List.length_map]
theorem lw1_app {p : SW} {st : List SW} {e : Edge} : ∃ r, lw1 own p st e = st ++ r := by
  unfold lw1
  split
  · exact ⟨_, rfl⟩
  · exact ⟨[], by simp⟩
theorem lwRow_app {p : SW} : ∀ (L : List Edge) (st : List SW), ∃ r, lwRow own L p st = st ++ r
  | [], st => ⟨[], by simp [lwRow]⟩
  | e :: L, st => by
    obtain ⟨r1, h1⟩ := lw1_app (own := own) (p := p) (st := st) (e := e)
    obtain ⟨r2, h2⟩ := lwRow_app L (lw1 own p st e) (p := p)
    exact ⟨r1 ++ r2, by show lwRow own L p (lw1 own p st e) = _; rw [h2, h1, List.append_assoc]⟩
/-- words are short -/
def Short (st : List SW) : Prop := ∀ p ∈ st, p.2.length < st.length
theorem lw1_short {p : SW} {st : List SW} {e : Edge} (h : Short st) (hp : p ∈ st) : Short (lw1 own p st e) := by
  unfold lw1
  split
  · intro q hq
    rw [List.length_append, List.length_singleton]
    rcases List.mem_append.mp hq with z | z
    · have := h q z
      omega
    · rw [List.mem_singleton.mp z, List.length_append, List.length_singleton]
      have := h p hp
      omega
  · exact h
theorem lwRow_short {p : SW} : ∀ (L : List Edge) {st : List SW}, Short st → p ∈ st → Short (lwRow own L p st)
  | [], st, h, _ => h
  | e :: L, st, h, hp => lwRow_short L (lw1_short h hp) (by
    obtain ⟨r, h1⟩ := lw1_app (own := own) (p := p) (st := st) (e := e)
    rw [h1]
    exact List.mem_append_left _ hp)
theorem getD_memS {l : List SW} {j : Nat} (h : j < l.length) : l.getD j (0, []) ∈ l := by
  rw [List.getD_eq_getElem?_getD, List.getElem?_eq_getElem h]
  exact List.getElem_mem h
theorem lwAt_short : ∀ i, Short (lwAt own es i)
  | 0 => fun p hp => by simp [lwAt] at hp; subst hp; simp [lwAt]
  | i + 1 => by
    unfold lwAt
    split
    · rename_i h
      exact lwRow_short es (lwAt_short i) (getD_memS h)
    · exact lwAt_short i
theorem lwAt_app (i : Nat) : ∃ r, lwAt own es (i + 1) = lwAt own es i ++ r := by
  rw [lwAt]
  split
  · exact lwRow_app es _
  · exact ⟨[], by simp⟩
/-- where the walk ends -/
structure LWEnd (own bad : List Nat) (es : List Edge) (i x : Nat) (w : List Nat) : Prop where
  pre : ∀ j < i, ∃ p, (lwAt own es j)[j]? = some p ∧ p.1 ∉ bad
  at_ : (lwAt own es i)[i]? = some (x, w)
  bad : x ∈ bad
theorem LWEnd.uniq {bad : List Nat} {i j x y : Nat} {u w : List Nat} (h : LWEnd own bad es i x u) (h' : LWEnd own bad es j y w) : u = w := by
  rcases Nat.lt_trichotomy i j with c | c | c
  · obtain ⟨p, h1, h2⟩ := h'.pre i c
    rw [h.at_] at h1
    cases h1
    exact absurd h.bad h2
  · subst c
    have := h.at_
    rw [h'.at_] at this
    cases this
    rfl
  · obtain ⟨p, h1, h2⟩ := h.pre j c
    rw [h'.at_] at h1
    cases h1
    exact absurd h'.bad h2
/-- while no bad state was met, one more waits -/
theorem lw_go {bad : List Nat} {n b : Nat} (hn : 0 < n) (hes : ∀ e ∈ es, e.2.2 < n) (hb : b ∈ bad) (hr : RF (unc own) es 0 b) {i : Nat} (pre : ∀ j < i, ∃ p, (lwAt own es j)[j]? = some p ∧ p.1 ∉ bad) : i < (lwAt own es i).length := by
  rcases Nat.lt_or_ge i (lwAt own es i).length with h | h
  · exact h
  · exfalso
    have hm := (bfAt_mem (f := unc own) (es := es) hn hes (i := i) (by rw [← lwAt_len]; exact h) (t := b)).mpr hr
    obtain ⟨j, hj⟩ := List.mem_iff_getElem?.mp hm
    have hjl := (List.getElem?_eq_some_iff.mp hj).1
    rw [← lwAt_len] at hjl
    obtain ⟨p, h1, h2⟩ := pre j (by omega)
    -- the j-th one stays the j-th one
    have stay : ∀ k, (lwAt own es (j + k))[j]? = some p := fun k => by
      induction k with
      | zero => exact h1
      | succ k ih =>
        obtain ⟨r, hr⟩ := lwAt_app (own := own) (es := es) (j + k)
        rw [← Nat.add_assoc, hr, List.getElem?_append_left (List.getElem?_eq_some_iff.mp ih).1]
        exact ih
    have h3 := stay (i - j)
    rw [show j + (i - j) = i by omega] at h3
    have h4 : (bfAt (unc own) es 0 i)[j]? = some p.1 := by
      rw [← lwAt_fst, List.getElem?_map, h3]
      rfl
    rw [hj] at h4
    cases h4
    exact h2 hb
/-! edges that leave a state, by their actions -/
theorem rising_key {α : Type} {key : α → Nat} (inj : ∀ a b, key a = key b → a = b) : ∀ {l m : List α}, l.Pairwise (fun a b => key a < key b) → m.Pairwise (fun a b => key a < key b) → (∀ x, x ∈ l ↔ x ∈ m) → l = m
  | [], [], _, _, _ => rfl
  | [], y :: m, _, _, h => absurd ((h y).mpr List.mem_cons_self) (by simp)
  | x :: l, [], _, _, h => absurd ((h x).mp List.mem_cons_self) (by simp)
  | x :: l, y :: m, h1, h2, h => by
    rw [List.pairwise_cons] at h1 h2
    have hxy : x = y := by
      rcases List.mem_cons.mp ((h x).mp List.mem_cons_self) with e | e
      · exact e
      · rcases List.mem_cons.mp ((h y).mpr List.mem_cons_self) with e2 | e2
        · exact e2.symm
        · have := h1.1 y e2
          have := h2.1 x e
          omega
    subst hxy
    rw [rising_key inj h1.2 h2.2 fun z => ?_]
    constructor
    · intro hz
      rcases List.mem_cons.mp ((h z).mp (List.mem_cons_of_mem _ hz)) with e | e
      · have := h1.1 z hz
        rw [e] at this
        omega
      · exact e
    · intro hz
      rcases List.mem_cons.mp ((h z).mpr (List.mem_cons_of_mem _ hz)) with e | e
      · have := h2.1 z hz
        rw [e] at this
        omega
      · exact e
def acts (c : Ch) (x : Nat) : List Nat := (List.range c.a).filter fun b => (tgt c.es x b).isSome
def outE (c : Ch) (x : Nat) : List Edge := (acts c x).map fun b => (x, b, (tgt c.es x b).getD 0)
theorem out_filter {c : Ch} (hc : ChOk c) (x : Nat) : c.es.filter (fun e => e.1 == x) = outE c x := by
  have h1 : (c.es.filter fun e => e.1 == x).Pairwise fun e f => e.2.1 < f.2.1 := by
    refine List.Pairwise.imp_of_mem (fun {e f} he hf h => ?_) (hc.lt.filter _)
    simp at he hf
    rcases h with z | z
    · omega
    · exact z.2
  have h2 : (outE c x).Pairwise fun e f => e.2.1 < f.2.1 := by
    unfold outE acts
    rw [List.pairwise_map]
    exact List.pairwise_lt_range.filter _
  have mem : ∀ e, e ∈ c.es.filter (fun e => e.1 == x) ↔ e ∈ outE c x := fun e => by
    unfold outE acts
    simp only [List.mem_filter, List.mem_map, List.mem_range, beq_iff_eq]
    constructor
    · rintro ⟨he, rfl⟩
      have ht := (tgt_some hc.ok).mpr he
      exact ⟨e.2.1, ⟨(hc.ok.rg e he).2.1, by rw [ht]; rfl⟩, by rw [ht]; rfl⟩
    · rintro ⟨b, ⟨hb, hs⟩, rfl⟩
      obtain ⟨t, ht⟩ := Option.isSome_iff_exists.mp hs
      rw [ht]
      exact ⟨(tgt_some hc.ok).mp ht, rfl⟩
  -- told by their actions, which determine them
  have go : ∀ {l m : List Edge}, l.Pairwise (fun e f => e.2.1 < f.2.1) → m.Pairwise (fun e f => e.2.1 < f.2.1) → (∀ e, e ∈ l ↔ e ∈ m) → l = m := fun {l} => by
    induction l with
    | nil =>
      intro m _ _ h
      cases m with
      | nil => rfl
      | cons y m => exact absurd ((h y).mpr List.mem_cons_self) (by simp)
    | cons e l ih =>
      intro m g1 g2 h
      cases m with
      | nil => exact absurd ((h e).mp List.mem_cons_self) (by simp)
      | cons f m =>
        rw [List.pairwise_cons] at g1 g2
        have hef : e = f := by
          rcases List.mem_cons.mp ((h e).mp List.mem_cons_self) with z | z
          · exact z
          · rcases List.mem_cons.mp ((h f).mpr List.mem_cons_self) with z2 | z2
            · exact z2.symm
            · have := g1.1 f z2
              have := g2.1 e z
              omega
        subst hef
        rw [ih g1.2 g2.2 fun z => ?_]
        constructor
        · intro hz
          rcases List.mem_cons.mp ((h z).mp (List.mem_cons_of_mem _ hz)) with y | y
          · have := g1.1 z hz
            rw [y] at this
            omega
          · exact y
        · intro hz
          rcases List.mem_cons.mp ((h z).mpr (List.mem_cons_of_mem _ hz)) with y | y
          · have := g2.1 z hz
            rw [y] at this
            omega
          · exact y
  exact go h1 h2 mem
theorem lwRow_filter {p : SW} : ∀ (L : List Edge) (st : List SW), lwRow own L p st = lwRow own (L.filter fun e => e.1 == p.1) p st
  | [], st => rfl
  | e :: L, st => by
    show lwRow own L p (lw1 own p st e) = _
    rw [List.filter_cons]
    by_cases h : e.1 = p.1
    · rw [if_pos (by simpa using h)]
      show _ = lwRow own _ p (lw1 own p st e)
      rw [lwRow_filter L]
    · rw [if_neg (by simpa using h)]
      have : lw1 own p st e = st := by
        unfold lw1
        rw [if_neg fun z => h z.1]
      rw [this, lwRow_filter L]
end
end Y
set_option Elab.async false
set_option linter.all false
set_option maxRecDepth 100000
set_option maxHeartbeats 4000000
set_option autoImplicit false
/-! contracts: lost_word, safe_* -/
namespace Y
open PySem L2
def sE (p : SW) : Val × Val := (nV p.1, .tup (p.2.map nV))
open Classical in
theorem dlook_sE {ps : List SW} {m : Nat} : dlook (ps.map sE) (nV m) = (ps.find? fun p => p.1 == m).map fun p => .tup (p.2.map nV) := by
  unfold dlook
  rw [List.find?_map, Option.map_map]
  have : (fun p : Val × Val => decide (p.1 = nV m)) ∘ sE = fun p : SW => p.1 == m := by
    funext e
    show decide (nV e.1 = nV m) = _
    rw [Bool.eq_iff_iff]
    simp [nV_inj]
  rw [this]
  rfl
theorem dput_sE {ps : List SW} {m : Nat} {w : List Nat} (h : m ∉ ps.map (·.1)) : dput (ps.map sE) (nV m) (.tup (w.map nV)) = (ps ++ [(m, w)]).map sE := by
  unfold dput
  rw [if_neg]
  · simp [sE]
  · simp only [List.any_eq_true, List.mem_map, decide_eq_true_eq, not_exists, not_and]
    rintro _ ⟨f, hf, rfl⟩ z
    exact h (List.mem_map.mpr ⟨f, hf, nV_inj.mp z⟩)
theorem find_sw {ps : List SW} (hn : (ps.map (·.1)).Nodup) {p : SW} (h : p ∈ ps) : ps.find? (fun q => q.1 == p.1) = some p := by
  induction ps with
  | nil => cases h
  | cons q ps ih =>
    rw [List.map_cons, List.nodup_cons] at hn
    rw [List.find?_cons]
    rcases List.mem_cons.mp h with rfl | h
    · simp
    · have : (q.1 == p.1) = false := by
        simp
        exact fun z => hn.1 (z ▸ List.mem_map.mpr ⟨p, h, rfl⟩)
      rw [this]
      exact ih hn.2 h
theorem find_none {ps : List SW} {m : Nat} : (ps.find? fun p => p.1 == m).isSome = decide (m ∈ ps.map (·.1)) := by
  rw [Bool.eq_iff_iff, List.find?_isSome]
  simp
theorem isKey_nV {m : Nat} : isKey 0 (nV m) := .inl ⟨rfl, .inl (m : Nat), rfl⟩
theorem oIn_sE {neg : Bool} {s : Store} {d : Addr} {ps : List SW} {m : Nat} {Q : QV} (h : s d = some (.dic 0 (ps.map sE))) : oIn neg (.int (m : Nat)) (.ref d) s Q ↔ Q (.bl (if neg then !decide (m ∈ ps.map (·.1)) else decide (m ∈ ps.map (·.1)))) s := by
  show oIn neg (nV m) (.ref d) s Q ↔ _
  unfold oIn
  simp only [h, dlook_sE, isKey_nV, true_and, Option.isSome_map, find_none]
theorem oIx_sE {s : Store} {d : Addr} {ps : List SW} {p : SW} {Q : QV} (h : s d = some (.dic 0 (ps.map sE))) (hn : (ps.map (·.1)).Nodup) (hp : p ∈ ps) (q : Q (.tup (p.2.map nV)) s) : oIx (.ref d) (.int (p.1 : Nat)) s Q := by
  show oIx (.ref d) (nV p.1) s Q
  unfold oIx
  simp only [h]
  exact ⟨isKey_nV, _, by rw [dlook_sE, find_sw hn hp]; rfl, q⟩
def p_lost_word (C : Addr) : PT := fun xs s Q E => ∃ (v xb xo : Val) (c : Ch) (bad own : List Nat) (b : Nat), xs = [v, xb, xo] ∧ GArg C s v xb xo c bad own ∧ b ∈ bad ∧ RF (unc own) c.es 0 b ∧
  ∀ (s' : Store) (i x : Nat) (w : List Nat), Sub s s' → LWEnd own bad c.es i x w → Q (.tup (w.map nV)) s'
theorem ok_lost_word {C xs s Q E} (h : p_lost_word C xs s Q E) : r_lost_word C (p_Chart_enabled C) (p_Chart_after C) (DF Q E) (startE 9 xs) s := by
  obtain ⟨v, xb, xo, c, bad, own, b, rfl, ga, hb, hr, q⟩ := h
  obtain ⟨p, fs, d0, es0, rfl, hp, _, _, _, _, haf, hen, _, _⟩ := ga.ch.get
  have hco := ga.ch.ok
  have hn := hco.n10
  have hes : ∀ e ∈ c.es, e.2.2 < c.n := fun e he => (hco.ok.rg e he).2.2
  simp [r_lost_word]
  intro d hd
  refine ⟨⟨.inl 0, rfl⟩, fun o ho => ?_⟩
  have hod : o ≠ d := fun z => by rw [z] at ho; simp at ho
  have ho' : s o = none := by rwa [updS_ne hod, updS_ne hod] at ho
  refine ⟨fun m env s2 => ∃ i, m = c.n - i ∧ (∀ j < i, ∃ p, (lwAt own c.es j)[j]? = some p ∧ p.1 ∉ bad) ∧ Sub s s2 ∧ s2 d = some (.dic 0 ((lwAt own c.es i).map sE)) ∧ s2 o = some (.lst (((lwAt own c.es i).map (·.1)).map nV)) ∧
    ∃ v6 v7 v8, env = [some (.ref p), some xb, some xo, some (.ref d), some (.ref o), some (.int (i : Nat)), v6, v7, v8],
    ⟨c.n, 0, rfl, fun j h => absurd h (by omega), (((Sub.new hd).upd hd).upd ho'), ?_, by simp [lwAt, nV], none, none, none, rfl⟩, ?_⟩
  · rw [updS_ne hod.symm, updS_self]
    simp [lwAt, sE, nV]
  rintro m env s2 ⟨i, rfl, pre, k2, h1, h2, v6, v7, v8, rfl⟩
  have hlt := lw_go hco.n0 hes hb hr pre
  have hle : (lwAt own c.es i).length ≤ c.n := by rw [lwAt_len]; exact bfAt_le hco.n0 hes i
  have hnd : ((lwAt own c.es i).map (·.1)).Nodup := by rw [lwAt_fst]; exact (bfAt_ok (f := unc own) hco.n0 hes i).nd
  generalize hpw : (lwAt own c.es i)[i] = pw
  have hpm : pw ∈ lwAt own c.es i := by rw [← hpw]; exact List.getElem_mem hlt
  have hget : (lwAt own c.es i)[i]? = some pw := by rw [List.getElem?_eq_getElem hlt, hpw]
  have hixo : ∀ {s3 : Store} {st : List SW} {Q1 : QV}, s3 o = some (.lst ((st.map (·.1)).map nV)) → st[i]? = some pw → Q1 (.int (pw.1 : Nat)) s3 → oIx (.ref o) (.int (i : Nat)) s3 Q1 := fun {s3 st Q1} g gi gq => by
    rw [oIx_lst g, atI_nat]
    exact ⟨nV pw.1, by rw [List.getElem?_map, List.getElem?_map, gi]; rfl, gq⟩
  simp
  refine hixo h2 hget ?_
  rw [oIn_N (ga.b.sub k2)]
  by_cases hbad : pw.1 ∈ bad
  · refine .inl ⟨by simp [hbad], hixo h2 hget ?_⟩
    refine oIx_sE h1 hnd hpm ?_
    exact q s2 i pw.1 pw.2 k2 ⟨pre, hget, hbad⟩
  · refine .inr ⟨by simp [hbad], hixo h2 hget ?_⟩
    rw [wFor_app, wISeq_app]
    simp [k2 _ _ hp, hen, -List.lookup_eq_none_iff]
    refine ⟨.ref p, c, pw.1, rfl, ga.ch.sub k2, fun l s3 hl k3 h3 => ?_⟩
    refine ⟨⟨_, h3⟩, ?_⟩
    have hacts : ((List.range c.a).filter fun b => (tgt c.es pw.1 b).isSome) = acts c pw.1 := rfl
    rw [hacts] at h3
    have hld : l ≠ d := fun z => by rw [z, h1] at hl; cases hl
    have hlo : l ≠ o := fun z => by rw [z, h2] at hl; cases hl
    refine FB.of ((acts c pw.1).map nV) (fun k env s4 => Sub s s4 ∧ s4 l = some (.lst ((acts c pw.1).map nV)) ∧ s4 d = some (.dic 0 ((lwRow own ((outE c pw.1).take k) pw (lwAt own c.es i)).map sE)) ∧ s4 o = some (.lst (((lwRow own ((outE c pw.1).take k) pw (lwAt own c.es i)).map (·.1)).map nV)) ∧
      ∃ v7 v8, env = [some (.ref p), some xb, some xo, some (.ref d), some (.ref o), some (.int (i : Nat)), some (.int (pw.1 : Nat)), v7, v8])
      ⟨k2.trans k3, h3, k3 _ _ h1, k3 _ _ h2, _, _, rfl⟩ (fun k env s4 h => dL_at h.2.1) ?_ ?_
    · rintro k y env s4 hy ⟨k4, g0, g1, g2, v7, v8, rfl⟩
      rw [List.getElem?_map, Option.map_eq_some_iff] at hy
      obtain ⟨a, ha, rfl⟩ := hy
      have hae : (outE c pw.1)[k]? = some (pw.1, a, (tgt c.es pw.1 a).getD 0) := by unfold outE; rw [List.getElem?_map, ha]; rfl
      have ham : a ∈ acts c pw.1 := List.mem_of_getElem? ha
      obtain ⟨t, ht⟩ : ∃ t, tgt c.es pw.1 a = some t := by
        unfold acts at ham
        exact Option.isSome_iff_exists.mp (List.mem_filter.mp ham).2
      rw [ht] at hae
      have hem : (pw.1, a, t) ∈ c.es := (tgt_some hco.ok).mp ht
      have hto : ∀ e ∈ (outE c pw.1).take k, e ∈ c.es ∧ e.2.2 < c.n := fun e he => by
        have h0 := List.mem_of_mem_take he
        rw [← out_filter hco] at h0
        have h0 := (List.mem_filter.mp h0).1
        exact ⟨h0, hes e h0⟩
      have hbo := bfAt_ok (f := unc own) hco.n0 hes i
      obtain ⟨b1, b2, ⟨rr, b3⟩, _⟩ := bfRow_facts (f := unc own) (es := c.es) (x0 := 0) (n := c.n) (x := pw.1) ((outE c pw.1).take k) (ord := bfAt (unc own) c.es 0 i) hto hbo.nd hbo.sound (by rw [← lwAt_fst]; exact List.mem_map.mpr ⟨pw, hpm, rfl⟩)
      have hfst : (lwRow own ((outE c pw.1).take k) pw (lwAt own c.es i)).map (·.1) = bfRow (unc own) ((outE c pw.1).take k) pw.1 (bfAt (unc own) c.es 0 i) := by rw [lwRow_fst, lwAt_fst]
      have hlen : (lwRow own ((outE c pw.1).take k) pw (lwAt own c.es i)).length ≤ c.n := by
        have : ((lwRow own ((outE c pw.1).take k) pw (lwAt own c.es i)).map (·.1)).length ≤ c.n := by
          rw [hfst]
          exact nodup_lt b1 fun t ht => (b2 t ht).1
        rwa [List.length_map] at this
      have hsh := lwRow_short (own := own) ((outE c pw.1).take k) (lwAt_short (own := own) (es := c.es) i) hpm
      have hnx : lwRow own ((outE c pw.1).take (k + 1)) pw (lwAt own c.es i) = lw1 own pw (lwRow own ((outE c pw.1).take k) pw (lwAt own c.es i)) (pw.1, a, t) := by
        unfold lwRow
        rw [take_add hae, List.foldl_append]
        rfl
      obtain ⟨ra, hra⟩ := lwRow_app (own := own) (p := pw) ((outE c pw.1).take k) (lwAt own c.es i)
      rw [← hfst] at b1
      rw [hnx]
      generalize hst : lwRow own ((outE c pw.1).take k) pw (lwAt own c.es i) = st at *
      have hpst : pw ∈ st := by rw [hra]; exact List.mem_append_left _ hpm
      simp [nV, k4 _ _ hp, haf, -List.lookup_eq_none_iff]
      refine ⟨.ref p, c, pw.1, a, rfl, ga.ch.sub k4, fun s5 k5 => ?_⟩
      rw [ht]
      simp [nV]
      have k45 := k4.trans k5
      have f0 := k5 _ _ g0
      have f1 := k5 _ _ g1
      have f2 := k5 _ _ g2
      rw [oIn_N (ga.o.sub k45)]
      have hl1' : lw1 own pw st (pw.1, a, t) = if a ∉ own ∧ t ∉ st.map (·.1) then st ++ [(t, pw.2 ++ [a])] else st := by
        unfold lw1 unc
        by_cases c1 : a ∈ own
        · rw [if_neg fun z => by have := z.2.1; simp [c1] at this, if_neg fun z => z.1 c1]
        · by_cases c2 : t ∈ st.map (·.1)
          · rw [if_neg fun z => z.2.2 c2, if_neg fun z => z.2 c2]
          · rw [if_pos ⟨rfl, by simp [c1], c2⟩, if_pos ⟨c1, c2⟩]
      by_cases c1 : a ∈ own
      · refine .inl ⟨by simp [c1], k45, f0, ?_⟩
        rw [hl1', if_neg fun z => z.1 c1]
        exact ⟨f1, by simpa using f2⟩
      · refine .inr ⟨by simp [c1], ?_⟩
        rw [oIn_sE f1]
        by_cases c2 : t ∈ st.map (·.1)
        · refine .inl ⟨by simp only [c2]; simp, k45, f0, ?_⟩
          rw [hl1', if_neg fun z => z.2 c2]
          exact ⟨f1, by simpa using f2⟩
        · refine .inr ⟨by simp only [c2]; simp, ?_⟩
          refine oIx_sE f1 b1 hpst ?_
          simp
          refine ⟨by have := hsh pw hpst; omega, ?_⟩
          rw [show (Val.int (t : Nat)) = nV t from rfl, oSet_dic f1]
          refine ⟨isKey_nV, by rw [List.length_map]; omega, ?_⟩
          have f2' : updS s5 d (.dic 0 (dput (st.map sE) (nV t) (.tup (pw.2.map nV ++ [.int (a : Nat)])))) o = some (.lst ((st.map (·.1)).map nV)) := by rw [updS_ne hod]; exact f2
          refine ⟨tyS_list f2', ?_⟩
          rw [mAppend_of f2']
          rw [hl1', if_pos ⟨c1, c2⟩]
          refine ⟨by simp; omega, (k45.upd hd).upd ho', ?_, ?_, ?_⟩
          · rw [updS_ne hlo, updS_ne hld]; exact f0
          · rw [updS_ne hod.symm, updS_self, ← dput_sE c2]
            simp [nV]
          · rw [updS_self]
            simp [nV]
    · rintro k env s4 hk ⟨k4, g0, g1, g2, v7, v8, rfl⟩
      rw [List.length_map] at hk
      have hol : (outE c pw.1).length = (acts c pw.1).length := by unfold outE; rw [List.length_map]
      rw [List.take_of_length_le (by omega)] at g1 g2
      have hnext : lwAt own c.es (i + 1) = lwRow own (outE c pw.1) pw (lwAt own c.es i) := by
        rw [lwAt, if_pos hlt, lwRow_filter, List.getD_eq_getElem?_getD, hget]
        show lwRow own (c.es.filter fun e => e.1 == pw.1) pw _ = _
        rw [out_filter hco]
      simp
      refine ⟨c.n - (i + 1), by omega, i + 1, rfl, fun j hj => ?_, k4, by rw [hnext]; exact g1, by rw [hnext]; simpa using g2, by omega⟩
      by_cases e : j = i
      · subst e
        exact ⟨pw.1, ⟨pw.2, hget⟩, hbad⟩
      · obtain ⟨p', z1, z2⟩ := pre j (by omega)
        exact ⟨p'.1, ⟨p'.2, z1⟩, z2⟩
end Y
set_option Elab.async false
set_option linter.all false
set_option maxRecDepth 100000
set_option maxHeartbeats 4000000
set_option autoImplicit false
/-! contracts: safe_* -/
namespace Y
open PySem L2
def lostX (CL : Addr) (w : List Nat) : Exn := ⟨CL, [("word", .tup (w.map nV))]⟩
/-- what the three defs do where the start is lost -/
def LostEnd (CL : Addr) (c : Ch) (bad own : List Nat) (s : Store) (E : QE) : Prop := 0 ∈ lostF c bad own → ∀ (s' : Store) (i x : Nat) (w : List Nat), Sub s s' → LWEnd own bad c.es i x w → E (lostX CL w) s'
def p_safe_states (CL C : Addr) : PT := fun xs s Q E => ∃ (v xb xo : Val) (c : Ch) (bad own : List Nat), xs = [v, xb, xo] ∧ GArg C s v xb xo c bad own ∧ LostEnd CL c bad own s E ∧
  (0 ∉ lostF c bad own → ∀ (p : Addr) (s' : Store) (ns : List Nat), s p = none → Sub s s' → ns.Pairwise (· < ·) → (∀ m, m ∈ ns ↔ RF (keepE (lostF c bad own)) c.es 0 m) → s' p = some (.lst (ns.map nV)) → Q (.ref p) s')
theorem ok_safe_states {CL C xs s Q E} (h : p_safe_states CL C xs s Q E) : r_safe_states CL C (p_lost_states C) (p_lost_word C) (DF Q E) (startE 8 xs) s := by
  obtain ⟨v, xb, xo, c, bad, own, rfl, ga, ql, q⟩ := h
  obtain ⟨p, fs, d, es0, rfl, hp, _, hst, he, _, _, _, _, _⟩ := ga.ch.get
  have hco := ga.ch.ok
  have hn := hco.n10
  have hrg : ∀ e ∈ c.es, e.2.2 < c.n := fun e he => (hco.ok.rg e he).2.2
  have hso : SatOk (fun _ => True) c.n [0] := ⟨by simp, fun x hx => by rw [List.mem_singleton.mp hx]; exact hco.n0, fun _ _ => True.intro⟩
  simp [r_safe_states]
  refine ⟨_, xb, xo, c, bad, own, rfl, ga, fun lo s1 ls hlo k1 hlpw hlm h1 => ?_⟩
  refine (oIn_nat (m := 0) h1).mpr ?_
  by_cases hl0 : 0 ∈ lostF c bad own
  · refine .inr ⟨by simp [(hlm 0).mpr hl0], ?_⟩
    obtain ⟨b, hb, hr⟩ := (lostF_ok hco ga.ok).P 0 hl0
    refine ⟨_, xb, xo, c, bad, own, b, rfl, ga.sub k1, hb, hr, fun s2 i x w k2 hw => ?_⟩
    exact ql hl0 s2 i x w (k1.trans k2) hw
  · have hl0' : 0 ∉ ls := fun z => hl0 ((hlm 0).mp z)
    refine .inl ⟨by simp [hl0'], ?_⟩
    intro l hl
    have hl' : s l = none := none_of k1 hl
    have hlp : l ≠ p := fun z => by rw [z, hp] at hl'; cases hl'
    have hllo : l ≠ lo := fun z => by rw [z, h1] at hl; cases hl
    have hlost : ∀ m, decide (m ∈ ls) = decide (m ∈ lostF c bad own) := fun m => by
      rw [Bool.eq_iff_iff]
      simp [hlm]
    rw [wFor_app]
    simp [updS_ne hlp.symm, k1 _ _ hp, hst, nV]
    refine ⟨by omega, ?_⟩
    refine FB.of ((List.range c.n).map fun k => Val.int (0 + (k : Nat))) (fun i env s2 => i ≤ c.n ∧ Sub s s2 ∧ s2 lo = some (.lst (ls.map nV)) ∧ s2 l = some (.lst ((satN (safeC (lostF c bad own)) (fun e => e.2.2) c.es [0] i).map nV)) ∧ ∃ v4 v6 v7, env = [some (.ref p), some xb, some xo, some (.ref lo), v4, some (.ref l), v6, v7])
      ⟨Nat.zero_le _, k1.trans (Sub.new hl), by rw [updS_ne hllo.symm]; exact h1, by simp [satN, nV], _, _, _, rfl⟩ (fun i env s2 h => dR_at) ?_ ?_
    · rintro i y env s2 hi ⟨_, k2, g0, h2, v4, v6, v7, rfl⟩
      have hin : i < c.n := by simpa using (List.getElem?_eq_some_iff.mp hi).1
      refine ⟨_, by simp; rfl, ?_⟩
      rw [wFor_app]
      refine wISeq_val (x := .tup (c.es.map ev)) (fun Q h => by simp [k2 _ _ hp, he]; exact h) rfl (fun _ z => nomatch z) fun it hat => ?_
      refine FB.of (c.es.map ev) (fun k env s3 => Sub s s3 ∧ s3 lo = some (.lst (ls.map nV)) ∧ s3 l = some (.lst ((satR (safeC (lostF c bad own)) (fun e => e.2.2) (c.es.take k) (satN (safeC (lostF c bad own)) (fun e => e.2.2) c.es [0] i)).map nV)) ∧ ∃ v4 v6 v7, env = [some (.ref p), some xb, some xo, some (.ref lo), v4, some (.ref l), v6, v7])
        ⟨k2, g0, h2, _, _, _, rfl⟩ (fun k env s3 h => hat _ _ rfl) ?_ ?_
      · rintro k y env s3 hk ⟨k3, g1, g2, v4, v6, v7, rfl⟩
        rw [List.getElem?_map, Option.map_eq_some_iff] at hk
        obtain ⟨e, he2, rfl⟩ := hk
        have hlen := sat_len (cond := safeC (lostF c bad own)) (new := fun e => e.2.2) (es := c.es) (i := i) (k := k) hso hrg
        rw [sat_take he2]
        generalize hord : satR (safeC (lostF c bad own)) (fun e => e.2.2) (c.es.take k) (satN (safeC (lostF c bad own)) (fun e => e.2.2) c.es [0] i) = ord at *
        simp [ev]
        rw [oIn_nat g2]
        have hl1 : safeC (lostF c bad own) ord e = true ↔ e.1 ∈ ord ∧ e.2.2 ∉ lostF c bad own := by simp [safeC]
        by_cases c1 : e.1 ∈ ord
        · refine .inr ⟨by simp [c1], ?_⟩
          rw [oIn_nat g1, hlost]
          by_cases c2 : e.2.2 ∈ lostF c bad own
          · refine .inl ⟨by simp [c2], k3, g1, ?_⟩
            unfold sat1
            rw [if_neg fun z => (hl1.mp z.1).2 c2]
            exact g2
          · refine .inr ⟨by simp [c2], ?_⟩
            rw [oIn_nat g2]
            by_cases c3 : e.2.2 ∈ ord
            · refine .inl ⟨by simp [c3], k3, g1, ?_⟩
              unfold sat1
              rw [if_neg fun z => z.2 c3]
              exact g2
            · refine .inr ⟨by simp [c3], tyS_list g2, ?_⟩
              rw [mAppend_of g2]
              unfold sat1
              rw [if_pos ⟨hl1.mpr ⟨c1, c2⟩, c3⟩]
              exact ⟨by rw [List.length_map]; omega, k3.upd hl', by rw [updS_ne hllo.symm]; exact g1, by rw [updS_self]; simp [nV]⟩
        · refine .inl ⟨by simp [c1], k3, g1, ?_⟩
          unfold sat1
          rw [if_neg fun z => c1 (hl1.mp z.1).1]
          exact g2
      · rintro k env s3 hk ⟨k3, g1, g2, v4, v6, v7, rfl⟩
        rw [List.length_map] at hk
        rw [List.take_of_length_le hk] at g2
        exact ⟨hin, k3, g1, g2, _, _, _, rfl⟩
    · rintro i env s2 hi ⟨hin, k2, g1, h2, v4, v6, v7, rfl⟩
      simp at hi
      have : i = c.n := by omega
      subst this
      simp
      have hnd := (satN_ok (cond := safeC (lostF c bad own)) (new := fun e => e.2.2) (es := c.es) hso hrg (fun _ _ _ _ _ => True.intro) c.n).nd
      refine sort_nat h2 hnd fun q1 ns hq1 hpw hm => ?_
      exact q hl0 q1 _ ns (none_of k2 hq1) (k2.trans (Sub.new hq1)) hpw (fun m => (hm m).trans (safeF_mem hco)) updS_self
/-! safe_edges -/
def sEdges (c : Ch) (ns : List Nat) : List Nat := (List.range c.es.length).filter fun k => decide ((c.es.getD k (0, 0, 0)).1 ∈ ns) && decide ((c.es.getD k (0, 0, 0)).2.2 ∈ ns)
theorem sEdges_mem {c : Ch} {ns : List Nat} {k : Nat} : k ∈ sEdges c ns ↔ k < c.es.length ∧ (c.es.getD k (0, 0, 0)).1 ∈ ns ∧ (c.es.getD k (0, 0, 0)).2.2 ∈ ns := by
  unfold sEdges
  rw [List.mem_filter, List.mem_range]
  simp only [Bool.and_eq_true, decide_eq_true_eq]
structure SafeNs (c : Ch) (bad own ns : List Nat) : Prop where
  up : ns.Pairwise (· < ·)
  mem : ∀ m, m ∈ ns ↔ RF (keepE (lostF c bad own)) c.es 0 m
def p_safe_edges (CL C : Addr) : PT := fun xs s Q E => ∃ (v xb xo : Val) (c : Ch) (bad own : List Nat), xs = [v, xb, xo] ∧ GArg C s v xb xo c bad own ∧ LostEnd CL c bad own s E ∧
  (0 ∉ lostF c bad own → ∀ (s' : Store) (ns : List Nat), Sub s s' → SafeNs c bad own ns → Q (.tup ((sEdges c ns).map nV)) s')
theorem enumV_es {es : List Edge} : enumV (es.map ev) = (List.range es.length).map fun k => .tup [nV k, ev (es.getD k (0, 0, 0))] := by
  unfold enumV
  apply List.ext_getElem?
  intro j
  rw [List.getElem?_mapIdx, List.getElem?_map, List.getElem?_map]
  by_cases h : j < es.length
  · rw [List.getElem?_eq_getElem h, List.getElem?_range h]
    simp [h, nV]
  · rw [List.getElem?_eq_none (by omega), List.getElem?_eq_none (by simpa using h)]
    rfl
theorem ok_safe_edges {CL C xs s Q E} (h : p_safe_edges CL C xs s Q E) : r_safe_edges C (p_safe_states CL C) (DF Q E) (startE 6 xs) s := by
  obtain ⟨v, xb, xo, c, bad, own, rfl, ga, ql, q⟩ := h
  obtain ⟨p, fs, d, es0, rfl, hp, _, _, he, _, _, _, _, _⟩ := ga.ch.get
  have hel := ga.ch.ok.len
  simp [r_safe_edges]
  refine ⟨_, xb, xo, c, bad, own, rfl, ga, fun hl s' i x w k hw => ql hl s' i x w k hw, fun hl a s1 ns ha k1 hup hmem h1 => ?_⟩
  refine wLc_app.mpr ?_
  refine ienum_of (x := .tup (c.es.map ev)) (fun Q h => by simp [k1 _ _ hp, he]; exact h) rfl (fun _ z => nomatch z) fun it hat => ?_
  refine LB.of (enumV (c.es.map ev)) (fun i s2 _ => hat s2 i rfl) (by rw [enumV_length, List.length_map]; omega) (fun y => match y with | .tup [_, .tup [.int a, _, .int b]] => decide (a.toNat ∈ ns) && decide (b.toNat ∈ ns) | _ => false) (fun y => match y with | .tup [k, _] => k | _ => .non) ?_ ?_ ?_
  · intro y hy s2 k2
    rw [enumV_es] at hy
    obtain ⟨k, _, rfl⟩ := List.mem_map.mp hy
    clear hy
    generalize c.es.getD k (0, 0, 0) = e
    refine ⟨_, by simp; rfl, fun Q1 h => ?_⟩
    have hq := h s2 (Sub.refl _)
    have h2 := k2 _ _ h1
    simp [ev] at hq ⊢
    rw [oIn_nat h2]
    by_cases c1 : e.1 ∈ ns
    · refine .inr ⟨by simp [c1], ?_⟩
      rw [oIn_nat h2]
      by_cases c2 : e.2.2 ∈ ns
      · simpa [c1, c2] using hq
      · simpa [c1, c2] using hq
    · refine .inl ⟨by simp [c1], ?_⟩
      simpa [c1] using hq
  · intro y hy _ s2 k2 env3 he3 Q1 h
    rw [enumV_es] at hy
    obtain ⟨k, _, rfl⟩ := List.mem_map.mp hy
    simp at he3
    subst he3
    simpa using h s2 (Sub.refl _)
  · intro o s2 ho k2 h2
    have e4 : s2 o = some (.lst ((sEdges c ns).map nV)) := by
      rw [h2, enumV_es, List.filter_map, List.map_map]
      unfold sEdges
      congr 3
    rw [cTuple_of (seqOf_lst e4)]
    exact q hl s2 ns (k1.trans k2) ⟨hup, hmem⟩
/-! safe_chart -/
theorem safe_reach {c : Ch} {bad own ns : List Nat} (h : SafeNs c bad own ns) {m : Nat} : RF fT (kes c.es (sEdges c ns)) 0 m ↔ RF (keepE (lostF c bad own)) c.es 0 m := by
  constructor
  · intro hr
    refine (h.mem m).mp ?_
    cases hr with
    | zero => exact (h.mem 0).mpr .zero
    | step he _ _ =>
      obtain ⟨k, hk, rfl⟩ := List.mem_map.mp he
      exact (sEdges_mem.mp hk).2.2
  · intro hr
    induction hr with
    | zero => exact .zero
    | @step e he hf hr' ih =>
      refine .step ?_ rfl ih
      obtain ⟨k, hk⟩ := List.mem_iff_getElem?.mp he
      have hlt := (List.getElem?_eq_some_iff.mp hk).1
      have hg : c.es.getD k (0, 0, 0) = e := by rw [List.getD_eq_getElem?_getD, hk]; rfl
      refine List.mem_map.mpr ⟨k, sEdges_mem.mpr ⟨hlt, ?_, ?_⟩, hg⟩
      · rw [hg]; exact (h.mem _).mpr hr'
      · rw [hg]; exact (h.mem _).mpr (.step he hf hr')
def p_safe_chart (CL C : Addr) : PT := fun xs s Q E => ∃ (v xb xo : Val) (c : Ch) (bad own : List Nat), xs = [v, xb, xo] ∧ GArg C s v xb xo c bad own ∧ LostEnd CL c bad own s E ∧
  (0 ∉ lostF c bad own → ∀ (v' : Val) (s' : Store) (ns : List Nat), Sub s s' → SafeNs c bad own ns → PartOk c ns (sEdges c ns) → IsChart C s' v' (partCh c ns (sEdges c ns)) → Q v' s')
theorem ok_safe_chart {CL C xs s Q E} (h : p_safe_chart CL C xs s Q E) : r_safe_chart (p_part C) (p_safe_edges CL C) (DF Q E) (startE 3 xs) s := by
  obtain ⟨v, xb, xo, c, bad, own, rfl, ga, ql, q⟩ := h
  simp [r_safe_chart]
  refine ⟨v, xb, xo, c, bad, own, rfl, ga, fun hl s' i x w k hw => ql hl s' i x w k hw, fun hl s1 ns k1 sn => ?_⟩
  refine ⟨v, _, c, sEdges c ns, rfl, ga.ch.sub k1, rfl, (fun _ z => nomatch z), fun k hk => (sEdges_mem.mp hk).1, ?_, fun e he => ?_, fun v' s2 ns' k2 po hch => ?_⟩
  · unfold sEdges
    exact List.pairwise_lt_range.filter _
  · obtain ⟨k, hk, rfl⟩ := List.mem_map.mp he
    rw [safe_reach sn]
    exact (sn.mem _).mp (sEdges_mem.mp hk).2.1
  · have : ns' = ns := rising_ext po.nr sn.up fun m => by rw [po.mem, safe_reach sn, sn.mem]
    subst this
    exact q hl v' s2 ns' (k1.trans k2) sn po hch
end Y
set_option Elab.async false
set_option linter.all false
set_option maxRecDepth 100000
set_option maxHeartbeats 4000000
set_option autoImplicit false
/-! contracts: the law's tape -/
namespace Y
open PySem L2
def p__law_mixed : PT := fun xs s Q E => ∃ a k : Int, xs = [.int a, .int k] ∧ a.natAbs.log2 < 1000 ∧ k.natAbs.log2 < 1000 ∧ ∀ r : Nat, r < 2147483399 → Q (nV r) s
theorem ok_mixed {xs s Q E} (h : p__law_mixed xs s Q E) : r__law_mixed (DF Q E) (startE 3 xs) s := by
  obtain ⟨a, k, rfl, ha, hk, q⟩ := h
  have e1 : (48271 : Nat).log2 < 100 := by decide
  have e2 : (69621 : Nat).log2 < 100 := by decide
  have e3 : (16807 : Nat).log2 < 100 := by decide
  have e4 : (40692 : Nat).log2 < 100 := by decide
  have bm : ∀ z : Int, ((z % 2147483647).natAbs).log2 < 100 := fun z => by
    have h1 : (z % 2147483647).natAbs < 2 ^ 31 := by
      have := Int.emod_nonneg z (b := 2147483647) (by decide)
      have := Int.emod_lt_of_pos z (b := 2147483647) (by decide)
      omega
    have := log2_lt_of h1
    omega
  simp [r__law_mixed]
  have b0 := bm (a * 48271 + k * 69621 + 12345)
  refine ⟨by omega, by omega, by omega, by omega, ?_⟩
  generalize (a * 48271 + k * 69621 + 12345) % 2147483647 * 16807 + k * 40692 + 97 = z
  have h1 := Int.emod_nonneg z (b := 2147483399) (by decide)
  have h2 := Int.emod_lt_of_pos z (b := 2147483399) (by decide)
  have := q (z % 2147483399).toNat (by omega)
  unfold nV at this
  rwa [Int.toNat_of_nonneg h1] at this
structure TapeOk (B : Nat) (t : Addr) (s : Store) : Prop where
  ex : ∃ (l : Addr) (ns : List Int) (pos cnt seed : Nat) (rest : Nat), l ≠ t ∧ s t = some (.lst [.ref l, nV pos, nV rest, nV cnt, nV seed]) ∧ s l = some (.lst (ns.map Val.int)) ∧ cnt ≤ B ∧ seed < 2147483399
@[simp] theorem ixN5_0 : ixN 5 0 = some 0 := rfl
@[simp] theorem ixN5_1 : ixN 5 1 = some 1 := rfl
@[simp] theorem ixN5_2 : ixN 5 2 = some 2 := rfl
@[simp] theorem ixN5_3 : ixN 5 3 = some 3 := rfl
@[simp] theorem ixN5_4 : ixN 5 4 = some 4 := rfl
def HeadL (l t : Addr) (s : Store) : Prop := ∃ r, s t = some (.lst (.ref l :: r))
def LSame (t : Addr) (s s' : Store) : Prop := ∀ l, HeadL l t s → HeadL l t s'
def p__law_take : PT := fun xs s Q E => ∃ (B : Nat) (t : Addr) (m : Nat), xs = [.ref t, nV m] ∧ TapeOk B t s ∧ B < 1000000000 ∧ 0 < m ∧ m < 1000 ∧ ∀ (k : Nat) (s' : Store), k < m → SubP t s s' → TapeOk (B + 1) t s' → LSame t s s' → Q (nV k) s'
theorem log2_small {n : Nat} (h : n < 2 ^ 70) : n.log2 < 1000 := by have := log2_lt_of h; omega
theorem ok_take {xs s Q E} (h : p__law_take xs s Q E) : r__law_take p__law_mixed (DF Q E) (startE 3 xs) s := by
  obtain ⟨B, t, m, rfl, tp, hB, hm0, hm, q⟩ := h
  obtain ⟨l, ns, pos, cnt, seed, rest, hlt, ht, hl, hc, hs⟩ := tp.ex
  have hml : m.log2 < 1000 := log2_small (by omega)
  -- the end: what is told, and the tape then
  have fin : ∀ (z : Int) (s' : Store) (pos' rest' seed' : Nat), SubP t s s' → s' t = some (.lst [.ref l, nV pos', nV rest', nV (cnt + 1), nV seed']) → seed' < 2147483399 → Q (.int (z % (m : Nat))) s' := fun z s' pos' rest' seed' k h hs' => by
    have h1 := Int.emod_nonneg z (b := (m : Nat)) (by omega)
    have h2 := Int.emod_lt_of_pos z (b := (m : Nat)) (by omega)
    have := q (z % (m : Nat)).toNat s' (by omega) k ⟨l, ns, pos', cnt + 1, seed', rest', hlt, h, k _ _ hlt hl, by omega, hs'⟩ (fun l' hl' => by
      obtain ⟨r, hr⟩ := hl'
      rw [ht] at hr
      cases hr
      exact ⟨_, h⟩)
    unfold nV at this
    rwa [Int.toNat_of_nonneg h1] at this
  simp [r__law_take, nV]
  rw [oIx_lst ht]
  simp [nV]
  rw [oSet_lst ht]
  simp [nV]
  generalize hs1 : updS s t (.lst [.ref l, nV pos, nV rest, nV (cnt + 1), nV seed]) = s1
  have ht1 : s1 t = some (.lst [.ref l, nV pos, nV rest, nV (cnt + 1), nV seed]) := by rw [← hs1, updS_self]
  have hl1 : s1 l = some (.lst (ns.map Val.int)) := by rw [← hs1, updS_ne hlt]; exact hl
  have k1 : SubP t s s1 := by rw [← hs1]; exact SubP.set
  have hs1' : updS s t (.lst [.ref l, .int (pos : Nat), .int (rest : Nat), .int ((cnt : Nat) + 1), .int (seed : Nat)]) = s1 := by rw [← hs1]; simp [nV]
  rw [hs1', oIx_lst ht1]
  simp [nV]
  have ixt : ∀ {s2 : Store} {pos' rest' seed' : Nat} {Q1 : QV}, s2 t = some (.lst [.ref l, nV pos', nV rest', nV (cnt + 1), nV seed']) → (Q1 (.ref l) s2 → oIx (.ref t) (.int 0) s2 Q1) ∧ (Q1 (.int (pos' : Nat)) s2 → oIx (.ref t) (.int 1) s2 Q1) ∧ (Q1 (.int (rest' : Nat)) s2 → oIx (.ref t) (.int 2) s2 Q1) ∧
      (Q1 (.int ((cnt + 1 : Nat) : Int)) s2 → oIx (.ref t) (.int 3) s2 Q1) ∧ (Q1 (.int (seed' : Nat)) s2 → oIx (.ref t) (.int 4) s2 Q1) := fun {s2 pos' rest' seed' Q1} h => by
    rw [oIx_lst h, oIx_lst h, oIx_lst h, oIx_lst h, oIx_lst h]
    simp [nV]
  have hcl : (cnt + 1).log2 < 1000 := log2_small (by omega)
  have mixed : ∀ {s2 : Store} {pos' rest' seed' : Nat} {z : Int} {j : Nat}, SubP t s s2 → s2 t = some (.lst [.ref l, nV pos', nV rest', nV (cnt + 1), nV seed']) → z.natAbs.log2 < 1000 → 0 < j → j < 100 → p__law_mixed [.int z, .int ((cnt + 1 : Nat) : Int)] s2
      (fun v s1 => oSet (.ref t) (.int 4) v s1 fun s4 => oIx (.ref t) (.int 4) s4 fun x s1 => oFdiv x (.int (j : Nat)) s1 fun x s1 => cInt [x] s1 fun x s1 => oMod x (.int (m : Nat)) s1 Q) (fun x s1 => E x s1) := fun {s2 pos' rest' seed' z j} k h hz hj hj2 => by
    refine ⟨z, _, rfl, hz, by rw [Int.natAbs_natCast]; exact hcl, fun r hr => ?_⟩
    refine (oSet_lst h).mpr ⟨4, rfl, ?_⟩
    have e : updS s2 t (.lst ([Val.ref l, nV pos', nV rest', nV (cnt + 1), nV seed'].set 4 (nV r))) t = some (.lst [.ref l, nV pos', nV rest', nV (cnt + 1), nV r]) := updS_self
    refine (ixt e).2.2.2.2 ?_
    have hjl : j.log2 < 1000 := log2_small (by omega)
    rw [oFdiv_int, cInt_one, oMod_int]
    refine ⟨⟨by omega, by simp; omega⟩, by omega, ?_⟩
    exact fin _ _ _ _ _ (k.trans SubP.set) e hr
  have tailZ : ∀ {s2 : Store} {pos' seed' : Nat}, SubP t s s2 → s2 t = some (.lst [.ref l, nV pos', nV 0, nV (cnt + 1), nV seed']) → seed' < 2147483399 → (oIx (.ref t) (.int 4) s2 fun x s1 => oIx (.ref t) (.int 3) s1 fun x_1 s1 => p__law_mixed [x, x_1] s1
      (fun v s1 => oSet (.ref t) (.int 4) v s1 fun s4 => oIx (.ref t) (.int 4) s4 fun x s1 => oFdiv x (.int 7) s1 fun x s1 => cInt [x] s1 fun x s1 => oMod x (.int (m : Nat)) s1 Q) (fun x s1 => E x s1)) := fun {s2 pos' seed'} k h hs' => by
    refine (ixt h).2.2.2.2 ((ixt h).2.2.2.1 ?_)
    exact mixed (j := 7) k h (log2_small (by rw [Int.natAbs_natCast]; omega)) (by decide) (by decide)
  have tailP : ∀ {s2 : Store} {pos' rest' seed' : Nat}, SubP t s s2 → s2 t = some (.lst [.ref l, nV pos', nV rest', nV (cnt + 1), nV seed']) → seed' < 2147483399 → (oIx (.ref t) (.int 2) s2 fun v s1 => oFdiv v (.int (m : Nat)) s1 fun v_1 s1 => oSet (.ref t) (.int 2) v_1 s1 fun s4 => cInt [v] s4 fun x s1 => oMod x (.int (m : Nat)) s1 Q) := fun {s2 pos' rest' seed'} k h hs' => by
    refine (ixt h).2.2.1 ?_
    rw [oFdiv_int, oSet_lst h]
    refine ⟨⟨by omega, by simp; omega⟩, 2, rfl, ?_⟩
    rw [cInt_one, oMod_int]
    refine ⟨by omega, fin _ _ pos' (rest' / m) seed' (k.trans SubP.set) ?_ hs'⟩
    rw [updS_self]
    simp [nV]
  have tail : ∀ {s2 : Store} {pos' rest' seed' : Nat}, SubP t s s2 → s2 t = some (.lst [.ref l, nV pos', nV rest', nV (cnt + 1), nV seed']) → seed' < 2147483399 → (oIx (.ref t) (.int 2) s2 fun x s1 => oGt x (.int 0) s1 fun x s1 => (x = Val.bl false ∧ (oIx (.ref t) (.int 4) s1 fun x s1 => oIx (.ref t) (.int 3) s1 fun x_1 s1 => p__law_mixed [x, x_1] s1
      (fun v s1 => oSet (.ref t) (.int 4) v s1 fun s4 => oIx (.ref t) (.int 4) s4 fun x s1 => oFdiv x (.int 7) s1 fun x s1 => cInt [x] s1 fun x s1 => oMod x (.int (m : Nat)) s1 Q) (fun x s1 => E x s1))) ∨ (x = Val.bl true ∧ oIx (.ref t) (.int 2) s1 fun v s1 => oFdiv v (.int (m : Nat)) s1 fun v_1 s1 => oSet (.ref t) (.int 2) v_1 s1 fun s4 => cInt [v] s4 fun x s1 => oMod x (.int (m : Nat)) s1 Q)) := fun {s2 pos' rest' seed'} k h hs' => by
    refine (ixt h).2.2.1 ?_
    rw [oGt_int]
    by_cases hr : rest' = 0
    · subst hr
      exact .inl ⟨by simp, tailZ k h hs'⟩
    · exact .inr ⟨by simp; omega, tailP k h hs'⟩
  by_cases hr : rest = 0
  · refine .inr ⟨hr, ?_⟩
    subst hr
    refine (ixt ht1).2.1 ((ixt ht1).1 ?_)
    rw [cLen_of (seqOf_lst hl1), oLt_int, List.length_map]
    by_cases hp : pos < ns.length
    · refine .inr ⟨by simp; omega, ?_⟩
      refine (ixt ht1).1 ((ixt ht1).2.1 ?_)
      rw [oIx_lst hl1, atI_nat]
      refine ⟨.int ns[pos], by rw [List.getElem?_map, List.getElem?_eq_getElem hp]; rfl, ?_⟩
      rw [cAbs_one]
      have hab : (if ns[pos] < 0 then -ns[pos] else ns[pos]) = ((ns[pos].natAbs : Nat) : Int) := by
        split <;> omega
      rw [hab]
      generalize ns[pos].natAbs = z
      refine (ixt ht1).2.1 ?_
      rw [oAdd_int, oSet_lst ht1]
      refine ⟨1, rfl, ⟨by decide, by decide, by decide⟩, ?_⟩
      generalize hs2 : updS s1 t (.lst ([Val.ref l, nV pos, nV 0, nV (cnt + 1), nV seed].set 1 (.int ((pos : Nat) + 1)))) = s2
      have ht2 : s2 t = some (.lst [.ref l, nV (pos + 1), nV 0, nV (cnt + 1), nV seed]) := by rw [← hs2, updS_self]; simp [nV]
      have k2 : SubP t s s2 := by rw [← hs2]; exact k1.trans SubP.set
      rw [oLt_int]
      by_cases hz : z < 1000000000000000000
      · refine .inr ⟨by simp; omega, ?_⟩
        refine (ixt ht2).2.2.2.2 ?_
        rw [oAdd_int]
        refine (ixt ht2).2.2.2.1 ?_
        have : ((seed : Nat) : Int) + (z : Nat) = ((seed + z : Nat) : Int) := by omega
        rw [this]
        exact mixed (j := 5) k2 ht2 (log2_small (by rw [Int.natAbs_natCast]; omega)) (by decide) (by decide)
      · refine .inl ⟨by simp; omega, ?_⟩
        rw [oSet_lst ht2]
        refine ⟨2, rfl, ?_⟩
        exact tail (rest' := z) (pos' := pos + 1) (seed' := seed) (k2.trans SubP.set) (by rw [updS_self]; rfl) hs
    · refine .inl ⟨by simp; omega, ?_⟩
      exact tail k1 ht1 hs
  · exact .inl ⟨hr, tail k1 ht1 hs⟩
end Y
set_option Elab.async false
set_option linter.all false
set_option maxRecDepth 100000
set_option maxHeartbeats 4000000
set_option autoImplicit false
/-! contracts: the law's charts -/
namespace Y
open PySem L2
theorem cover : ∀ {m : Nat} {l : List Nat}, (∀ x < m, x ∈ l) → m ≤ l.length
  | 0, _, _ => Nat.zero_le _
  | m + 1, l, h => by
    have hm := h m (by omega)
    have := cover (m := m) (l := l.erase m) fun x hx => (List.mem_erase_of_ne (by omega)).mpr (h x (by omega))
    rw [List.length_erase_of_mem hm] at this
    have := List.length_pos_of_mem hm
    omega
theorem mod_all {n src i : Nat} (hi : i < n) : ∃ k, k < n ∧ (src + k) % n = i := by
  refine ⟨(i + n - src % n) % n, Nat.mod_lt _ (by omega), ?_⟩
  have h1 := Nat.mod_lt src (by omega : n > 0)
  have h2 := Nat.div_add_mod src n
  rw [Nat.add_mod_mod]
  have : src + (i + n - src % n) = i + n * (src / n + 1) := by
    rw [Nat.mul_add, Nat.mul_one]
    omega
  rw [this, Nat.add_mul_mod_self_left, Nat.mod_eq_of_lt hi]
theorem all_used {n a : Nat} {D : List Edge} (h : ∀ i < n, ∀ j < a, tgt D i j ≠ none) : n * a ≤ D.length := by
  have := cover (m := n * a) (l := D.map fun e => e.1 * a + e.2.1) fun x hx => by
    have ha : 0 < a := by
      rcases Nat.eq_zero_or_pos a with z | z
      · rw [z, Nat.mul_zero] at hx
        omega
      · exact z
    have hi : x / a < n := (Nat.div_lt_iff_lt_mul ha).mpr hx
    have hj := Nat.mod_lt x ha
    have hne := h _ hi _ hj
    unfold tgt at hne
    cases hf : D.find? fun e => e.1 == x / a && e.2.1 == x % a with
    | none => rw [hf] at hne; exact absurd rfl hne
    | some e =>
      have h2 := List.find?_some hf
      simp at h2
      refine List.mem_map.mpr ⟨e, List.mem_of_find?_eq_some hf, ?_⟩
      rw [h2.1, h2.2, Nat.mul_comm]
      exact Nat.div_add_mod x a
  rwa [List.length_map] at this
def p__law_place : PT := fun xs s Q E => ∃ (d : Addr) (D : List Edge) (src act n a : Nat), xs = [.ref d, nV src, nV act, nV n, nV a] ∧ s d = some (.dic 1 (D.map tE)) ∧ n ≤ 1000 ∧ a ≤ 1000 ∧ D.length < n * a ∧
  ∀ i j, i < n → j < a → tgt D i j = none → Q (.tup [nV i, nV j]) s
theorem cast_mod {x y n : Nat} : (((x : Nat) : Int) + (y : Nat)) % (n : Nat) = (((x + y) % n : Nat) : Int) := by
  rw [← Int.natCast_add, ← Int.natCast_emod]
theorem ok_place {xs s Q E} (h : p__law_place xs s Q E) : r__law_place (DF Q E) (startE 8 xs) s := by
  obtain ⟨d, D, src, act, n, a, rfl, hd, hn, ha, hD, q⟩ := h
  have hna : 0 < n ∧ 0 < a := by
    rcases Nat.eq_zero_or_pos n with z | z
    · rw [z, Nat.zero_mul] at hD; omega
    · rcases Nat.eq_zero_or_pos a with y | y
      · rw [y, Nat.mul_zero] at hD; omega
      · exact ⟨z, y⟩
  simp [r__law_place, wFor_app, nV]
  refine ⟨by omega, ?_⟩
  refine FB.of ((List.range n).map fun k => Val.int (0 + (k : Nat))) (fun k env s2 => s2 = s ∧ (∀ k' < k, ∀ j < a, tgt D ((src + k') % n) ((act + j) % a) ≠ none) ∧ ∃ v5 v6 v7, env = [some (.ref d), some (.int (src : Nat)), some (.int (act : Nat)), some (.int (n : Nat)), some (.int (a : Nat)), v5, v6, v7])
    ⟨rfl, fun k' h => absurd h (by omega), _, _, _, rfl⟩ (fun k env s2 h => dR_at) ?_ ?_
  · rintro k y env s2 hk ⟨rfl, hu, v5, v6, v7, rfl⟩
    rw [List.getElem?_map, Option.map_eq_some_iff] at hk
    obtain ⟨m, hm, rfl⟩ := hk
    have hmk : m = k := by
      obtain ⟨h1, h2⟩ := List.getElem?_eq_some_iff.mp hm
      rw [← h2, List.getElem_range]
    subst hmk
    refine ⟨_, by simp; rfl, ?_⟩
    simp [wFor_app]
    refine ⟨by omega, ?_⟩
    refine FB.of ((List.range a).map fun k => Val.int (0 + (k : Nat))) (fun j env s3 => s3 = s2 ∧ (∀ j' < j, tgt D ((src + m) % n) ((act + j') % a) ≠ none) ∧ ∃ v6 v7, env = [some (.ref d), some (.int (src : Nat)), some (.int (act : Nat)), some (.int (n : Nat)), some (.int (a : Nat)), some (.int (m : Nat)), v6, v7])
      ⟨rfl, fun k' h => absurd h (by omega), _, _, rfl⟩ (fun k env s2 h => dR_at) ?_ ?_
    · rintro j y env s3 hj ⟨rfl, hv, v6, v7, rfl⟩
      rw [List.getElem?_map, Option.map_eq_some_iff] at hj
      obtain ⟨j2, hj2, rfl⟩ := hj
      have hjj : j2 = j := by
        obtain ⟨h1, h2⟩ := List.getElem?_eq_some_iff.mp hj2
        rw [← h2, List.getElem_range]
      subst hjj
      refine ⟨_, by simp; rfl, ?_⟩
      simp
      refine ⟨hna.1, hna.2, ?_⟩
      rw [cast_mod, cast_mod, oIn_tE hd]
      cases ht : tgt D ((src + m) % n) ((act + j2) % a) with
      | none =>
        refine .inr ⟨by simp, ?_⟩
        exact q _ _ (Nat.mod_lt _ hna.1) (Nat.mod_lt _ hna.2) ht
      | some t =>
        refine .inl ⟨by simp, rfl, fun j' hj' => ?_⟩
        by_cases e : j' = j2
        · subst e
          rw [ht]
          exact fun z => nomatch z
        · exact hv j' (by omega)
    · rintro j env s3 hj ⟨rfl, hv, v6, v7, rfl⟩
      simp at hj
      refine ⟨rfl, fun k' hk' j' hj' => ?_, _, _, _, rfl⟩
      by_cases e : k' = m
      · subst e
        exact hv j' (by omega)
      · exact hu k' (by omega) j' hj'
  · rintro k env s2 hk ⟨rfl, hu, v5, v6, v7, rfl⟩
    simp at hk
    exfalso
    have := all_used (n := n) (a := a) (D := D) fun i hi j hj => by
      obtain ⟨k1, h1, h2⟩ := mod_all (src := src) hi
      obtain ⟨j1, h3, h4⟩ := mod_all (src := act) hj
      have := hu k1 (by omega) j1 h3
      rwa [h2, h4] at this
    omega
/-! _law_edges -/
theorem TapeOk.mono {A B : Nat} {t : Addr} {s : Store} (h : TapeOk A t s) (hab : A ≤ B) : TapeOk B t s := by
  obtain ⟨l, ns, pos, cnt, seed, rest, h1, h2, h3, h4, h5⟩ := h.ex
  exact ⟨l, ns, pos, cnt, seed, rest, h1, h2, h3, by omega, h5⟩
theorem TapeOk.keep {B : Nat} {t : Addr} {s s' : Store} (h : TapeOk B t s) (k : Sub s s') : TapeOk B t s' := by
  obtain ⟨l, ns, pos, cnt, seed, rest, h1, h2, h3, h4, h5⟩ := h.ex
  exact ⟨l, ns, pos, cnt, seed, rest, h1, k _ _ h2, k _ _ h3, h4, h5⟩
theorem TapeOk.set {B : Nat} {t d : Addr} {s : Store} {o : Ob} (h : TapeOk B t s) (hd : ∀ xs, s d ≠ some (.lst xs)) : TapeOk B t (updS s d o) := by
  obtain ⟨l, ns, pos, cnt, seed, rest, h1, h2, h3, h4, h5⟩ := h.ex
  exact ⟨l, ns, pos, cnt, seed, rest, h1, by rw [updS_ne (fun z => hd _ (z ▸ h2))]; exact h2, by rw [updS_ne (fun z => hd _ (z ▸ h3))]; exact h3, h4, h5⟩
theorem TapeOk.some {B : Nat} {t : Addr} {s : Store} (h : TapeOk B t s) : ∃ xs, s t = some (.lst xs) := by
  obtain ⟨l, ns, pos, cnt, seed, rest, h1, h2, h3, h4, h5⟩ := h.ex
  exact ⟨_, h2⟩
theorem EsOk.len {a n : Nat} {es : List Edge} (h : EsOk a n es) : es.length ≤ n * a := by
  have : (es.map fun e => e.1 * a + e.2.1).length ≤ n * a := nodup_lt (by
    rw [List.nodup_iff_pairwise_ne, List.pairwise_map]
    refine List.Pairwise.imp_of_mem (fun {e f} he hf hef z => hef ?_) h.det
    obtain ⟨_, e2, _⟩ := h.rg e he
    obtain ⟨_, f2, _⟩ := h.rg f hf
    have h1 : (e.1 * a + e.2.1) / a = e.1 := by rw [Nat.mul_comm, Nat.mul_add_div (by omega), Nat.div_eq_of_lt e2, Nat.add_zero]
    have h2 : (f.1 * a + f.2.1) / a = f.1 := by rw [Nat.mul_comm, Nat.mul_add_div (by omega), Nat.div_eq_of_lt f2, Nat.add_zero]
    have h3 : e.1 = f.1 := by rw [← h1, ← h2, z]
    refine ⟨h3, ?_⟩
    rw [h3] at z
    omega) fun x hx => by
      obtain ⟨e, he, rfl⟩ := List.mem_map.mp hx
      obtain ⟨e1, e2, _⟩ := h.rg e he
      calc e.1 * a + e.2.1 < e.1 * a + a := by omega
        _ = (e.1 + 1) * a := by rw [Nat.add_mul, Nat.one_mul]
        _ ≤ n * a := Nat.mul_le_mul_right _ e1
  rwa [List.length_map] at this
theorem EsOk.add {a n x b t : Nat} {D : List Edge} (h : EsOk a n D) (hx : x < n) (hb : b < a) (ht : t < n) (hn : tgt D x b = none) : EsOk a n (D ++ [(x, b, t)]) := by
  refine ⟨fun e he => ?_, ?_⟩
  · rcases List.mem_append.mp he with z | z
    · exact h.rg e z
    · rw [List.mem_singleton.mp z]
      exact ⟨hx, hb, ht⟩
  · rw [List.pairwise_append]
    refine ⟨h.det, by simp, fun e he f hf => ?_⟩
    rw [List.mem_singleton.mp hf]
    rintro ⟨z1, z2⟩
    have z1 : e.1 = x := z1
    have z2 : e.2.1 = b := z2
    have : tgt D x b = some e.2.2 := (tgt_some h).mpr (by rw [← z1, ← z2]; exact he)
    rw [this] at hn
    cases hn
theorem new_of {x b : Nat} {D : List Edge} (hn : tgt D x b = none) : ∀ f ∈ D, ¬(f.1 = x ∧ f.2.1 = b) := fun f hf z => by
  unfold tgt at hn
  rw [Option.map_eq_none_iff, List.find?_eq_none] at hn
  exact hn f hf (by simpa using z)
structure RD (a n i : Nat) (D : List Edge) : Prop where
  ok : EsOk a n D
  len : D.length = i
  src : ∀ t, 1 ≤ t → t ≤ i → ∃ e ∈ D, e.2.2 = t ∧ e.1 < t
theorem RD.reach {a n : Nat} {D D' : List Edge} {m : Nat} (h : RD a n m D) (hs : ∀ e ∈ D, e ∈ D') : ∀ t, t ≤ m → Reach D' t := fun t => by
  induction t using Nat.strongRecOn with
  | ind t ih =>
    intro ht
    rcases Nat.eq_zero_or_pos t with z | z
    · rw [z]; exact .zero
    · obtain ⟨e, he, h1, h2⟩ := h.src t z ht
      rw [← h1]
      exact .step (hs e he) (ih e.1 h2 (by omega))
def pI (p : Nat × Nat) : List Int := [(p.1 : Nat), (p.2 : Nat)]
def keyE (e : Edge) : Nat × Nat := (e.1, e.2.1)
def unpI : List Int → Nat × Nat
  | [a, b] => (a.toNat, b.toNat)
  | _ => (0, 0)
theorem perm_pI {ps : List (Nat × Nat)} {us : List (List Int)} (h : us.Perm (ps.map pI)) : (us.map unpI).Perm ps ∧ us = (us.map unpI).map pI := by
  constructor
  · have := h.map unpI
    rw [List.map_map] at this
    rwa [List.map_congr_left (f := unpI ∘ pI) (g := id) (fun a _ => rfl), List.map_id] at this
  · rw [List.map_map]
    symm
    rw [List.map_congr_left (g := id), List.map_id]
    intro y hy
    obtain ⟨t, _, rfl⟩ := List.mem_map.mp (h.mem_iff.mp hy)
    rfl
def ofKey (D : List Edge) (p : Nat × Nat) : Edge := (p.1, p.2, (tgt D p.1 p.2).getD 0)
theorem ofKey_key {a n : Nat} {D : List Edge} (h : EsOk a n D) : (D.map keyE).map (ofKey D) = D := by
  rw [List.map_map]
  rw [List.map_congr_left (g := id), List.map_id]
  intro e he
  show ofKey D (e.1, e.2.1) = e
  unfold ofKey
  rw [(tgt_some h).mpr he]
  rfl
theorem sortedK {a n : Nat} {D : List Edge} {ps : List (Nat × Nat)} (h : EsOk a n D) (ha : a ≤ 16) (hn : n ≤ 16) (p : ps.Perm (D.map keyE)) (hs : (ps.map pI).Pairwise fun x y => TS.code 16 x ≤ TS.code 16 y) : (ps.map (ofKey D)).Perm D ∧ SortedE (ps.map (ofKey D)) := by
  refine ⟨by have := p.map (ofKey D); rwa [ofKey_key h] at this, ?_⟩
  unfold SortedE
  rw [List.pairwise_map] at hs ⊢
  have hnd : ps.Nodup := p.nodup_iff.mpr (by
    rw [List.nodup_iff_pairwise_ne, List.pairwise_map]
    exact h.det.imp fun {e f} hef z => hef ⟨congrArg (·.1) z, congrArg (·.2) z⟩)
  refine List.Pairwise.imp_of_mem (fun {x y} hx hy hxy => ?_) (List.Pairwise.and hs (List.nodup_iff_pairwise_ne.mp hnd))
  obtain ⟨h1, h2⟩ := hxy
  have hr : ∀ z ∈ ps, z.1 < 16 ∧ z.2 < 16 ∧ (tgt D z.1 z.2).getD 0 < 16 := fun z hz => by
    obtain ⟨e, he, rfl⟩ := List.mem_map.mp (p.mem_iff.mp hz)
    obtain ⟨e1, e2, e3⟩ := h.rg e he
    have : tgt D (keyE e).1 (keyE e).2 = some e.2.2 := (tgt_some h).mpr he
    rw [this]
    exact ⟨by show e.1 < 16; omega, by show e.2.1 < 16; omega, by show e.2.2 < 16; omega⟩
  have hx' := hr x hx
  have hy' := hr y hy
  have h3 : x.1 ≠ y.1 ∨ x.2 ≠ y.2 := by
    by_cases c : x.1 = y.1
    · exact .inr fun d => h2 (Prod.ext c d)
    · exact .inl c
  unfold pI at h1
  simp only [TS.code, List.length_cons, List.length_nil] at h1
  unfold ecode ofKey
  simp only
  omega
end Y
set_option Elab.async false
set_option linter.all false
set_option maxRecDepth 100000
set_option maxHeartbeats 4000000
set_option autoImplicit false
/-! contracts: _law_edges, _law_chart, _law_bad, _law_own -/
namespace Y
open PySem L2
def p__law_edges : PT := fun xs s Q E => ∃ (B : Nat) (t : Addr) (a n : Nat), xs = [.ref t, nV a, nV n] ∧ TapeOk B t s ∧ B < 900000000 ∧ a ≤ 5 ∧ 0 < n ∧ n ≤ 10 ∧ (a = 0 → n = 1) ∧
  ∀ (p : Addr) (s' : Store) (es : List Edge), s p = none → SubP t s s' → TapeOk (B + 200) t s' → ChOk ⟨a, n, es⟩ → s' p = some (.lst (es.map ev)) → Q (.ref p) s'
theorem nonep {t : Addr} {s s' : Store} {p : Addr} (k : SubP t s s') (ht : p ≠ t) (h : s' p = none) : s p = none := by
  cases e : s p with
  | none => rfl
  | some z => rw [k _ _ ht e] at h; cases h
theorem SubP.upd {t d : Addr} {s s' : Store} {o : Ob} (k : SubP t s s') (hd : s d = none) : SubP t s (updS s' d o) := fun b o' hb e => by
  rw [updS_ne (fun z => by rw [z, hd] at e; cases e)]
  exact k b o' hb e
/-- kept whole -/
def SubL (D D' : List Edge) : Prop := ∀ e ∈ D, e ∈ D'
theorem ok_edges {xs s Q E} (h : p__law_edges xs s Q E) : r__law_edges p__law_take p__law_place (DF Q E) (startE 11 xs) s := by
  obtain ⟨B, t, a, n, rfl, tp, hB, ha, hn0, hn, han, q⟩ := h
  obtain ⟨txs, htx⟩ := tp.some
  simp [r__law_edges, nV, wFor_app]
  intro d hd
  have hdt : d ≠ t := fun z => by rw [z, htx] at hd; cases hd
  refine ⟨1, _, ⟨rfl, rfl⟩, ⟨by omega, by omega, by omega, by omega⟩, ?_⟩
  have hnn : ((n : Int) - 1).toNat = n - 1 := by omega
  rw [hnn]
  refine FB.of ((List.range (n - 1)).map fun k => Val.int (1 + (k : Nat))) (fun i env s2 => i ≤ n - 1 ∧ SubP t s s2 ∧ TapeOk (B + 2 * i) t s2 ∧ (∃ D, RD a n i D ∧ s2 d = some (.dic 1 (D.map tE))) ∧ ∃ v4 v5 v6, env = [some (.ref t), some (.int (a : Nat)), some (.int (n : Nat)), some (.ref d), v4, v5, v6, none, none, none, none])
    ⟨Nat.zero_le _, (SubP.of (Sub.new hd)), (tp.set (fun xs z => by rw [hd] at z; cases z)).mono (by omega), ⟨[], ⟨⟨fun e h => (nomatch h), .nil⟩, rfl, fun t h1 h2 => by omega⟩, updS_self⟩, _, _, _, rfl⟩ (fun i env s2 h => dR_at) ?_ ?_
  · rintro i y env s2 hi ⟨hil, k2, tp2, ⟨D, rd, h2⟩, v4, v5, v6, rfl⟩
    rw [List.getElem?_map, Option.map_eq_some_iff] at hi
    obtain ⟨m, hm, rfl⟩ := hi
    have hmi : m = i := by
      obtain ⟨h1, h3⟩ := List.getElem?_eq_some_iff.mp hm
      rw [← h3, List.getElem_range]
    have hin : i < n - 1 := by
      have := (List.getElem?_eq_some_iff.mp hm).1
      simpa using this
    subst hmi
    have ha0 : 0 < a := by
      rcases Nat.eq_zero_or_pos a with z | z
      · have := han z; omega
      · exact z
    refine ⟨_, by simp; rfl, ?_⟩
    simp
    refine ⟨B + 2 * m, t, 1 + m, by simp [nV], tp2, by omega, by omega, by omega, fun x s3 hx k3 tp3 _ => ?_⟩
    have k13 := k2.trans k3
    have h3 := k3 _ _ hdt h2
    refine ⟨B + 2 * m + 1, t, a, by simp [nV], tp3, by omega, by omega, by omega, fun b s4 hb k4 tp4 _ => ?_⟩
    have k14 := k13.trans k4
    have h4 := k4 _ _ hdt h3
    refine ⟨d, D, x, b, 1 + m, a, by simp [nV], h4, by omega, by omega, ?_, fun u w hu hw hfree => ?_⟩
    · rw [rd.len]
      have : (1 + m) * 1 ≤ (1 + m) * a := Nat.mul_le_mul_left _ ha0
      omega
    · simp [nV]
      rw [oSet_dic h4]
      have hlen := rd.len
      refine ⟨isKey_kE, by rw [List.length_map]; omega, by omega, k14.upd hd, (tp4.set (fun xs z => by rw [h4] at z; cases z)).mono (by omega), D ++ [(u, w, 1 + m)], ⟨rd.ok.add (by omega) hw (by omega) hfree, by simp [rd.len], fun τ h1 h5 => ?_⟩, ?_⟩
      · by_cases e : τ = m + 1
        · subst e
          exact ⟨(u, w, 1 + m), by simp, by show 1 + m = m + 1; omega, by show u < m + 1; omega⟩
        · obtain ⟨f, hf, h6, h7⟩ := rd.src τ h1 (by omega)
          exact ⟨f, List.mem_append_left _ hf, h6, h7⟩
      · rw [updS_self, ← dput_tE (e := (u, w, 1 + m)) (new_of hfree)]
        simp [nV, kE]
  · rintro i env s2 hi ⟨hil, k2, tp2, ⟨D, rd, h2⟩, v4, v5, v6, rfl⟩
    simp at hi
    have : i = n - 1 := by omega
    subst this
    simp
    refine ⟨B + 2 * (n - 1), t, 5, by simp [nV], tp2, by omega, by omega, by omega, fun x s3 hx k3 tp3 _ => ?_⟩
    have k13 := k2.trans k3
    have h3 := k3 _ _ hdt h2
    simp [nV, wFor_app]
    refine ⟨by omega, ?_⟩
    refine FB.of ((List.range n).map fun k => Val.int (0 + (k : Nat))) (fun k env s4 => k ≤ n ∧ SubP t s s4 ∧ TapeOk (B + 20 + 10 * k) t s4 ∧ (∃ D', EsOk a n D' ∧ SubL D D' ∧ s4 d = some (.dic 1 (D'.map tE))) ∧ ∃ v4 v5 v6 v8 v9, env = [some (.ref t), some (.int (a : Nat)), some (.int (n : Nat)), some (.ref d), v4, v5, v6, some (.int (2 + (x : Nat))), v8, v9, none])
      ⟨Nat.zero_le _, k13, tp3.mono (by omega), ⟨D, rd.ok, fun e h => h, h3⟩, _, _, _, none, none, rfl⟩ (fun k env s4 h => dR_at) ?_ ?_
    · rintro k y env s4 hk ⟨hkl, k4, tp4, ⟨D', ok', hsub, h4⟩, v4, v5, v6, v8, v9, rfl⟩
      rw [List.getElem?_map, Option.map_eq_some_iff] at hk
      obtain ⟨m, hm, rfl⟩ := hk
      have hmk : m = k := by
        obtain ⟨h1, h2⟩ := List.getElem?_eq_some_iff.mp hm
        rw [← h2, List.getElem_range]
      have hkn : k < n := by simpa using (List.getElem?_eq_some_iff.mp hm).1
      subst hmk
      refine ⟨_, by simp; rfl, ?_⟩
      simp [wFor_app]
      refine ⟨by omega, ?_⟩
      refine FB.of ((List.range a).map fun k => Val.int (0 + (k : Nat))) (fun j env s5 => j ≤ a ∧ SubP t s s5 ∧ TapeOk (B + 20 + 10 * m + 2 * j) t s5 ∧ (∃ D', EsOk a n D' ∧ SubL D D' ∧ s5 d = some (.dic 1 (D'.map tE))) ∧ ∃ v4 v5 v6 v9, env = [some (.ref t), some (.int (a : Nat)), some (.int (n : Nat)), some (.ref d), v4, v5, v6, some (.int (2 + (x : Nat))), some (.int (m : Nat)), v9, none])
        ⟨Nat.zero_le _, k4, tp4, ⟨D', ok', hsub, h4⟩, _, _, _, _, rfl⟩ (fun j env s5 h => dR_at) ?_ ?_
      · rintro j y env s5 hj ⟨hjl, k5, tp5, ⟨D', ok', hsub, h5⟩, v4, v5, v6, v9, rfl⟩
        rw [List.getElem?_map, Option.map_eq_some_iff] at hj
        obtain ⟨j2, hj2, rfl⟩ := hj
        have hjj : j2 = j := by
          obtain ⟨h1, h2⟩ := List.getElem?_eq_some_iff.mp hj2
          rw [← h2, List.getElem_range]
        have hja : j < a := by simpa using (List.getElem?_eq_some_iff.mp hj2).1
        subst hjj
        refine ⟨_, by simp; rfl, ?_⟩
        simp
        rw [oIn_tE h5]
        cases ht : tgt D' m j2 with
        | some τ =>
          exact .inl ⟨by simp, hja, k5, tp5.mono (by omega), D', ok', hsub, h5⟩
        | none =>
          refine .inr ⟨by simp, ?_⟩
          refine ⟨_, t, 2 + x, by simp [nV], tp5, by omega, by omega, by omega, fun z s6 hz k6 tp6 _ => ?_⟩
          have h6 := k6 _ _ hdt h5
          have k56 := k5.trans k6
          by_cases hz0 : z = 0
          · subst hz0
            simp [nV]
            refine ⟨_, t, n, by simp [nV], tp6, by omega, by omega, by omega, fun w s7 hw k7 tp7 _ => ?_⟩
            have h7 := k7 _ _ hdt h6
            refine (oSet_dic h7).mpr ?_
            have hdl := ok'.len
            have hdl2 : D'.length ≤ 50 := Nat.le_trans hdl (Nat.le_trans (Nat.mul_le_mul hn ha) (by decide))
            refine ⟨isKey_kE, by rw [List.length_map]; omega, hja, (k56.trans k7).upd hd, (tp7.set (fun xs z => by rw [h7] at z; cases z)).mono (by omega), D' ++ [(m, j2, w)], ok'.add hkn hja hw ht, fun e he => List.mem_append_left _ (hsub e he), ?_⟩
            rw [updS_self, ← dput_tE (e := (m, j2, w)) (new_of ht)]
            simp [nV, kE]
          · simp [nV, hz0]
            exact ⟨hja, k56, tp6.mono (by omega), D', ok', hsub, h6⟩
      · rintro j env s5 hj ⟨hjl, k5, tp5, hD, v4, v5, v6, v9, rfl⟩
        simp at hj
        have : j = a := by omega
        subst this
        exact ⟨hkn, k5, tp5.mono (by omega), hD, _, _, _, _, _, rfl⟩
    · rintro k env s4 hk ⟨hkl, k4, tp4, ⟨D', ok', hsub, h4⟩, v4, v5, v6, v8, v9, rfl⟩
      simp at hk
      have : k = n := by omega
      subst this
      simp [wLc_app, wISeq_app, h4]
      intro g hg
      obtain ⟨txs4, htx4⟩ := tp4.some
      have hgt : g ≠ t := fun z => by rw [z, htx4] at hg; cases hg
      have hgd : g ≠ d := fun z => by rw [z, h4] at hg; cases hg
      have hdl2 : D'.length ≤ 50 := Nat.le_trans ok'.len (Nat.le_trans (Nat.mul_le_mul hn ha) (by decide))
      refine ⟨g, (D'.map keyE).map pI, rfl, by rw [updS_self, List.map_map, List.map_map]; rfl, by simp; omega, fun u hu => ?_, fun v us hus hsrt hv => ?_⟩
      · obtain ⟨e, he, rfl⟩ := List.mem_map.mp hu
        obtain ⟨f, hf, rfl⟩ := List.mem_map.mp he
        obtain ⟨f1, f2, f3⟩ := ok'.rg f hf
        refine ⟨rfl, fun z hz => ?_⟩
        simp [pI, keyE] at hz
        omega
      · obtain ⟨pp, pe⟩ := perm_pI hus
        generalize hps : us.map unpI = ps at pp pe
        subst pe
        obtain ⟨hperm, hsort⟩ := sortedK ok' (by omega) (by omega) pp hsrt
        have hvg : v ≠ g := fun z => by rw [z] at hv; simp at hv
        rw [updS_ne hvg] at hv
        have hvt : v ≠ t := fun z => by rw [z, htx4] at hv; cases hv
        refine ⟨⟨_, updS_self⟩, ?_⟩
        have kk : Sub s4 (updS (updS s4 g (.lst (D'.map ((fun x => x.1) ∘ tE)))) v (.lst ((ps.map pI).map vT))) := (Sub.new hg).upd hv
        have hpl : ps.length ≤ 50 := by rw [pp.length_eq, List.length_map]; exact hdl2
        refine lb_map_of (as := ps) (f := fun p => vT (pI p)) (u := fun v => unpI (unT v)) (fun p => by rw [unT_vT]; rfl) (g := fun p => ev (ofKey D' p)) (fun s5 j k5 => by rw [dL_at (k5 _ _ updS_self), List.map_map]; rfl) (by omega) (fun p hp s5 k5 => ⟨_, put_nm, fun Q1 h => ?_⟩) fun w s5 hw k5 h5 => ?_
        · obtain ⟨e, he, rfl⟩ := List.mem_map.mp (pp.mem_iff.mp hp)
          have hd5 := k5 _ _ (kk _ _ h4)
          have htg : tgt D' (keyE e).1 (keyE e).2 = some e.2.2 := (tgt_some ok').mpr he
          simp [vT, pI]
          unfold oIx
          simp only [hd5]
          refine ⟨isKey_kE, nV e.2.2, ?_, ?_⟩
          · show dlook _ (kE (keyE e).1 (keyE e).2) = _
            rw [dlook_tE, htg]
            rfl
          · have := h s5 (Sub.refl _)
            unfold ofKey at this
            rw [htg] at this
            exact this
        · have k45 := kk.trans k5
          have hwt : w ≠ t := fun z => by rw [z, (kk _ _ htx4)] at hw; cases hw
          refine q w s5 (ps.map (ofKey D')) (nonep k4 hwt (none_of kk hw)) (k4.trans (SubP.of k45)) ((tp4.keep k45).mono (by omega)) ⟨hn0, hn, ha, ?_, ok'.perm hperm, hsort, fun τ hτ => ?_⟩ (by rw [h5, List.map_map]; rfl)
          · show (ps.map (ofKey D')).length < 64
            rw [List.length_map]; omega
          · have := rd.reach (D' := D') hsub τ (by show τ ≤ k - 1; have : τ < k := hτ; omega)
            exact this.perm hperm.symm
end Y
set_option Elab.async false
set_option linter.all false
set_option maxRecDepth 100000
set_option maxHeartbeats 4000000
set_option autoImplicit false
/-! contracts: _law_chart, _law_bad, _law_own -/
namespace Y
open PySem L2
structure LawCh (s : Store) (v : Val) (c : Ch) : Prop where
  ex : ∃ p e, v = .ref p ∧ s p = some (.lst [nV c.a, nV c.n, .ref e]) ∧ s e = some (.lst (c.es.map ev))
def p__law_chart : PT := fun xs s Q E => ∃ (B : Nat) (t : Addr), xs = [.ref t] ∧ TapeOk B t s ∧ B < 800000000 ∧
  ∀ (p e : Addr) (s' : Store) (c : Ch), s p = none → s e = none → SubP t s s' → TapeOk (B + 300) t s' → ChOk c → s' p = some (.lst [nV c.a, nV c.n, .ref e]) → s' e = some (.lst (c.es.map ev)) → Q (.ref p) s'
theorem nonep' {B : Nat} {t : Addr} {s s' : Store} {p : Addr} (k : SubP t s s') (tp : TapeOk B t s') (h : s' p = none) : s p = none := by
  obtain ⟨xs, hx⟩ := tp.some
  exact nonep k (fun z => by rw [z, hx] at h; cases h) h
theorem ok_chart {xs s Q E} (h : p__law_chart xs s Q E) : r__law_chart p__law_take p__law_edges (DF Q E) (startE 3 xs) s := by
  obtain ⟨B, t, rfl, tp, hB, q⟩ := h
  simp [r__law_chart, nV]
  -- the rest, once the numbers stand
  have rest : ∀ (a n : Nat) (s1 : Store) (C : Nat), a ≤ 5 → 0 < n → n ≤ 10 → (a = 0 → n = 1) → SubP t s s1 → TapeOk C t s1 → C ≤ B + 10 →
      p__law_edges [.ref t, .int (a : Nat), .int (n : Nat)] s1 (fun x s1 => ∀ p, s1 p = none → Q (.ref p) (updS s1 p (.lst [.int (a : Nat), .int (n : Nat), x]))) (fun x s1 => E x s1) := fun a n s1 C ha hn0 hn han k tp1 hC => by
    refine ⟨C, t, a, n, rfl, tp1, by omega, ha, hn0, hn, han, fun e s2 es he k2 tp2 hc h2 p hp => ?_⟩
    have k12 := k.trans k2
    have hep : e ≠ p := fun z => by rw [z, hp] at h2; cases h2
    exact q p e _ ⟨a, n, es⟩ (nonep' k12 tp2 hp) (nonep' k tp1 he) (k12.trans (SubP.of (Sub.new hp))) ((tp2.keep (Sub.new hp)).mono (by omega)) hc updS_self (by rw [updS_ne hep]; exact h2)
  have fix : ∀ (a n : Nat) (s1 : Store) (C : Nat), a ≤ 5 → 0 < n → n ≤ 10 → SubP t s s1 → TapeOk C t s1 → C ≤ B + 10 →
      (¬((a : Nat) : Int) = 0 ∧ p__law_edges [.ref t, .int (a : Nat), .int (n : Nat)] s1 (fun x s1 => ∀ p, s1 p = none → Q (.ref p) (updS s1 p (.lst [.int (a : Nat), .int (n : Nat), x]))) (fun x s1 => E x s1)) ∨
      (((a : Nat) : Int) = 0 ∧ p__law_edges [.ref t, .int (a : Nat), .int 1] s1 (fun x s1 => ∀ p, s1 p = none → Q (.ref p) (updS s1 p (.lst [.int (a : Nat), .int 1, x]))) (fun x s1 => E x s1)) := fun a n s1 C ha hn0 hn k tp1 hC => by
    by_cases h0 : a = 0
    · exact .inr ⟨by omega, rest a 1 s1 C ha (by omega) (by omega) (fun _ => rfl) k tp1 hC⟩
    · exact .inl ⟨by omega, rest a n s1 C ha hn0 hn (fun z => absurd z h0) k tp1 hC⟩
  refine ⟨B, t, 4, by simp [nV], tp, by omega, by omega, by omega, fun a s1 ha k1 tp1 _ => ?_⟩
  refine ⟨B + 1, t, 5, by simp [nV], tp1, by omega, by omega, by omega, fun n s2 hn k2 tp2 _ => ?_⟩
  simp [nV]
  refine ⟨B + 1 + 1, t, 8, by simp [nV], tp2, by omega, by omega, by omega, fun g s3 hg k3 tp3 _ => ?_⟩
  have k13 := (k1.trans k2).trans k3
  by_cases h1 : g = 1
  · subst h1
    simp [nV]
    refine ⟨_, t, 2, by simp [nV], tp3, by omega, by omega, by omega, fun a2 s4 ha2 k4 tp4 _ => ?_⟩
    simp [nV]
    refine ⟨_, t, 5, by simp [nV], tp4, by omega, by omega, by omega, fun n2 s5 hn2 k5 tp5 _ => ?_⟩
    simp [nV]
    have z := fix (4 + a2) (6 + n2) s5 _ (by omega) (by omega) (by omega) ((k13.trans k4).trans k5) tp5 (by omega)
    simp at z ⊢
    exact z
  · simp [nV, h1]
    have z := fix a (1 + n) s3 _ (by omega) (by omega) (by omega) k13 tp3 (by omega)
    refine .inl ⟨by omega, ?_⟩
    simpa using z
end Y
set_option Elab.async false
set_option linter.all false
set_option maxRecDepth 100000
set_option maxHeartbeats 4000000
set_option autoImplicit false
/-! contracts: _law_bad, _law_own: lists that the tape picks -/
namespace Y
open PySem L2
theorem TapeOk.head {B : Nat} {t : Addr} {s : Store} (h : TapeOk B t s) : ∃ l, HeadL l t s ∧ ∃ xs, s l = Option.some (.lst xs) := by
  obtain ⟨l, ns, pos, cnt, seed, rest, h1, h2, h3, h4, h5⟩ := h.ex
  exact ⟨l, ⟨_, h2⟩, _, h3⟩
theorem TapeOk.put {B : Nat} {t l d : Addr} {s : Store} {o : Ob} (h : TapeOk B t s) (hl : HeadL l t s) (hd : d ≠ t) (hl2 : d ≠ l) : TapeOk B t (updS s d o) := by
  obtain ⟨l', ns, pos, cnt, seed, rest, h1, h2, h3, h4, h5⟩ := h.ex
  obtain ⟨r, hr⟩ := hl
  rw [h2] at hr
  cases hr
  exact ⟨l, ns, pos, cnt, seed, rest, h1, by rw [updS_ne (Ne.symm hd)]; exact h2, by rw [updS_ne (Ne.symm hl2)]; exact h3, h4, h5⟩
theorem HeadL.put {t l d : Addr} {s : Store} {o : Ob} (hl : HeadL l t s) (hd : d ≠ t) : HeadL l t (updS s d o) := by
  obtain ⟨r, hr⟩ := hl
  exact ⟨r, by rw [updS_ne (Ne.symm hd)]; exact hr⟩
theorem LB.tape {env : Env} {s1 : Store} {Q : QV} {t : Tg} {tt : WB} {te : WE} {vs : List Nat} {it : DIt} {B : Nat} {tp : Addr} (xs : List Val) (hat : ∀ i s2, SubP tp s1 s2 → it.at_ i s2 = some xs[i]?) (hn : xs.length ≤ 16777216) (h1 : TapeOk B tp s1)
    (hs : ∀ x ∈ xs, ∀ C s2, SubP tp s1 s2 → TapeOk C tp s2 → C ≤ B + xs.length → ∃ env3, t.put x (wipeE env vs) = some env3 ∧
      (∀ (Q1 : Bool → Store → Prop), (∀ b s3, SubP tp s2 s3 → TapeOk (C + 1) tp s3 → LSame tp s2 s3 → Q1 b s3) → tt env3 s2 Q1 (fun _ _ => False)) ∧ ∀ s3 (Q1 : QV), SubP tp s1 s3 → Q1 x s3 → te env3 s3 Q1 (fun _ _ => False))
    (hd : ∀ p s2 ys, s1 p = none → ys.Sublist xs → SubP tp s1 s2 → TapeOk (B + xs.length) tp s2 → s2 p = some (.lst ys) → Q (.ref p) s2) : LB it t tt te vs env Q s1 := by
  intro p hp
  obtain ⟨l, hl, zs, hz⟩ := h1.head
  obtain ⟨ws, hw⟩ := h1.some
  have hpt : p ≠ tp := fun z => by rw [z, hw] at hp; cases hp
  have hpl : p ≠ l := fun z => by rw [z, hz] at hp; cases hp
  refine ⟨xs.length, fun i s2 => i ≤ xs.length ∧ SubP tp s1 s2 ∧ TapeOk (B + i) tp s2 ∧ HeadL l tp s2 ∧ ∃ ys, ys.Sublist (xs.take i) ∧ s2 p = some (.lst ys), ⟨Nat.zero_le _, SubP.of (Sub.new hp), h1.keep (Sub.new hp), hl.put hpt, [], by simp, updS_self⟩, fun i s2 h => ?_⟩
  obtain ⟨hi, k2, h2, hl2, ys, hys, e2⟩ := h
  rcases Nat.lt_or_ge i xs.length with hlt | hge
  · have hx : xs[i]? = some xs[i] := List.getElem?_eq_getElem hlt
    have ht : xs.take (i + 1) = xs.take i ++ [xs[i]] := by rw [List.take_succ, hx]; rfl
    obtain ⟨env3, a1, a2, a3⟩ := hs xs[i] (List.getElem_mem hlt) _ s2 k2 h2 (by omega)
    refine .inr ⟨hlt, xs[i], env3, by rw [hat i s2 k2, hx], a1, a2 _ fun b s3 k3 h3 hl3 => ?_⟩
    have e3 := k3 _ _ hpt e2
    have hylen := hys.length_le
    rw [List.length_take] at hylen
    split
    · refine a3 s3 _ (k2.trans k3) ⟨ys, e3, by omega, ?_⟩
      refine ⟨hlt, (k2.trans k3).upd hp, h3.put (hl3 _ hl2) hpt hpl, (hl3 _ hl2).put hpt, ys ++ [xs[i]], ?_, updS_self⟩
      rw [ht]
      exact hys.append (List.Sublist.refl _)
    · refine ⟨hlt, k2.trans k3, h3, hl3 _ hl2, ys, ?_, e3⟩
      rw [ht]
      exact hys.trans (List.sublist_append_left _ _)
  · refine .inl ⟨by rw [hat i s2 k2, List.getElem?_eq_none hge], ?_⟩
    rw [List.take_of_length_le hge] at hys
    exact hd p s2 ys hp hys k2 (h2.mono (by omega)) e2
/-- the items of a list of places are such -/
theorem rg_sub {n : Nat} {ys : List Val} (h : ys.Sublist ((List.range n).map fun k => Val.int (0 + (k : Nat)))) : ∃ ns : List Nat, ys = ns.map nV ∧ ns.Sublist (List.range n) := by
  obtain ⟨ns, h1, h2⟩ := List.sublist_map_iff.mp h
  exact ⟨ns, by rw [h2]; apply List.map_congr_left; intro k _; simp [nV], h1⟩
theorem rg_up {n : Nat} {ns : List Nat} (h : ns.Sublist (List.range n)) : ns.Pairwise (· < ·) ∧ ∀ k ∈ ns, k < n := ⟨List.pairwise_lt_range.sublist h, fun k hk => List.mem_range.mp (h.subset hk)⟩
def p__law_bad : PT := fun xs s Q E => ∃ (B : Nat) (t : Addr) (n : Nat), xs = [.ref t, nV n] ∧ TapeOk B t s ∧ B < 800000000 ∧ n ≤ 10 ∧
  ∀ (p : Addr) (s' : Store) (ns : List Nat), s p = none → SubP t s s' → TapeOk (B + 20) t s' → ns.Sublist (List.range n) → s' p = some (.lst (ns.map nV)) → Q (.ref p) s'
theorem ok_bad {xs s Q E} (h : p__law_bad xs s Q E) : r__law_bad p__law_take (DF Q E) (startE 4 xs) s := by
  obtain ⟨B, t, n, rfl, tp, hB, hn, q⟩ := h
  simp [r__law_bad, nV]
  refine ⟨B, t, 6, by simp [nV], tp, by omega, by omega, by omega, fun a s1 ha k1 tp1 _ => ?_⟩
  simp [nV]
  by_cases h1 : a = 1
  · refine .inr ⟨by omega, fun p hp => ?_⟩
    exact q p _ [] (nonep' k1 tp1 hp) (k1.upd (nonep' k1 tp1 hp)) ((tp1.keep (Sub.new hp)).mono (by omega)) (by simp) updS_self
  · refine .inl ⟨by omega, ?_⟩
    refine ⟨_, t, 4, by simp [nV], tp1, by omega, by omega, by omega, fun z s2 hz k2 tp2 _ => ?_⟩
    simp [nV]
    refine wLc_app.mpr ?_
    simp [nV]
    refine ⟨by omega, LB.tape ((List.range n).map fun k => Val.int (0 + (k : Nat))) (fun i s2 _ => dR_at) (by simp; omega) tp2 ?_ ?_⟩
    · intro x hx C s3 k3 tp3 hC
      obtain ⟨k, _, rfl⟩ := List.mem_map.mp hx
      simp at hC
      refine ⟨_, by simp; rfl, fun Q1 h => ?_, fun s4 Q1 k4 h => ?_⟩
      · simp
        refine ⟨C, t, 1 + (1 + z), by simp [nV], tp3, by omega, by omega, by omega, fun w s4 hw k4 tp4 hl4 => ?_⟩
        simp [nV]
        by_cases h2 : w = 1
        · exact .inr ⟨by omega, h _ s4 k4 tp4 hl4⟩
        · exact .inl ⟨by omega, h _ s4 k4 tp4 hl4⟩
      · simpa using h
    · intro p s3 ys hp hys k3 tp3 h3
      obtain ⟨ns, rfl, hs⟩ := rg_sub hys
      simp at tp3
      exact q p s3 ns (nonep' (k1.trans k2) tp2 hp) ((k1.trans k2).trans k3) (tp3.mono (by omega)) hs h3
def p__law_own : PT := fun xs s Q E => ∃ (B : Nat) (t : Addr) (n : Nat), xs = [.ref t, nV n] ∧ TapeOk B t s ∧ B < 800000000 ∧ n ≤ 10 ∧
  ∀ (s' : Store) (ns : List Nat), SubP t s s' → TapeOk (B + 20) t s' → ns.Sublist (List.range n) → Q (.tup (ns.map nV)) s'
theorem ok_own {xs s Q E} (h : p__law_own xs s Q E) : r__law_own p__law_take (DF Q E) (startE 4 xs) s := by
  obtain ⟨B, t, n, rfl, tp, hB, hn, q⟩ := h
  simp [r__law_own, nV]
  refine ⟨B, t, 4, by simp [nV], tp, by omega, by omega, by omega, fun z s2 hz k2 tp2 _ => ?_⟩
  refine wLc_app.mpr ?_
  simp [nV]
  refine ⟨by omega, LB.tape ((List.range n).map fun k => Val.int (0 + (k : Nat))) (fun i s2 _ => dR_at) (by simp; omega) tp2 ?_ ?_⟩
  · intro x hx C s3 k3 tp3 hC
    obtain ⟨k, _, rfl⟩ := List.mem_map.mp hx
    simp at hC
    refine ⟨_, by simp; rfl, fun Q1 h => ?_, fun s4 Q1 k4 h => ?_⟩
    · simp
      by_cases h0 : z = 0
      · exact .inr ⟨h0, h true s3 (SubP.of (Sub.refl _)) (tp3.mono (by omega)) (fun _ h => h)⟩
      · refine .inl ⟨h0, ?_⟩
        refine ⟨C, t, 3, by simp [nV], tp3, by omega, by omega, by omega, fun w s4 hw k4 tp4 hl4 => ?_⟩
        simp [nV]
        by_cases h2 : w = 0
        · exact .inl ⟨by omega, h _ s4 k4 tp4 hl4⟩
        · exact .inr ⟨by omega, h _ s4 k4 tp4 hl4⟩
    · simpa using h
  · intro p s3 ys hp hys k3 tp3 h3
    obtain ⟨ns, rfl, hs⟩ := rg_sub hys
    simp at tp3
    rw [cTuple_of (seqOf_lst h3)]
    exact q s3 ns (k2.trans k3) (tp3.mono (by omega)) hs
end Y
set_option Elab.async false
set_option linter.all false
set_option maxRecDepth 100000
set_option maxHeartbeats 4000000
set_option autoImplicit false
/-! contracts: _law_lost, _law_lost_word, _law_safe, _law_between, _law_part -/
namespace Y
open PySem L2
structure LArg (s : Store) (v xb xo : Val) (c : Ch) (bad own : List Nat) : Prop where
  ch : LawCh s v c
  cok : ChOk c
  b : NSeq s xb bad
  o : NSeq s xo own
  ok : BadOk c bad
theorem LawCh.sub {s s' : Store} {v : Val} {c : Ch} (h : LawCh s v c) (k : Sub s s') : LawCh s' v c := by
  obtain ⟨p, e, h1, h2, h3⟩ := h.ex
  exact ⟨p, e, h1, k _ _ h2, k _ _ h3⟩
theorem LArg.sub {s s' : Store} {v xb xo : Val} {c : Ch} {bad own : List Nat} (h : LArg s v xb xo c bad own) (k : Sub s s') : LArg s' v xb xo c bad own := ⟨h.ch.sub k, h.cok, h.b.sub k, h.o.sub k, h.ok⟩
def p__law_lost : PT := fun xs s Q E => ∃ (v xb xo : Val) (c : Ch) (bad own : List Nat), xs = [v, xb, xo] ∧ LArg s v xb xo c bad own ∧
  ∀ (p : Addr) (s' : Store) (ns : List Nat), s p = none → Sub s s' → ns.Pairwise (· < ·) → (∀ m, m ∈ ns ↔ m ∈ lostF c bad own) → s' p = some (.lst (ns.map nV)) → Q (.ref p) s'
theorem ok_law_lost {xs s Q E} (h : p__law_lost xs s Q E) : r__law_lost (DF Q E) (startE 6 xs) s := by
  obtain ⟨v, xb, xo, c, bad, own, rfl, ga, q⟩ := h
  obtain ⟨p, d, rfl, hp, hd⟩ := ga.ch.ex
  have hn := ga.cok.n10
  have hrg : ∀ e ∈ c.es, e.1 < c.n := fun e he => (ga.cok.ok.rg e he).1
  have hso : SatOk (fun _ => True) c.n bad := ⟨ga.ok.nd, ga.ok.lt, fun _ _ => True.intro⟩
  simp [r__law_lost]
  rw [cList_of ga.b.seq]
  intro l hl
  rw [wFor_app]
  have hlp : l ≠ p := fun z => by rw [z, hp] at hl; cases hl
  have hp1 : (updS s l (.lst (bad.map nV))) p = some (.lst [nV c.a, nV c.n, .ref d]) := by rw [updS_ne hlp.symm]; exact hp
  simp
  rw [oIx_lst hp1]
  simp [nV]
  refine ⟨by omega, ?_⟩
  refine FB.of ((List.range c.n).map fun k => Val.int (0 + (k : Nat))) (fun i env s2 => i ≤ c.n ∧ Sub s s2 ∧ s2 l = some (.lst ((satN (lostC own) (fun e => e.1) c.es bad i).map nV)) ∧ ∃ v4 v5, env = [some (.ref p), some xb, some xo, some (.ref l), v4, v5])
    ⟨Nat.zero_le _, Sub.new hl, updS_self, _, _, rfl⟩ (fun i env s2 h => dR_at) ?_ ?_
  · rintro i y env s2 hi ⟨_, k2, h1, v4, v5, rfl⟩
    have hin : i < c.n := by simpa using (List.getElem?_eq_some_iff.mp hi).1
    refine ⟨_, by simp; rfl, ?_⟩
    rw [wFor_app]
    refine wISeq_val (x := .ref d) (fun Q h => by simp; rw [oIx_lst (k2 _ _ hp)]; simpa [nV] using h) (seqOf_lst (k2 _ _ hd)) (fun _ z => nomatch z) fun it hat => ?_
    refine FB.of (c.es.map ev) (fun k env s3 => Sub s s3 ∧ s3 l = some (.lst ((satR (lostC own) (fun e => e.1) (c.es.take k) (satN (lostC own) (fun e => e.1) c.es bad i)).map nV)) ∧ ∃ v4 v5, env = [some (.ref p), some xb, some xo, some (.ref l), v4, v5])
      ⟨k2, h1, _, _, rfl⟩ (fun k env s3 h => hat _ _ (seqOf_lst (h.1 _ _ hd))) ?_ ?_
    · rintro k y env s3 hk ⟨k3, g1, v4, v5, rfl⟩
      rw [List.getElem?_map, Option.map_eq_some_iff] at hk
      obtain ⟨e, he2, rfl⟩ := hk
      have hlen := sat_len (cond := lostC own) (new := fun e => e.1) (es := c.es) (i := i) (k := k) hso hrg
      rw [sat_take he2]
      generalize hord : satR (lostC own) (fun e => e.1) (c.es.take k) (satN (lostC own) (fun e => e.1) c.es bad i) = ord at *
      simp [ev]
      rw [oIn_N (ga.o.sub k3)]
      have hl1 : lostC own ord e = true ↔ e.2.1 ∉ own ∧ e.2.2 ∈ ord := by simp [lostC, unc]
      by_cases c1 : e.2.1 ∈ own
      · refine .inl ⟨by simp [c1], k3, ?_⟩
        unfold sat1
        rw [if_neg fun z => (hl1.mp z.1).1 c1]
        exact g1
      · refine .inr ⟨by simp [c1], ?_⟩
        rw [oIn_nat g1]
        by_cases c2 : e.2.2 ∈ ord
        · refine .inr ⟨by simp [c2], ?_⟩
          rw [oIn_nat g1]
          by_cases c3 : e.1 ∈ ord
          · refine .inl ⟨by simp [c3], k3, ?_⟩
            unfold sat1
            rw [if_neg fun z => z.2 c3]
            exact g1
          · refine .inr ⟨by simp [c3], tyS_list g1, ?_⟩
            rw [mAppend_of g1]
            unfold sat1
            rw [if_pos ⟨hl1.mpr ⟨c1, c2⟩, c3⟩]
            exact ⟨by rw [List.length_map]; omega, k3.upd hl, by rw [updS_self]; simp [nV]⟩
        · refine .inl ⟨by simp [c2], k3, ?_⟩
          unfold sat1
          rw [if_neg fun z => c2 (hl1.mp z.1).2]
          exact g1
    · rintro k env s3 hk ⟨k3, g1, v4, v5, rfl⟩
      rw [List.length_map] at hk
      rw [List.take_of_length_le hk] at g1
      exact ⟨hin, k3, g1, _, _, rfl⟩
  · rintro i env s2 hi ⟨hin, k2, h1, v4, v5, rfl⟩
    simp at hi
    have : i = c.n := by omega
    subst this
    simp
    have hnd := (satN_ok (cond := lostC own) (new := fun e => e.1) (es := c.es) hso hrg (fun _ _ _ _ _ => True.intro) c.n).nd
    refine sort_nat h1 hnd fun q1 ns hq1 hpw hm => ?_
    exact q q1 _ ns (none_of k2 hq1) (k2.trans (Sub.new hq1)) hpw hm updS_self
/-! the edges between -/
def p__law_between : PT := fun xs s Q E => ∃ (v : Val) (c : Ch) (o : Addr) (ns : List Nat), xs = [v, .ref o] ∧ LawCh s v c ∧ ChOk c ∧ s o = some (.lst (ns.map nV)) ∧
  ∀ (p : Addr) (s' : Store), s p = none → Sub s s' → s' p = some (.lst ((sEdges c ns).map nV)) → Q (.ref p) s'
theorem ok_law_between {xs s Q E} (h : p__law_between xs s Q E) : r__law_between (DF Q E) (startE 3 xs) s := by
  obtain ⟨v, c, o, ns, rfl, lc, cok, ho, q⟩ := h
  obtain ⟨p, d, rfl, hp, hd⟩ := lc.ex
  have hel := cok.len
  simp [r__law_between]
  refine wLc_app.mpr ?_
  simp
  rw [oIx_lst hp]
  simp
  rw [cLen_of (seqOf_lst hd)]
  simp
  refine ⟨by omega, ?_⟩
  refine LB.of ((List.range c.es.length).map nV) (fun i s2 _ => by rw [dR_at]; simp [nV]; rfl) (by simp; omega) (fun y => match y with | .int k => decide ((c.es.getD k.toNat (0, 0, 0)).1 ∈ ns) && decide ((c.es.getD k.toNat (0, 0, 0)).2.2 ∈ ns) | _ => false) (fun y => y) ?_ ?_ ?_
  · intro y hy s2 k2
    obtain ⟨k, hk, rfl⟩ := List.mem_map.mp hy
    have hk' : k < c.es.length := List.mem_range.mp hk
    refine ⟨_, by simp; rfl, fun Q1 h => ?_⟩
    have hq : Q1 (decide ((c.es.getD k (0, 0, 0)).1 ∈ ns) && decide ((c.es.getD k (0, 0, 0)).2.2 ∈ ns)) s2 := h s2 (Sub.refl _)
    have h2 := k2 _ _ ho
    have hg : (c.es.map ev)[k]? = some (ev (c.es.getD k (0, 0, 0))) := by rw [List.getElem?_map, List.getD_eq_getElem?_getD, List.getElem?_eq_getElem hk']; rfl
    have ix : ∀ Q : QV, Q (ev (c.es.getD k (0, 0, 0))) s2 → oIx (.ref d) (.int (k : Nat)) s2 Q := fun Q h => by
      rw [oIx_lst (k2 _ _ hd), atI_nat]
      exact ⟨_, hg, h⟩
    simp [nV, -List.getD_eq_getElem?_getD]
    rw [oIx_lst (k2 _ _ hp)]
    simp
    refine ix _ ?_
    clear h hy hg
    obtain ⟨e, hee⟩ : ∃ e, c.es.getD k (0, 0, 0) = e := ⟨_, rfl⟩
    rw [hee] at hq ix ⊢
    simp [ev]
    rw [oIn_nat h2]
    by_cases c1 : e.1 ∈ ns
    · refine .inr ⟨by simp [c1], ?_⟩
      rw [oIx_lst (k2 _ _ hp)]
      simp
      refine ix _ ?_
      simp [ev]
      rw [oIn_nat h2]
      by_cases c2 : e.2.2 ∈ ns
      · simpa [c1, c2] using hq
      · simpa [c1, c2] using hq
    · refine .inl ⟨by simp [c1], ?_⟩
      simpa [c1] using hq
  · intro y hy _ s2 k2 env3 he3 Q1 h
    obtain ⟨k, _, rfl⟩ := List.mem_map.mp hy
    simp at he3
    subst he3
    simpa using h s2 (Sub.refl _)
  · intro o s2 ho k2 h2
    refine q o s2 ho k2 ?_
    rw [h2, List.filter_map, List.map_map]
    unfold sEdges
    congr 3
end Y
set_option Elab.async false
set_option linter.all false
set_option maxRecDepth 100000
set_option maxHeartbeats 4000000
set_option autoImplicit false
/-! contracts: _law_lost_word, _law_safe -/
namespace Y
open PySem L2
def sT (p : SW) : Val := .tup [nV p.1, .tup (p.2.map nV)]
def p__law_lost_word : PT := fun xs s Q E => ∃ (v xb xo : Val) (c : Ch) (bad own : List Nat) (b : Nat), xs = [v, xb, xo] ∧ LArg s v xb xo c bad own ∧ b ∈ bad ∧ RF (unc own) c.es 0 b ∧
  ∀ (s' : Store) (i x : Nat) (w : List Nat), Sub s s' → LWEnd own bad c.es i x w → Q (.tup (w.map nV)) s'
theorem ok_law_lost_word {xs s Q E} (h : p__law_lost_word xs s Q E) : r__law_lost_word (DF Q E) (startE 7 xs) s := by
  obtain ⟨v, xb, xo, c, bad, own, b, rfl, ga, hb, hr, q⟩ := h
  obtain ⟨p, d, rfl, hp, hd⟩ := ga.ch.ex
  have hco := ga.cok
  have hn := hco.n10
  have hes : ∀ e ∈ c.es, e.2.2 < c.n := fun e he => (hco.ok.rg e he).2.2
  simp [r__law_lost_word]
  intro t ht o ho
  have hot : o ≠ t := fun z => by rw [z] at ho; simp at ho
  have ho' : s o = none := by rwa [updS_ne hot] at ho
  have kk : Sub s (updS (updS s t (.lst [.tup [.int 0, .tup []]])) o (.lst [.int 0])) := (Sub.new ht).upd ho'
  rw [wFor_app]
  simp
  rw [oIx_lst (kk _ _ hp)]
  simp [nV]
  refine ⟨by omega, ?_⟩
  refine FB.of ((List.range c.n).map fun k => Val.int (0 + (k : Nat))) (fun i env s2 => i ≤ c.n ∧ (∀ j < i, ∃ p, (lwAt own c.es j)[j]? = some p ∧ p.1 ∉ bad) ∧ Sub s s2 ∧ s2 t = some (.lst ((lwAt own c.es i).map sT)) ∧ s2 o = some (.lst (((lwAt own c.es i).map (·.1)).map nV)) ∧
    ∃ v5 v6, env = [some (.ref p), some xb, some xo, some (.ref t), some (.ref o), v5, v6])
    ⟨Nat.zero_le _, fun j h => absurd h (by omega), kk, by rw [updS_ne hot.symm, updS_self]; simp [lwAt, sT, nV], by simp [lwAt, nV], _, _, rfl⟩ (fun i env s2 h => dR_at) ?_ ?_
  · rintro i y env s2 hi ⟨_, pre, k2, h1, h2, v5, v6, rfl⟩
    have hin : i < c.n ∧ y = .int (i : Nat) := by
      obtain ⟨z1, z2⟩ := List.getElem?_eq_some_iff.mp hi
      simp at z1 z2
      exact ⟨z1, z2.symm⟩
    obtain ⟨hin, rfl⟩ := hin
    have hlt := lw_go hco.n0 hes hb hr pre
    have hle : (lwAt own c.es i).length ≤ c.n := by rw [lwAt_len]; exact bfAt_le hco.n0 hes i
    obtain ⟨pw, hpw⟩ : ∃ pw, (lwAt own c.es i)[i] = pw := ⟨_, rfl⟩
    have hpm : pw ∈ lwAt own c.es i := by rw [← hpw]; exact List.getElem_mem hlt
    have hget : (lwAt own c.es i)[i]? = some pw := by rw [List.getElem?_eq_getElem hlt, hpw]
    have hixt : ∀ {s3 : Store} {st : List SW} {Q1 : QV}, s3 t = some (.lst (st.map sT)) → st[i]? = some pw → Q1 (sT pw) s3 → oIx (.ref t) (.int (i : Nat)) s3 Q1 := fun {s3 st Q1} g gi gq => by
      rw [oIx_lst g, atI_nat]
      exact ⟨sT pw, by rw [List.getElem?_map, gi]; rfl, gq⟩
    refine ⟨_, by simp; rfl, ?_⟩
    simp
    rw [cLen_of (seqOf_lst h1)]
    simp
    refine .inr ⟨hlt, hixt h1 hget ?_⟩
    simp [sT, nV]
    rw [oIn_N (ga.b.sub k2)]
    by_cases hbad : pw.1 ∈ bad
    · refine .inr ⟨by simp [hbad], hixt h1 hget ?_⟩
      simp [sT]
      exact q s2 i pw.1 pw.2 k2 ⟨pre, hget, hbad⟩
    · refine .inl ⟨by simp [hbad], ?_⟩
      rw [wFor_app]
      refine wISeq_val (x := .ref d) (fun Q h => by simp; rw [oIx_lst (k2 _ _ hp)]; simpa [nV] using h) (seqOf_lst (k2 _ _ hd)) (fun _ z => nomatch z) fun it hat => ?_
      refine FB.of (c.es.map ev) (fun k env s4 => Sub s s4 ∧ s4 t = some (.lst ((lwRow own (c.es.take k) pw (lwAt own c.es i)).map sT)) ∧ s4 o = some (.lst (((lwRow own (c.es.take k) pw (lwAt own c.es i)).map (·.1)).map nV)) ∧
        ∃ v6, env = [some (.ref p), some xb, some xo, some (.ref t), some (.ref o), some (.int (i : Nat)), v6])
        ⟨k2, h1, h2, _, rfl⟩ (fun k env s4 h => hat _ _ (seqOf_lst (h.1 _ _ hd))) ?_ ?_
      · rintro k y env s4 hy ⟨k4, g1, g2, v6, rfl⟩
        rw [List.getElem?_map, Option.map_eq_some_iff] at hy
        obtain ⟨e, hae, rfl⟩ := hy
        have hto : ∀ e ∈ c.es.take k, e ∈ c.es ∧ e.2.2 < c.n := fun e he => ⟨List.mem_of_mem_take he, hes e (List.mem_of_mem_take he)⟩
        have hbo := bfAt_ok (f := unc own) hco.n0 hes i
        obtain ⟨b1, b2, ⟨rr, b3⟩, _⟩ := bfRow_facts (f := unc own) (es := c.es) (x0 := 0) (n := c.n) (x := pw.1) (c.es.take k) (ord := bfAt (unc own) c.es 0 i) hto hbo.nd hbo.sound (by rw [← lwAt_fst]; exact List.mem_map.mpr ⟨pw, hpm, rfl⟩)
        have hfst : (lwRow own (c.es.take k) pw (lwAt own c.es i)).map (·.1) = bfRow (unc own) (c.es.take k) pw.1 (bfAt (unc own) c.es 0 i) := by rw [lwRow_fst, lwAt_fst]
        have hlen : (lwRow own (c.es.take k) pw (lwAt own c.es i)).length ≤ c.n := by
          have : ((lwRow own (c.es.take k) pw (lwAt own c.es i)).map (·.1)).length ≤ c.n := by
            rw [hfst]
            exact nodup_lt b1 fun t ht => (b2 t ht).1
          rwa [List.length_map] at this
        have hsh := lwRow_short (own := own) (c.es.take k) (lwAt_short (own := own) (es := c.es) i) hpm
        have hnx : lwRow own (c.es.take (k + 1)) pw (lwAt own c.es i) = lw1 own pw (lwRow own (c.es.take k) pw (lwAt own c.es i)) e := by
          unfold lwRow
          rw [take_add hae, List.foldl_append]
          rfl
        obtain ⟨ra, hra⟩ := lwRow_app (own := own) (p := pw) (c.es.take k) (lwAt own c.es i)
        rw [hnx]
        generalize hst : lwRow own (c.es.take k) pw (lwAt own c.es i) = st at *
        have hgst : st[i]? = some pw := by rw [hra, List.getElem?_append_left hlt]; exact hget
        have hpst : pw ∈ st := List.mem_of_getElem? hgst
        simp [ev]
        refine hixt g1 hgst ?_
        simp [sT, nV]
        by_cases c0 : e.1 = pw.1
        · refine .inr ⟨by omega, ?_⟩
          rw [oIn_N (ga.o.sub k4)]
          by_cases c1 : e.2.1 ∈ own
          · refine .inl ⟨by simp [c1], k4, ?_⟩
            have : lw1 own pw st e = st := by unfold lw1; rw [if_neg fun z => by have := z.2.1; simp [unc, c1] at this]
            rw [this]
            exact ⟨g1, by simpa using g2⟩
          · refine .inr ⟨by simp [c1], ?_⟩
            rw [oIn_nat g2]
            by_cases c2 : e.2.2 ∈ st.map (·.1)
            · refine .inl ⟨by simp only [c2]; simp, k4, ?_⟩
              have : lw1 own pw st e = st := by unfold lw1; rw [if_neg fun z => z.2.2 c2]
              rw [this]
              exact ⟨g1, by simpa using g2⟩
            · refine .inr ⟨by simp only [c2]; simp, tyS_list g2, ?_⟩
              have hl1 : lw1 own pw st e = st ++ [(e.2.2, pw.2 ++ [e.2.1])] := by unfold lw1; rw [if_pos ⟨c0, by simp [unc, c1], c2⟩]
              rw [mAppend_of g2]
              refine ⟨by simp; omega, ?_⟩
              obtain ⟨s5, hs5⟩ : ∃ s5, updS s4 o (.lst ((st.map (·.1)).map nV ++ [.int (e.2.2 : Nat)])) = s5 := ⟨_, rfl⟩
              have hs5o : s5 o = some (.lst ((st.map (·.1)).map nV ++ [.int (e.2.2 : Nat)])) := by rw [← hs5, updS_self]
              have g1' : s5 t = some (.lst (st.map sT)) := by rw [← hs5, updS_ne hot.symm]; exact g1
              have k5 : Sub s s5 := by rw [← hs5]; exact k4.upd ho'
              rw [hs5]
              refine ⟨tyS_list g1', hixt g1' hgst ?_⟩
              simp [sT]
              refine ⟨by have := hsh pw hpst; omega, ?_⟩
              rw [mAppend_of g1']
              refine ⟨by rw [List.length_map]; omega, k5.upd ht, ?_, ?_⟩
              · rw [updS_self, hl1]
                simp [sT, nV]
              · rw [updS_ne hot, hs5o, hl1]
                simp [nV]
        · refine .inl ⟨by omega, k4, ?_⟩
          have : lw1 own pw st e = st := by unfold lw1; rw [if_neg fun z => c0 z.1]
          rw [this]
          exact ⟨g1, by simpa using g2⟩
      · rintro k env s4 hk ⟨k4, g1, g2, v6, rfl⟩
        rw [List.length_map] at hk
        rw [List.take_of_length_le (by omega)] at g1 g2
        have hnext : lwAt own c.es (i + 1) = lwRow own c.es pw (lwAt own c.es i) := by
          rw [lwAt, if_pos hlt, List.getD_eq_getElem?_getD, hget]
          rfl
        refine ⟨hin, fun j hj => ?_, k4, by rw [hnext]; exact g1, by rw [hnext]; simpa using g2, _, _, rfl⟩
        by_cases e : j = i
        · subst e
          exact ⟨pw.1, ⟨pw.2, hget⟩, hbad⟩
        · obtain ⟨p', z1, z2⟩ := pre j (by omega)
          exact ⟨p'.1, ⟨p'.2, z1⟩, z2⟩
  · rintro i env s2 hi ⟨hin, pre, k2, h1, h2, v5, v6, rfl⟩
    simp at hi
    have : i = c.n := by omega
    subst this
    have hlt := lw_go hco.n0 hes hb hr pre
    have hle : (lwAt own c.es c.n).length ≤ c.n := by rw [lwAt_len]; exact bfAt_le hco.n0 hes c.n
    omega

def p__law_safe : PT := fun xs s Q E => ∃ (v : Val) (c : Ch) (o : Addr) (ls : List Nat), xs = [v, .ref o] ∧ LawCh s v c ∧ ChOk c ∧ s o = some (.lst (ls.map nV)) ∧
  ∀ (p : Addr) (s' : Store) (ns : List Nat), s p = none → Sub s s' → ns.Pairwise (· < ·) → (∀ m, m ∈ ns ↔ RF (keepE ls) c.es 0 m) → s' p = some (.lst (ns.map nV)) → Q (.ref p) s'
theorem ok_law_safe {xs s Q E} (h : p__law_safe xs s Q E) : r__law_safe (DF Q E) (startE 5 xs) s := by
  obtain ⟨v, c, o, ls, rfl, lc, cok, ho, q⟩ := h
  obtain ⟨p, d, rfl, hp, hd⟩ := lc.ex
  have hn := cok.n10
  have hes : ∀ e ∈ c.es, e.2.2 < c.n := fun e he => (cok.ok.rg e he).2.2
  simp [r__law_safe]
  intro t ht
  have kk : Sub s (updS s t (.lst [.int 0])) := Sub.new ht
  rw [wFor_app]
  simp
  rw [oIx_lst (kk _ _ hp)]
  simp [nV]
  refine ⟨by omega, ?_⟩
  refine FB.of ((List.range c.n).map fun k => Val.int (0 + (k : Nat))) (fun i env s2 => i ≤ c.n ∧ Sub s s2 ∧ s2 t = some (.lst ((bfAt (keepE ls) c.es 0 i).map nV)) ∧
    ∃ v5 v6, env = [some (.ref p), some (.ref o), some (.ref t), v5, v6])
    ⟨Nat.zero_le _, kk, by simp [bfAt, nV], _, _, rfl⟩ (fun i env s2 h => dR_at) ?_ ?_
  · rintro i y env s2 hi ⟨_, k2, h1, v5, v6, rfl⟩
    have hin : i < c.n ∧ y = .int (i : Nat) := by
      obtain ⟨z1, z2⟩ := List.getElem?_eq_some_iff.mp hi
      simp at z1 z2
      exact ⟨z1, z2.symm⟩
    obtain ⟨hin, rfl⟩ := hin
    have hle : (bfAt (keepE ls) c.es 0 i).length ≤ c.n := bfAt_le cok.n0 hes i
    refine ⟨_, by simp; rfl, ?_⟩
    simp
    rw [cLen_of (seqOf_lst h1)]
    simp
    by_cases hlt : i < (bfAt (keepE ls) c.es 0 i).length
    · obtain ⟨x, hx⟩ : ∃ x, (bfAt (keepE ls) c.es 0 i)[i] = x := ⟨_, rfl⟩
      have hpm : x ∈ bfAt (keepE ls) c.es 0 i := by rw [← hx]; exact List.getElem_mem hlt
      have hget : (bfAt (keepE ls) c.es 0 i)[i]? = some x := by rw [List.getElem?_eq_getElem hlt, hx]
      have hixt : ∀ {s3 : Store} {st : List Nat} {Q1 : QV}, s3 t = some (.lst (st.map nV)) → st[i]? = some x → Q1 (nV x) s3 → oIx (.ref t) (.int (i : Nat)) s3 Q1 := fun {s3 st Q1} g gi gq => by
        rw [oIx_lst g, atI_nat]
        exact ⟨nV x, by rw [List.getElem?_map, gi]; rfl, gq⟩
      refine .inr ⟨hlt, ?_⟩
      rw [wFor_app]
      refine wISeq_val (x := .ref d) (fun Q h => by simp; rw [oIx_lst (k2 _ _ hp)]; simpa [nV] using h) (seqOf_lst (k2 _ _ hd)) (fun _ z => nomatch z) fun it hat => ?_
      refine FB.of (c.es.map ev) (fun k env s4 => Sub s s4 ∧ s4 t = some (.lst ((bfRow (keepE ls) (c.es.take k) x (bfAt (keepE ls) c.es 0 i)).map nV)) ∧
        ∃ v6, env = [some (.ref p), some (.ref o), some (.ref t), some (.int (i : Nat)), v6])
        ⟨k2, h1, _, rfl⟩ (fun k env s4 h => hat _ _ (seqOf_lst (h.1 _ _ hd))) ?_ ?_
      · rintro k y env s4 hy ⟨k4, g1, v6, rfl⟩
        rw [List.getElem?_map, Option.map_eq_some_iff] at hy
        obtain ⟨e, hae, rfl⟩ := hy
        have hto : ∀ e ∈ c.es.take k, e ∈ c.es ∧ e.2.2 < c.n := fun e he => ⟨List.mem_of_mem_take he, hes e (List.mem_of_mem_take he)⟩
        have hbo := bfAt_ok (f := (keepE ls)) cok.n0 hes i
        obtain ⟨b1, b2, ⟨rr, b3⟩, _⟩ := bfRow_facts (f := (keepE ls)) (es := c.es) (x0 := 0) (n := c.n) (x := x) (c.es.take k) (ord := bfAt (keepE ls) c.es 0 i) hto hbo.nd hbo.sound hpm
        have hlen : (bfRow (keepE ls) (c.es.take k) x (bfAt (keepE ls) c.es 0 i)).length ≤ c.n := nodup_lt b1 fun t ht => (b2 t ht).1
        have hnx : bfRow (keepE ls) (c.es.take (k + 1)) x (bfAt (keepE ls) c.es 0 i) = bf1 (keepE ls) x (bfRow (keepE ls) (c.es.take k) x (bfAt (keepE ls) c.es 0 i)) e := by
          unfold bfRow
          rw [take_add hae, List.foldl_append]
          rfl
        rw [hnx]
        generalize hst : bfRow (keepE ls) (c.es.take k) x (bfAt (keepE ls) c.es 0 i) = st at *
        have hgst : st[i]? = some x := by rw [b3, List.getElem?_append_left hlt]; exact hget
        simp [ev]
        refine hixt g1 hgst ?_
        simp [nV]
        by_cases c0 : e.1 = x
        · refine .inr ⟨by omega, ?_⟩
          rw [oIn_nat (k4 _ _ ho)]
          by_cases c1 : e.2.2 ∈ ls
          · refine .inl ⟨by simp [c1], k4, ?_⟩
            have : bf1 (keepE ls) x st e = st := by unfold bf1; rw [if_neg fun z => by have := z.2.1; simp [keepE, c1] at this]
            rw [this]
            exact g1
          · refine .inr ⟨by simp [c1], ?_⟩
            rw [oIn_nat g1]
            by_cases c2 : e.2.2 ∈ st
            · refine .inl ⟨by simp only [c2]; simp, k4, ?_⟩
              have : bf1 (keepE ls) x st e = st := by unfold bf1; rw [if_neg fun z => z.2.2 c2]
              rw [this]
              exact g1
            · refine .inr ⟨by simp only [c2]; simp, tyS_list g1, ?_⟩
              have hl1 : bf1 (keepE ls) x st e = st ++ [e.2.2] := by unfold bf1; rw [if_pos ⟨c0, by simp [keepE, c1], c2⟩]
              rw [mAppend_of g1]
              refine ⟨by simp; omega, k4.upd ht, ?_⟩
              rw [updS_self, hl1]
              simp [nV]
        · refine .inl ⟨by omega, k4, ?_⟩
          have : bf1 (keepE ls) x st e = st := by unfold bf1; rw [if_neg fun z => c0 z.1]
          rw [this]
          exact g1
      · rintro k env s4 hk ⟨k4, g1, v6, rfl⟩
        rw [List.length_map] at hk
        rw [List.take_of_length_le (by omega)] at g1
        have hnext : bfAt (keepE ls) c.es 0 (i + 1) = bfRow (keepE ls) c.es x (bfAt (keepE ls) c.es 0 i) := by
          rw [bfAt, if_pos hlt, List.getD_eq_getElem?_getD, hget]
          rfl
        exact ⟨hin, k4, by rw [hnext]; exact g1, _, _, rfl⟩
    · refine .inl ⟨by omega, hin, k2, ?_⟩
      rw [bfAt, if_neg hlt]
      exact h1
  · rintro i env s2 hi ⟨hin, k2, h1, v5, v6, rfl⟩
    simp at hi
    have : i = c.n := by omega
    subst this
    have hle : (bfAt (keepE ls) c.es 0 c.n).length ≤ c.n := bfAt_le cok.n0 hes c.n
    have hok := bfAt_ok (f := (keepE ls)) cok.n0 hes c.n
    have hmem := fun m => bfAt_mem (f := (keepE ls)) cok.n0 hes (t := m) hle
    simp
    refine sort_nat h1 hok.nd fun q1 ns hq1 hpw hm => ?_
    exact q q1 _ ns (none_of k2 hq1) (k2.trans (Sub.new hq1)) hpw (fun m => (hm m).trans (hmem m)) updS_self
end Y
set_option Elab.async false
set_option linter.all false
set_option maxRecDepth 100000
set_option maxHeartbeats 4000000
set_option autoImplicit false
/-! contracts: _law_falls -/
namespace Y
open PySem L2
theorem cAny_of {α : Type} {s : Store} {o : Addr} {as : List α} {g : α → Bool} {Q : QV} (h : s o = some (.lst (as.map fun x => .bl (g x)))) (q : Q (.bl (as.any g)) s) : cAny [.ref o] s Q := by
  refine ⟨o, as.map g, rfl, by rw [h, List.map_map]; rfl, ?_⟩
  rw [List.any_map]
  exact q
def p__law_falls : PT := fun xs s Q E => ∃ (v xb xo : Val) (c : Ch) (bad own : List Nat) (x0 : Nat), xs = [v, xb, xo, nV x0] ∧ LArg s v xb xo c bad own ∧ x0 < c.n ∧
  ∀ (s' : Store) (z : Bool), Sub s s' → (z = true ↔ ∃ b ∈ bad, RF (unc own) c.es x0 b) → Q (.bl z) s'
theorem ok_law_falls {xs s Q E} (h : p__law_falls xs s Q E) : r__law_falls (DF Q E) (startE 8 xs) s := by
  obtain ⟨v, xb, xo, c, bad, own, x0, rfl, ga, hx0, q⟩ := h
  obtain ⟨p, d, rfl, hp, hd⟩ := ga.ch.ex
  have cok := ga.cok
  have hn := cok.n10
  have hes : ∀ e ∈ c.es, e.2.2 < c.n := fun e he => (cok.ok.rg e he).2.2
  simp [r__law_falls, nV]
  intro t ht
  have kk : Sub s (updS s t (.lst [.int (x0 : Nat)])) := Sub.new ht
  rw [wFor_app]
  simp
  rw [oIx_lst (kk _ _ hp)]
  simp [nV]
  refine ⟨by omega, ?_⟩
  refine FB.of ((List.range c.n).map fun k => Val.int (0 + (k : Nat))) (fun i env s2 => i ≤ c.n ∧ Sub s s2 ∧ s2 t = some (.lst ((bfAt (unc own) c.es x0 i).map nV)) ∧
    ∃ v5 v6 v7, env = [some (.ref p), some xb, some xo, some (.int (x0 : Nat)), some (.ref t), v5, v6, v7])
    ⟨Nat.zero_le _, kk, by simp [bfAt, nV], _, _, _, rfl⟩ (fun i env s2 h => dR_at) ?_ ?_
  · rintro i y env s2 hi ⟨_, k2, h1, v5, v6, v7, rfl⟩
    have hin : i < c.n ∧ y = .int (i : Nat) := by
      obtain ⟨z1, z2⟩ := List.getElem?_eq_some_iff.mp hi
      simp at z1 z2
      exact ⟨z1, z2.symm⟩
    obtain ⟨hin, rfl⟩ := hin
    have hle : (bfAt (unc own) c.es x0 i).length ≤ c.n := bfAt_le hx0 hes i
    refine ⟨_, by simp; rfl, ?_⟩
    simp
    rw [cLen_of (seqOf_lst h1)]
    simp
    by_cases hlt : i < (bfAt (unc own) c.es x0 i).length
    · obtain ⟨x, hx⟩ : ∃ x, (bfAt (unc own) c.es x0 i)[i] = x := ⟨_, rfl⟩
      have hpm : x ∈ bfAt (unc own) c.es x0 i := by rw [← hx]; exact List.getElem_mem hlt
      have hget : (bfAt (unc own) c.es x0 i)[i]? = some x := by rw [List.getElem?_eq_getElem hlt, hx]
      have hixt : ∀ {s3 : Store} {st : List Nat} {Q1 : QV}, s3 t = some (.lst (st.map nV)) → st[i]? = some x → Q1 (nV x) s3 → oIx (.ref t) (.int (i : Nat)) s3 Q1 := fun {s3 st Q1} g gi gq => by
        rw [oIx_lst g, atI_nat]
        exact ⟨nV x, by rw [List.getElem?_map, gi]; rfl, gq⟩
      refine .inr ⟨hlt, ?_⟩
      rw [wFor_app]
      refine wISeq_val (x := .ref d) (fun Q h => by simp; rw [oIx_lst (k2 _ _ hp)]; simpa [nV] using h) (seqOf_lst (k2 _ _ hd)) (fun _ z => nomatch z) fun it hat => ?_
      refine FB.of (c.es.map ev) (fun k env s4 => Sub s s4 ∧ s4 t = some (.lst ((bfRow (unc own) (c.es.take k) x (bfAt (unc own) c.es x0 i)).map nV)) ∧
        ∃ v6 v7, env = [some (.ref p), some xb, some xo, some (.int (x0 : Nat)), some (.ref t), some (.int (i : Nat)), v6, v7])
        ⟨k2, h1, _, _, rfl⟩ (fun k env s4 h => hat _ _ (seqOf_lst (h.1 _ _ hd))) ?_ ?_
      · rintro k y env s4 hy ⟨k4, g1, v6, v7, rfl⟩
        rw [List.getElem?_map, Option.map_eq_some_iff] at hy
        obtain ⟨e, hae, rfl⟩ := hy
        have hto : ∀ e ∈ c.es.take k, e ∈ c.es ∧ e.2.2 < c.n := fun e he => ⟨List.mem_of_mem_take he, hes e (List.mem_of_mem_take he)⟩
        have hbo := bfAt_ok (f := (unc own)) hx0 hes i
        obtain ⟨b1, b2, ⟨rr, b3⟩, _⟩ := bfRow_facts (f := (unc own)) (es := c.es) (x0 := x0) (n := c.n) (x := x) (c.es.take k) (ord := bfAt (unc own) c.es x0 i) hto hbo.nd hbo.sound hpm
        have hlen : (bfRow (unc own) (c.es.take k) x (bfAt (unc own) c.es x0 i)).length ≤ c.n := nodup_lt b1 fun t ht => (b2 t ht).1
        have hnx : bfRow (unc own) (c.es.take (k + 1)) x (bfAt (unc own) c.es x0 i) = bf1 (unc own) x (bfRow (unc own) (c.es.take k) x (bfAt (unc own) c.es x0 i)) e := by
          unfold bfRow
          rw [take_add hae, List.foldl_append]
          rfl
        rw [hnx]
        generalize hst : bfRow (unc own) (c.es.take k) x (bfAt (unc own) c.es x0 i) = st at *
        have hgst : st[i]? = some x := by rw [b3, List.getElem?_append_left hlt]; exact hget
        simp [ev]
        refine hixt g1 hgst ?_
        simp [nV]
        by_cases c0 : e.1 = x
        · refine .inr ⟨by omega, ?_⟩
          rw [oIn_N (ga.o.sub k4)]
          by_cases c1 : e.2.1 ∈ own
          · refine .inl ⟨by simp [c1], k4, ?_⟩
            have : bf1 (unc own) x st e = st := by unfold bf1; rw [if_neg fun z => by have := z.2.1; simp [unc, c1] at this]
            rw [this]
            exact g1
          · refine .inr ⟨by simp [c1], ?_⟩
            rw [oIn_nat g1]
            by_cases c2 : e.2.2 ∈ st
            · refine .inl ⟨by simp only [c2]; simp, k4, ?_⟩
              have : bf1 (unc own) x st e = st := by unfold bf1; rw [if_neg fun z => z.2.2 c2]
              rw [this]
              exact g1
            · refine .inr ⟨by simp only [c2]; simp, tyS_list g1, ?_⟩
              have hl1 : bf1 (unc own) x st e = st ++ [e.2.2] := by unfold bf1; rw [if_pos ⟨c0, by simp [unc, c1], c2⟩]
              rw [mAppend_of g1]
              refine ⟨by simp; omega, k4.upd ht, ?_⟩
              rw [updS_self, hl1]
              simp [nV]
        · refine .inl ⟨by omega, k4, ?_⟩
          have : bf1 (unc own) x st e = st := by unfold bf1; rw [if_neg fun z => c0 z.1]
          rw [this]
          exact g1
      · rintro k env s4 hk ⟨k4, g1, v6, v7, rfl⟩
        rw [List.length_map] at hk
        rw [List.take_of_length_le (by omega)] at g1
        have hnext : bfAt (unc own) c.es x0 (i + 1) = bfRow (unc own) c.es x (bfAt (unc own) c.es x0 i) := by
          rw [bfAt, if_pos hlt, List.getD_eq_getElem?_getD, hget]
          rfl
        exact ⟨hin, k4, by rw [hnext]; exact g1, _, _, _, rfl⟩
    · refine .inl ⟨by omega, hin, k2, ?_⟩
      rw [bfAt, if_neg hlt]
      exact h1
  · rintro i env s2 hi ⟨hin, k2, h1, v5, v6, v7, rfl⟩
    simp at hi
    have : i = c.n := by omega
    subst this
    have hle : (bfAt (unc own) c.es x0 c.n).length ≤ c.n := bfAt_le hx0 hes c.n
    have hok := bfAt_ok (f := (unc own)) hx0 hes c.n
    have hmem := fun m => bfAt_mem (f := (unc own)) hx0 hes (t := m) hle
    simp
    refine wLc_app.mpr ?_
    refine wISeq_val (x := .ref t) (fun Q h => by simpa using h) (seqOf_lst h1) (fun _ z => nomatch z) fun it hat => ?_
    refine lb_map_nat (g := fun m => .bl (decide (m ∈ bad))) (fun s3 j k3 => hat _ _ (seqOf_lst (k3 _ _ h1))) (by omega) (fun m hm s3 k3 Q1 h => ?_) fun o s3 ho k3 h3 => ?_
    · simp [nV]
      rw [oIn_N (ga.b.sub (k2.trans k3))]
      exact h s3 (Sub.refl _)
    · refine cAny_of h3 (q s3 _ (k2.trans k3) ?_)
      simp only [List.any_eq_true, decide_eq_true_eq]
      exact ⟨fun ⟨m, z1, z2⟩ => ⟨m, z2, (hmem m).mp z1⟩, fun ⟨m, z1, z2⟩ => ⟨m, (hmem m).mpr z2, z1⟩⟩
end Y
set_option Elab.async false
set_option linter.all false
set_option maxRecDepth 100000
set_option maxHeartbeats 4000000
set_option autoImplicit false
/-! contracts: _law_part -/
namespace Y
open PySem L2
theorem mIndex_of {s : Store} {o : Addr} {ns : List Nat} {m : Nat} {Q : QV} (h : s o = some (.lst (ns.map nV))) (hm : m ∈ ns) (q : Q (nV (ns.idxOf m)) s) : mIndex (.ref o) [.int (m : Nat)] s Q := by
  have hi : (ns.map fun k => ((k : Nat) : Int)).idxOf (m : Int) = ns.idxOf m := by
    clear h q
    induction ns with
    | nil => rfl
    | cons n ns ih =>
      rw [List.map_cons, List.idxOf_cons, List.idxOf_cons]
      by_cases e : n = m
      · subst e; simp
      · have e1 : (n == m) = false := by simpa using e
        have e2 : (((n : Nat) : Int) == ((m : Nat) : Int)) = false := by simp; omega
        rw [e1, e2]
        simp only [cond_false]
        rw [ih ((List.mem_cons.mp hm).resolve_left (Ne.symm e))]
  refine ⟨(m : Nat), ns.map (fun k => ((k : Nat) : Int)), rfl, (fun zs z => by cases z), ?_, ?_, ?_⟩
  · rw [seqOf_lst h, List.map_map]
    rfl
  · exact List.mem_map.mpr ⟨m, hm, rfl⟩
  · rw [hi]; exact q
def p__law_part : PT := fun xs s Q E => ∃ (v : Val) (c : Ch) (o k : Addr) (ns ks : List Nat), xs = [v, .ref o, .ref k] ∧ LawCh s v c ∧ s o = some (.lst (ns.map nV)) ∧ s k = some (.lst (ks.map nV)) ∧ PartOk c ns ks ∧
  ∀ (p : Addr) (s' : Store), Sub s s' → LawCh s' (.ref p) (partCh c ns ks) → Q (.ref p) s'
theorem ok_law_part {xs s Q E} (h : p__law_part xs s Q E) : r__law_part (DF Q E) (startE 6 xs) s := by
  obtain ⟨v, c, o, kl, ns, ks, rfl, lc, ho, hk, po, q⟩ := h
  obtain ⟨p, d, rfl, hp, hd⟩ := lc.ex
  have hcl := po.ch.len
  have hkl := up_len po.up po.lt
  simp [r__law_part]
  refine wLc_app.mpr ?_
  refine wISeq_val (x := .ref kl) (fun Q h => by simpa using h) (seqOf_lst hk) (fun _ z => nomatch z) fun it hat => ?_
  refine lb_map_nat (ns := ks) (g := fun k => ev (c.es.getD k (0, 0, 0))) (fun s2 j k => hat s2 j (seqOf_lst (k _ _ hk))) (by omega) (fun k hk2 s2 k2 Q1 h => ?_) fun b s2 hb k2 h2 => ?_
  · have hlt := po.lt k hk2
    simp [nV]
    rw [oIx_lst (k2 _ _ hp)]
    simp
    rw [oIx_lst (k2 _ _ hd), atI_nat]
    refine ⟨ev (c.es.getD k (0, 0, 0)), by rw [List.getElem?_map, List.getD_eq_getElem?_getD, List.getElem?_eq_getElem hlt]; rfl, h s2 (Sub.refl _)⟩
  have hkes : (ks.map fun k => ev (c.es.getD k (0, 0, 0))) = (kes c.es ks).map ev := by unfold kes; rw [List.map_map]; rfl
  rw [hkes] at h2
  rw [oIx_lst (k2 _ _ hp)]
  refine ⟨_, rfl, ?_⟩
  rw [cLen_of (seqOf_lst (k2 _ _ ho))]
  refine wLc_app.mpr ?_
  refine wISeq_val (x := .ref b) (fun Q h => by simpa using h) (seqOf_lst h2) (fun _ z => nomatch z) fun it2 hat2 => ?_
  refine lb_map_of (α := Edge) (f := ev) (u := unE) (as := kes c.es ks) unE_ev (g := fun e => ev (ren ns e)) (fun s3 j k3 => hat2 _ _ (seqOf_lst (k3 _ _ h2))) (by unfold kes; rw [List.length_map]; omega) (fun e he s3 k3 => ?_) fun b2 s3 hb2 k3 h3 => ?_
  · refine ⟨_, by simp; rfl, fun Q1 h => ?_⟩
    have ho3 := k3 _ _ (k2 _ _ ho)
    have hends := po.ends he
    simp [ev]
    refine ⟨tyS_list ho3, mIndex_of ho3 hends.1 ?_⟩
    refine ⟨tyS_list ho3, mIndex_of ho3 hends.2 ?_⟩
    exact h s3 (Sub.refl _)
  · have h3' : s3 b2 = some (.lst (((kes c.es ks).map (ren ns)).map ev)) := by rw [h3, List.map_map]; rfl
    simp
    intro r hr
    have hrb : b2 ≠ r := fun z => by rw [z, hr] at h3; cases h3
    refine q r _ ((k2.trans k3).trans (Sub.new hr)) ⟨r, b2, rfl, ?_, ?_⟩
    · rw [updS_self]; simp [partCh, nV]
    · rw [updS_ne hrb]; exact h3'
end Y
set_option Elab.async false
set_option linter.all false
set_option maxRecDepth 100000
set_option maxHeartbeats 4000000
set_option autoImplicit false
/-! contracts: _law_same, _law_same_chart -/
namespace Y
open PySem L2
def SameV : Nat → Store → Val → Val → Prop
  | 0, _, x, y => ∃ i : Int, x = .int i ∧ y = .int i
  | d + 1, s, x, y => (∃ i : Int, x = .int i ∧ y = .int i) ∨ ∃ xs ys : List Val, ((x = .tup xs ∧ y = .tup ys) ∨ ∃ p q : Addr, x = .ref p ∧ y = .ref q ∧ s p = some (.lst xs) ∧ s q = some (.lst ys)) ∧ xs.length = ys.length ∧ xs.length ≤ 1000 ∧ ∀ (i : Nat) (a b : Val), xs[i]? = some a → ys[i]? = some b → SameV d s a b
theorem SameV.sub {s s' : Store} (k : Sub s s') : ∀ {d : Nat} {x y : Val}, SameV d s x y → SameV d s' x y
  | 0, _, _, h => h
  | d + 1, x, y, h => by
    rcases h with h | ⟨xs, ys, h1, h2, h3, h4⟩
    · exact .inl h
    · refine .inr ⟨xs, ys, ?_, h2, h3, fun i a b ha hb => SameV.sub k (h4 i a b ha hb)⟩
      rcases h1 with h1 | ⟨p, q, e1, e2, e3, e4⟩
      · exact .inl h1
      · exact .inr ⟨p, q, e1, e2, k _ _ e3, k _ _ e4⟩
def p__law_same : Nat → PT
  | 0 => fun _ _ _ _ => False
  | d + 1 => fun xs s Q E => ∃ x y, xs = [x, y] ∧ SameV d s x y ∧ ∀ s', Sub s s' → Q (.bl true) s'
theorem cIsi_at {s : Store} {x : Val} {t n : String} {Q : QV} (ht : tyName s x = some t) (hk : kitB t n = some (isiB t n)) (b : Bool) (hb : isiB t n = b) (q : Q (.bl b) s) : cIsi [x, .ty n] s Q := ⟨x, n, t, rfl, ht, hk, by rw [hb]; exact q⟩
theorem ok_same {d : Nat} {xs s Q E} (h : p__law_same (d + 1) xs s Q E) : r__law_same (p__law_same d) (DF Q E) (startE 3 xs) s := by
  obtain ⟨x, y, rfl, hs, q⟩ := h
  have leaf : ∀ i : Int, x = .int i → y = .int i → r__law_same (p__law_same d) (DF Q E) (startE 3 [x, y]) s := by
    rintro i rfl rfl
    simp [r__law_same]
    refine cIsi_at rfl (by decide) false (by decide) (.inl ⟨rfl, ?_⟩)
    refine cIsi_at rfl (by decide) true (by decide) (.inr ⟨rfl, ?_⟩)
    refine cIsi_at rfl (by decide) true (by decide) (.inr ⟨rfl, ?_⟩)
    refine cIsi_at rfl (by decide) false (by decide) (.inl ⟨rfl, ?_⟩)
    exact q s (Sub.refl _)
  cases d with
  | zero => obtain ⟨i, h1, h2⟩ := hs; exact leaf i h1 h2
  | succ d =>
    rcases hs with ⟨i, h1, h2⟩ | ⟨xs, ys, hk, hl, hn, hat⟩
    · exact leaf i h1 h2
    have fin : seqOf s x = some xs → seqOf s y = some ys → (∀ i a s', xs[i]? = some a → Sub s s' → ∀ Q : QV, Q a s' → oIx x (.int (i : Nat)) s' Q) → (∀ i a s', ys[i]? = some a → Sub s s' → ∀ Q : QV, Q a s' → oIx y (.int (i : Nat)) s' Q) →
        cLen [x] s fun x_1 s1 => cLen [y] s1 fun y_1 s2 => oEq true x_1 y_1 s2 fun z s1 => (z = .bl false ∧ wLc (wIR1 (waCons (wCall cLen (waCons (wVar 1) waNil)) waNil)) (.nm 2) wYes (wCallF 2 (p__law_same (d + 1)) (waCons (wOp oIx (wVar 0) (wVar 2)) (waCons (wOp oIx (wVar 1) (wVar 2)) waNil))) [2] [some x, some y, none] s1 (fun x s1 => cAll [x] s1 Q) (fun x s1 => E x s1)) ∨ (z = .bl true ∧ Q (.bl false) s1) := by
      intro sx sy ix iy
      rw [cLen_of sx, cLen_of sy]
      simp [hl]
      refine wLc_app.mpr ?_
      simp
      rw [cLen_of sy]
      simp
      refine ⟨by omega, ?_⟩
      refine LB.map ((List.range ys.length).map fun k => Val.int (0 + (k : Nat))) (fun i s2 _ => dR_at) (by simp; omega) (fun _ => .bl true) (fun z hz s2 k2 => ?_) fun p s2 hp k2 h2 => ?_
      · obtain ⟨i, hi, rfl⟩ := List.mem_map.mp hz
        have hi' := List.mem_range.mp hi
        refine ⟨_, by simp; rfl, fun Q1 h => ?_⟩
        have hx := List.getElem?_eq_getElem (l := xs) (i := i) (by omega)
        have hy := List.getElem?_eq_getElem (l := ys) (i := i) (by omega)
        simp
        refine ix i _ s2 hx k2 _ ?_
        refine iy i _ s2 hy k2 _ ?_
        exact ⟨_, _, rfl, (hat i _ _ hx hy).sub k2, h⟩
      · refine ⟨p, ys.map fun _ => true, rfl, ?_, ?_⟩
        · rw [h2]
          rw [List.map_map]
          congr 2
          apply List.ext_getElem?
          intro j
          rw [List.getElem?_map, List.getElem?_map, List.getElem?_map]
          by_cases hj : j < ys.length
          · rw [List.getElem?_range hj, List.getElem?_eq_getElem hj]; rfl
          · rw [List.getElem?_eq_none (by simpa using hj), List.getElem?_eq_none (by omega)]; rfl
        · have : (ys.map fun _ => true).all id = true := by simp
          rw [this]
          exact q s2 k2
    rcases hk with ⟨rfl, rfl⟩ | ⟨p, o, rfl, rfl, hp, ho⟩
    · have fin := fin rfl rfl (fun i a s' h k Q q => by rw [oIx_tup, atI_nat]; exact ⟨a, h, q⟩) (fun i a s' h k Q q => by rw [oIx_tup, atI_nat]; exact ⟨a, h, q⟩)
      simp [r__law_same]
      refine cIsi_at rfl (by decide) false (by decide) (.inl ⟨rfl, ?_⟩)
      refine cIsi_at rfl (by decide) false (by decide) (.inl ⟨rfl, ?_⟩)
      refine cIsi_at rfl (by decide) false (by decide) (.inl ⟨rfl, ?_⟩)
      refine cIsi_at rfl (by decide) true (by decide) (.inr ⟨rfl, ?_⟩)
      refine cIsi_at rfl (by decide) true (by decide) (.inr ⟨rfl, ?_⟩)
      refine cIsi_at rfl (by decide) false (by decide) (.inl ⟨rfl, ?_⟩)
      exact fin
    · have hp' : seqOf s (.ref p) = some xs := seqOf_lst hp
      have fin := fin hp' (seqOf_lst ho) (fun i a s' h k Q q => by rw [oIx_lst (k _ _ hp), atI_nat]; exact ⟨a, h, q⟩) (fun i a s' h k Q q => by rw [oIx_lst (k _ _ ho), atI_nat]; exact ⟨a, h, q⟩)
      have tp : tyName s (.ref p) = some "list" := by simp [tyName, hp]
      have to : tyName s (.ref o) = some "list" := by simp [tyName, ho]
      simp [r__law_same]
      refine cIsi_at to (by decide) false (by decide) (.inl ⟨rfl, ?_⟩)
      refine cIsi_at to (by decide) false (by decide) (.inl ⟨rfl, ?_⟩)
      refine cIsi_at to (by decide) false (by decide) (.inl ⟨rfl, ?_⟩)
      refine cIsi_at to (by decide) false (by decide) (.inl ⟨rfl, ?_⟩)
      refine cIsi_at to (by decide) true (by decide) (.inr ⟨rfl, ?_⟩)
      refine cIsi_at tp (by decide) true (by decide) (.inr ⟨rfl, ?_⟩)
      exact fin
theorem SameV.int {d : Nat} {s : Store} {i : Int} : SameV d s (.int i) (.int i) := by
  cases d with
  | zero => exact ⟨i, rfl, rfl⟩
  | succ d => exact .inl ⟨i, rfl, rfl⟩
theorem SameV.tup {d : Nat} {s : Store} {xs : List Val} (hn : xs.length ≤ 1000) (h : ∀ a ∈ xs, SameV d s a a) : SameV (d + 1) s (.tup xs) (.tup xs) :=
  .inr ⟨xs, xs, .inl ⟨rfl, rfl⟩, rfl, hn, fun i a b ha hb => by
    rw [ha] at hb
    cases hb
    exact h a (List.mem_of_getElem? ha)⟩
theorem SameV.lst {d : Nat} {s : Store} {xs : List Val} {p o : Addr} (hp : s p = some (.lst xs)) (ho : s o = some (.lst xs)) (hn : xs.length ≤ 1000) (h : ∀ a ∈ xs, SameV d s a a) : SameV (d + 1) s (.ref p) (.ref o) :=
  .inr ⟨xs, xs, .inr ⟨p, o, rfl, rfl, hp, ho⟩, rfl, hn, fun i a b ha hb => by
    rw [ha] at hb
    cases hb
    exact h a (List.mem_of_getElem? ha)⟩
theorem SameV.nats {d : Nat} {s : Store} {l : List Nat} : ∀ a ∈ l.map nV, SameV d s a a := fun a ha => by
  obtain ⟨k, _, rfl⟩ := List.mem_map.mp ha
  exact SameV.int
theorem SameV.evs {d : Nat} {s : Store} {l : List Edge} : ∀ a ∈ l.map ev, SameV (d + 1) s a a := fun a ha => by
  obtain ⟨e, _, rfl⟩ := List.mem_map.mp ha
  refine SameV.tup (by simp) fun b hb => ?_
  simp at hb
  rcases hb with rfl | rfl | rfl <;> exact SameV.int
def p__law_same_chart (C : Addr) : PT := fun xs s Q E => ∃ (v w : Val) (c : Ch), xs = [v, w] ∧ IsChart C s v c ∧ LawCh s w c ∧ ∀ s', Sub s s' → Q (.bl true) s'
theorem ok_same_chart {C xs s Q E} (h : p__law_same_chart C xs s Q E) : r__law_same_chart C (p__law_same 4) (DF Q E) (startE 2 xs) s := by
  obtain ⟨v, w, c, rfl, hc, lc, q⟩ := h
  obtain ⟨p, fs, d, es0, rfl, hp, ha, hs, he, _, _, _, _, _⟩ := hc.get
  obtain ⟨p2, d2, rfl, hp2, hd2⟩ := lc.ex
  have hel := hc.ok.len
  simp [r__law_same_chart]
  simp [hp, ha]
  rw [oIx_lst hp2]
  refine ⟨_, rfl, _, _, rfl, SameV.int, fun s1 k1 => .inr ⟨rfl, ?_⟩⟩
  simp [k1 _ _ hp, hs]
  rw [oIx_lst (k1 _ _ hp2)]
  refine ⟨_, rfl, _, _, rfl, SameV.int, fun s2 k2 => .inr ⟨rfl, ?_⟩⟩
  have k := k1.trans k2
  simp [k _ _ hp, he]
  rw [oIx_lst (k _ _ hp2)]
  refine ⟨_, rfl, ?_⟩
  rw [cTuple_of (seqOf_lst (k _ _ hd2))]
  refine ⟨_, _, rfl, SameV.tup (by rw [List.length_map]; omega) SameV.evs, fun s3 k3 => q s3 (k.trans k3)⟩
end Y
set_option Elab.async false
set_option linter.all false
set_option maxRecDepth 100000
set_option maxHeartbeats 4000000
set_option autoImplicit false
/-! plain: the closed sets that the law draws -/
namespace Y
open PySem L2
theorem RF_mono {f : Edge → Bool} {es es' : List Edge} {x : Nat} (h : ∀ e ∈ es, e ∈ es') {m : Nat} (r : RF f es x m) : RF f es' x m := by
  induction r with
  | zero => exact .zero
  | step he hf _ ih => exact .step (h _ he) hf ih
abbrev eAt (c : Ch) (z : Nat) : Edge := c.es.getD z (0, 0, 0)
structure ClW (c : Ch) (own ord ks : List Nat) (i k : Nat) : Prop where
  nd : ord.Nodup
  lt : ∀ x ∈ ord, x < c.n
  knd : ks.Nodup
  klt : ∀ z ∈ ks, z < c.es.length
  src : ∀ z ∈ ks, ∃ j, (j < i ∨ (j = i ∧ z < k)) ∧ ord[j]? = some (eAt c z).1
  tg : ∀ z ∈ ks, (eAt c z).2.2 ∈ ord
  rf : ∀ x ∈ ord, RF fT (kes c.es ks) 0 x
  zero : 0 ∈ ord
  cl : ∀ j z, (j < i ∨ (j = i ∧ z < k)) → z < c.es.length → ord[j]? = some (eAt c z).1 → (eAt c z).2.1 ∉ own → z ∈ ks
section
variable {c : Ch} {own ord ks : List Nat} {i k : Nat}
theorem ClW.start (hc : ChOk c) : ClW c own [0] [] 0 0 := by
  refine ⟨by simp, fun x hx => by rw [List.mem_singleton.mp hx]; exact hc.n0, by simp, (fun z h => nomatch h), (fun z h => nomatch h), (fun z h => nomatch h), fun x hx => by rw [List.mem_singleton.mp hx]; exact .zero, by simp, fun j z h => ?_⟩
  omega
theorem ClW.skip (h : ClW c own ord ks i k) (hs : ord[i]? = some (eAt c k).1 → (eAt c k).2.1 ∈ own) : ClW c own ord ks i (k + 1) := by
  refine ⟨h.nd, h.lt, h.knd, h.klt, fun z hz => ?_, h.tg, h.rf, h.zero, fun j z hj hz ho hn => ?_⟩
  · obtain ⟨j, h1, h2⟩ := h.src z hz
    exact ⟨j, by omega, h2⟩
  · by_cases e : j = i ∧ z = k
    · obtain ⟨rfl, rfl⟩ := e
      exact absurd (hs ho) hn
    · exact h.cl j z (by omega) hz ho hn
theorem ClW.row (h : ClW c own ord ks i c.es.length) : ClW c own ord ks (i + 1) 0 := by
  refine ⟨h.nd, h.lt, h.knd, h.klt, fun z hz => ?_, h.tg, h.rf, h.zero, fun j z hj hz ho hn => h.cl j z (by omega) hz ho hn⟩
  obtain ⟨j, h1, h2⟩ := h.src z hz
  exact ⟨j, by omega, h2⟩
theorem ClW.past (h : ClW c own ord ks i 0) (hi : ord.length ≤ i) : ClW c own ord ks (i + 1) 0 := by
  refine ⟨h.nd, h.lt, h.knd, h.klt, fun z hz => ?_, h.tg, h.rf, h.zero, fun j z hj hz ho hn => ?_⟩
  · obtain ⟨j, h1, h2⟩ := h.src z hz
    exact ⟨j, by omega, h2⟩
  · have := (List.getElem?_eq_some_iff.mp ho).1
    exact h.cl j z (by omega) hz ho hn
theorem ClW.take (hc : ChOk c) (h : ClW c own ord ks i k) (hk : k < c.es.length) (hi : ord[i]? = some (eAt c k).1) : ClW c own (if (eAt c k).2.2 ∈ ord then ord else ord ++ [(eAt c k).2.2]) (ks ++ [k]) i (k + 1) ∧ k ∉ ks := by
  have hil := (List.getElem?_eq_some_iff.mp hi).1
  have hkn : k ∉ ks := fun z => by
    obtain ⟨j, h1, h2⟩ := h.src k z
    have hj := (List.getElem?_eq_some_iff.mp h2).1
    have : j = i := by
      rw [← hi] at h2
      exact (List.getElem?_inj hj h.nd).mp h2
    omega
  have hlt : (eAt c k).2.2 < c.n := by
    have : eAt c k ∈ c.es := by
      unfold eAt
      rw [List.getD_eq_getElem?_getD, List.getElem?_eq_getElem hk]
      exact List.getElem_mem hk
    exact (hc.ok.rg _ this).2.2
  have hek : eAt c k ∈ kes c.es (ks ++ [k]) := List.mem_map.mpr ⟨k, by simp, rfl⟩
  have hmono : ∀ e ∈ kes c.es ks, e ∈ kes c.es (ks ++ [k]) := fun e he => by
    obtain ⟨z, hz, rfl⟩ := List.mem_map.mp he
    exact List.mem_map.mpr ⟨z, List.mem_append_left _ hz, rfl⟩
  have hnew : RF fT (kes c.es (ks ++ [k])) 0 (eAt c k).2.2 := .step hek rfl (RF_mono hmono (h.rf _ (List.mem_of_getElem? hi)))
  generalize hord : (if (eAt c k).2.2 ∈ ord then ord else ord ++ [(eAt c k).2.2]) = ord'
  have sub : ∀ x ∈ ord, x ∈ ord' := fun x hx => by
    rw [← hord]
    split
    · exact hx
    · exact List.mem_append_left _ hx
  have mem : ∀ x ∈ ord', x ∈ ord ∨ x = (eAt c k).2.2 := fun x hx => by
    rw [← hord] at hx
    split at hx
    · exact .inl hx
    · simpa using hx
  have newm : (eAt c k).2.2 ∈ ord' := by
    rw [← hord]
    split
    · assumption
    · simp
  have ndp : ord'.Nodup := by
    rw [← hord]
    split
    · exact h.nd
    · rename_i hn
      rw [List.nodup_append]
      exact ⟨h.nd, by simp, fun a ha b hb => by rw [List.mem_singleton.mp hb]; exact fun z => hn (z ▸ ha)⟩
  have same : ∀ j, j < ord.length → ord'[j]? = ord[j]? := fun j hj => by
    rw [← hord]
    split
    · rfl
    · rw [List.getElem?_append_left hj]
  refine ⟨⟨ndp, fun x hx => ?_, ?_, fun z hz => ?_, fun z hz => ?_, fun z hz => ?_, fun x hx => ?_, sub _ h.zero, fun j z hj hz ho hn => ?_⟩, hkn⟩
  · rcases mem x hx with e | e
    · exact h.lt x e
    · rw [e]; exact hlt
  · rw [List.nodup_append]
    exact ⟨h.knd, by simp, fun a ha b hb => by rw [List.mem_singleton.mp hb]; exact fun z => hkn (z ▸ ha)⟩
  · rcases List.mem_append.mp hz with e | e
    · exact h.klt z e
    · rw [List.mem_singleton.mp e]; exact hk
  · rcases List.mem_append.mp hz with e | e
    · obtain ⟨j, h1, h2⟩ := h.src z e
      exact ⟨j, by omega, by rw [same j (List.getElem?_eq_some_iff.mp h2).1]; exact h2⟩
    · rw [List.mem_singleton.mp e]
      exact ⟨i, by omega, by rw [same i hil]; exact hi⟩
  · rcases List.mem_append.mp hz with e | e
    · exact sub _ (h.tg z e)
    · rw [List.mem_singleton.mp e]; exact newm
  · rcases mem x hx with e | e
    · exact RF_mono hmono (h.rf x e)
    · rw [e]; exact hnew
  · by_cases e : j = i ∧ z = k
    · rw [e.2]; simp
    · have hjl : j < ord.length := by omega
      rw [same j hjl] at ho
      exact List.mem_append_left _ (h.cl j z (by omega) hz ho hn)
structure ClEnd (c : Ch) (own ns ks : List Nat) : Prop where
  part : PartOk c ns ks
  cl : ∀ z, z < c.es.length → (eAt c z).1 ∈ ns → (eAt c z).2.1 ∉ own → z ∈ ks
theorem ClW.fin (hc : ChOk c) (h : ClW c own ord ks c.n 0) {ns zs : List Nat} (hns : ns.Pairwise (· < ·)) (hm : ∀ m, m ∈ ns ↔ m ∈ ord) (hzs : zs.Pairwise (· < ·)) (hz : ∀ z, z ∈ zs ↔ z ∈ ks) : ClEnd c own ns zs := by
  have hlen : ord.length ≤ c.n := nodup_lt h.nd h.lt
  have hke : ∀ e, e ∈ kes c.es zs ↔ e ∈ kes c.es ks := fun e => by
    unfold kes
    rw [List.mem_map, List.mem_map]
    exact ⟨fun ⟨z, a, b⟩ => ⟨z, (hz z).mp a, b⟩, fun ⟨z, a, b⟩ => ⟨z, (hz z).mpr a, b⟩⟩
  have rfm : ∀ m, RF fT (kes c.es zs) 0 m ↔ m ∈ ord := fun m => by
    constructor
    · intro r
      cases r with
      | zero => exact h.zero
      | step he _ _ =>
        obtain ⟨z, hz1, rfl⟩ := List.mem_map.mp ((hke _).mp he)
        exact h.tg z hz1
    · intro hmo
      exact RF_mono (fun e he => (hke e).mpr he) (h.rf m hmo)
  refine ⟨⟨hc, hzs, fun k hk => h.klt k ((hz k).mp hk), hns, fun m => (hm m).trans (rfm m).symm, fun e he => ?_⟩, fun z hzl hs hn => ?_⟩
  · obtain ⟨z, hz1, rfl⟩ := List.mem_map.mp ((hke _).mp he)
    rw [rfm]
    obtain ⟨j, _, h2⟩ := h.src z hz1
    exact List.mem_of_getElem? h2
  · obtain ⟨j, hj⟩ := List.mem_iff_getElem?.mp ((hm _).mp hs)
    have := (List.getElem?_eq_some_iff.mp hj).1
    exact (hz z).mpr (h.cl j z (by omega) hzl hj hn)
/-- a closed set with no bad state lies in the safe part -/
theorem ClEnd.safe {bad ns ks ms : List Nat} (hb : BadOk c bad) (h : ClEnd c own ns ks) (hd : ∀ m ∈ ns, m ∉ bad) (sn : SafeNs c bad own ms) : ∀ k ∈ ks, k ∈ sEdges c ms := by
  have cls : ∀ {x b : Nat}, RF (unc own) c.es x b → x ∈ ns → b ∈ ns := fun {x b} r => by
    intro hx
    induction r with
    | zero => exact hx
    | @step e he hf _ ih =>
      obtain ⟨z, hz⟩ := List.mem_iff_getElem?.mp he
      have hzl := (List.getElem?_eq_some_iff.mp hz).1
      have hg : eAt c z = e := by unfold eAt; rw [List.getD_eq_getElem?_getD, hz]; rfl
      have hzk := h.cl z hzl (by rw [hg]; exact ih) (by rw [hg]; simpa [unc] using hf)
      have := (h.part.ends (e := e) (List.mem_map.mpr ⟨z, hzk, hg⟩)).2
      exact this
  have nl : ∀ m ∈ ns, m ∉ lostF c bad own := fun m hm hl => by
    obtain ⟨b, hb1, hr⟩ := (lostF_ok h.part.ch hb).P m hl
    exact hd b (cls hr hm) hb1
  have all : ∀ m, RF fT (kes c.es ks) 0 m → RF (keepE (lostF c bad own)) c.es 0 m := fun m r => by
    induction r with
    | zero => exact .zero
    | @step e he _ _ ih =>
      refine .step (kes_mem h.part.lt e he) ?_ ih
      have := nl e.2.2 (h.part.ends he).2
      simp [keepE, this]
  intro k hk
  have he : eAt c k ∈ kes c.es ks := List.mem_map.mpr ⟨k, hk, rfl⟩
  have hen := h.part.ends he
  exact sEdges_mem.mpr ⟨h.part.lt k hk, (sn.mem _).mpr (all _ ((h.part.mem _).mp hen.1)), (sn.mem _).mpr (all _ ((h.part.mem _).mp hen.2))⟩
end
end Y
set_option Elab.async false
set_option linter.all false
set_option maxRecDepth 100000
set_option maxHeartbeats 4000000
set_option autoImplicit false
/-! contracts: _law_closed -/
namespace Y
open PySem L2
def p__law_closed : PT := fun xs s Q E => ∃ (B : Nat) (t pl : Addr) (v : Val) (c : Ch) (own ls : List Nat) (how : Nat), xs = [.ref t, v, .tup (own.map nV), .ref pl, nV how] ∧ TapeOk B t s ∧ B < 800000000 ∧ how < 1000 ∧ LawCh s v c ∧ ChOk c ∧ s pl = some (.lst (ls.map nV)) ∧
  ∀ (r a b : Addr) (s' : Store) (ns ks : List Nat), s r = none → s a = none → s b = none → SubP t s s' → TapeOk (B + 1000) t s' → s' r = some (.lst [.ref a, .ref b]) → s' a = some (.lst (ns.map nV)) → s' b = some (.lst (ks.map nV)) → ClEnd c own ns ks → Q (.ref r) s'
theorem nats_ne {B : Nat} {t pl : Addr} {s : Store} {ls : List Nat} (h : TapeOk B t s) (hp : s pl = some (.lst (ls.map nV))) : pl ≠ t := fun z => by
  obtain ⟨l, ns, pos, cnt, seed, rest, h1, h2, h3, h4, h5⟩ := h.ex
  rw [z, h2] at hp
  cases ls with
  | nil => simp at hp
  | cons a ls => simp [nV] at hp
theorem lawch_ne {B : Nat} {t p d : Addr} {s : Store} {c : Ch} (h : TapeOk B t s) (hp : s p = some (.lst [nV c.a, nV c.n, .ref d])) (hd : s d = some (.lst (c.es.map ev))) : p ≠ t ∧ d ≠ t := by
  obtain ⟨l, ns, pos, cnt, seed, rest, h1, h2, h3, h4, h5⟩ := h.ex
  constructor
  · intro z
    rw [z, h2] at hp
    simp at hp
  · intro z
    rw [z, h2] at hd
    cases hes : c.es with
    | nil => rw [hes] at hd; simp at hd
    | cons a ls => rw [hes] at hd; simp [ev] at hd
def CInv (C : Nat) (t l a b : Addr) (c : Ch) (own : List Nat) (s : Store) (i k : Nat) (hi : Bool) (s2 : Store) : Prop := SubP t s s2 ∧ TapeOk (C + k) t s2 ∧ HeadL l t s2 ∧ ∃ ord ks : List Nat, s2 a = some (.lst (ord.map nV)) ∧ s2 b = some (.lst (ks.map nV)) ∧ ClW c own ord ks i k ∧ (hi = true → i < ord.length)
theorem ok_closed {xs s Q E} (h : p__law_closed xs s Q E) : r__law_closed p__law_take (DF Q E) (startE 11 xs) s := by
  obtain ⟨B, t, pl, v, c, own, ls, how, rfl, tp, hB, hhow, lc, cok, hpl, q⟩ := h
  obtain ⟨p, d, rfl, hp, hd⟩ := lc.ex
  have hn := cok.n10
  have hcl := cok.len
  obtain ⟨hpt, hdt⟩ := lawch_ne tp hp hd
  have hplt := nats_ne tp hpl
  obtain ⟨l, hl, zs, hz⟩ := tp.head
  obtain ⟨ws, hw⟩ := tp.some
  simp [r__law_closed, nV]
  intro a ha b hb
  have hba : b ≠ a := fun z => by rw [z] at hb; simp at hb
  have hb' : s b = none := by rwa [updS_ne hba] at hb
  have hat : a ≠ t := fun z => by rw [z, hw] at ha; cases ha
  have hbt : b ≠ t := fun z => by rw [z, hw] at hb'; cases hb'
  have hal : a ≠ l := fun z => by rw [z, hz] at ha; cases ha
  have hbl : b ≠ l := fun z => by rw [z, hz] at hb'; cases hb'
  have kk : Sub s (updS (updS s a (.lst [.int 0])) b (.lst [])) := (Sub.new ha).upd hb'
  rw [wFor_app]
  simp
  rw [oIx_lst (kk _ _ hp)]
  simp [nV]
  refine ⟨by omega, ?_⟩
  refine FB.of ((List.range c.n).map fun k => Val.int (0 + (k : Nat))) (fun i env s2 => i ≤ c.n ∧ CInv (B + i * c.es.length) t l a b c own s i 0 false s2 ∧
    ∃ v7 v8 v9 v10, env = [some (.ref t), some (.ref p), some (.tup (own.map nV)), some (.ref pl), some (.int (how : Nat)), some (.ref a), some (.ref b), v7, v8, v9, v10])
    ⟨Nat.zero_le _, ⟨SubP.of kk, by simpa using tp.keep kk, (hl.put hat).put hbt, [0], [], by rw [updS_ne hba.symm]; simp [nV], by simp, ClW.start cok, fun z => nomatch z⟩, _, _, _, _, rfl⟩ (fun i env s2 h => dR_at) ?_ ?_
  · rintro i y env s2 hi ⟨_, ⟨k2, tp2, hl2, ord, ks, h1, h2, cw, hnn⟩, v7, v8, v9, v10, rfl⟩
    have hin : i < c.n ∧ y = .int (i : Nat) := by
      obtain ⟨z1, z2⟩ := List.getElem?_eq_some_iff.mp hi
      simp at z1 z2
      exact ⟨z1, z2.symm⟩
    obtain ⟨hin, rfl⟩ := hin
    have hmul : (i + 1) * c.es.length = i * c.es.length + c.es.length := Nat.succ_mul _ _
    have hbud : i * c.es.length ≤ 9 * 63 := Nat.mul_le_mul (by omega) (by omega)
    refine ⟨_, by simp; rfl, ?_⟩
    simp
    rw [cLen_of (seqOf_lst h1)]
    simp
    by_cases hlt : i < ord.length
    · refine .inr ⟨hlt, ?_⟩
      rw [wFor_app]
      simp
      rw [oIx_lst (k2 _ _ hpt hp)]
      simp
      rw [cLen_of (seqOf_lst (k2 _ _ hdt hd))]
      simp
      refine ⟨by omega, ?_⟩
      refine FB.of ((List.range c.es.length).map fun k => Val.int (0 + (k : Nat))) (fun k env s2 => k ≤ c.es.length ∧ CInv (B + i * c.es.length) t l a b c own s i k true s2 ∧
        ∃ v8 v9 v10, env = [some (.ref t), some (.ref p), some (.tup (own.map nV)), some (.ref pl), some (.int (how : Nat)), some (.ref a), some (.ref b), some (.int (i : Nat)), v8, v9, v10])
        ⟨Nat.zero_le _, ⟨k2, tp2, hl2, ord, ks, h1, h2, cw, fun _ => hlt⟩, _, _, _, rfl⟩ (fun i env s2 h => dR_at) ?_ ?_
      · clear k2 tp2 hl2 h1 h2 cw hlt hnn ord ks
        rintro k y env s3 hk ⟨_, ⟨k3, tp3, hl3, ord, ks, h1, h2, cw, hlt⟩, v8, v9, v10, rfl⟩
        have hkn : k < c.es.length ∧ y = .int (k : Nat) := by
          obtain ⟨z1, z2⟩ := List.getElem?_eq_some_iff.mp hk
          simp at z1 z2
          exact ⟨z1, z2.symm⟩
        obtain ⟨hkn, rfl⟩ := hkn
        have hlt := hlt rfl
        obtain ⟨x, hx⟩ : ∃ x, ord[i]? = some x := ⟨_, List.getElem?_eq_getElem hlt⟩
        have hge : (c.es.map ev)[k]? = some (ev (eAt c k)) := by unfold eAt; rw [List.getElem?_map, List.getD_eq_getElem?_getD, List.getElem?_eq_getElem hkn]; rfl
        refine ⟨_, by simp; rfl, ?_⟩
        simp
        rw [oIx_lst (k3 _ _ hpt hp)]
        simp
        rw [oIx_lst (k3 _ _ hdt hd), atI_nat]
        refine ⟨_, hge, ?_⟩
        have hsk := fun (hs : ord[i]? = some (eAt c k).1 → (eAt c k).2.1 ∈ own) => cw.skip hs
        have htk := fun hs => (cw.take cok hkn hs).1
        generalize eAt c k = e at *
        simp [ev]
        rw [oIx_lst h1, atI_nat]
        refine ⟨nV x, by rw [List.getElem?_map, hx]; rfl, ?_⟩
        simp [nV]
        by_cases c0 : e.1 = x
        · refine .inr ⟨by omega, ?_⟩
          rw [← c0] at hx
          have cw' := htk hx
          have done : ∀ s4, SubP t s3 s4 → TapeOk (B + i * c.es.length + (k + 1)) t s4 → HeadL l t s4 → tyS "list" (.ref b) s4 ∧ mAppend (.ref b) [.int (k : Nat)] s4 fun x s1 => oIn true (.int (e.2.2 : Nat)) (.ref a) s1 fun x s1 =>
              (x = .bl false ∧ k + 1 ≤ c.es.length ∧ CInv (B + i * c.es.length) t l a b c own s i (k + 1) true s1) ∨ (x = .bl true ∧ tyS "list" (.ref a) s1 ∧ mAppend (.ref a) [.int (e.2.2 : Nat)] s1 fun x s1 => k + 1 ≤ c.es.length ∧ CInv (B + i * c.es.length) t l a b c own s i (k + 1) true s1) := fun s4 k4 tp4 hl4 => by
            have g1 := k4 _ _ hat h1
            have g2 := k4 _ _ hbt h2
            refine ⟨tyS_list g2, ?_⟩
            rw [mAppend_of g2]
            have hkl : ks.length ≤ c.es.length := nodup_lt cw.knd cw.klt
            have hol : ord.length ≤ c.n := nodup_lt cw.nd cw.lt
            refine ⟨by rw [List.length_map]; omega, ?_⟩
            have g1' : updS s4 b (.lst (ks.map nV ++ [.int (k : Nat)])) a = some (.lst (ord.map nV)) := by rw [updS_ne hba.symm]; exact g1
            have tp5 := tp4.put (o := .lst (ks.map nV ++ [.int (k : Nat)])) hl4 hbt hbl
            have hl5 := hl4.put (o := .lst (ks.map nV ++ [.int (k : Nat)])) hbt
            rw [oIn_nat g1']
            by_cases c2 : e.2.2 ∈ ord
            · refine .inl ⟨by simp [c2], hkn, (k3.trans k4).upd hb', tp5, hl5, ord, ks ++ [k], g1', by rw [updS_self]; simp [nV], by simpa [c2] using cw', fun _ => hlt⟩
            · refine .inr ⟨by simp [c2], tyS_list g1', ?_⟩
              rw [mAppend_of g1']
              refine ⟨by rw [List.length_map]; omega, hkn, ((k3.trans k4).upd hb').upd ha, tp5.put hl5 hat hal, hl5.put hat, ord ++ [e.2.2], ks ++ [k], by rw [updS_self]; simp [nV], by rw [updS_ne hba, updS_self]; simp [nV], by simpa [c2] using cw', fun _ => by rw [List.length_append]; omega⟩
          have half : ∀ (g : Bool) s4, SubP t s3 s4 → TapeOk (B + i * c.es.length + (k + 1)) t s4 → HeadL l t s4 → (Val.bl g = .bl false ∧ oIn true (.int (e.2.1 : Nat)) (.tup (own.map nV)) s4 fun x s1 => (x = .bl false ∧ k + 1 ≤ c.es.length ∧ CInv (B + i * c.es.length) t l a b c own s i (k + 1) true s1) ∨ (x = .bl true ∧ tyS "list" (.ref b) s1 ∧ mAppend (.ref b) [.int (k : Nat)] s1 fun x s1 => oIn true (.int (e.2.2 : Nat)) (.ref a) s1 fun x s1 =>
              (x = .bl false ∧ k + 1 ≤ c.es.length ∧ CInv (B + i * c.es.length) t l a b c own s i (k + 1) true s1) ∨ (x = .bl true ∧ tyS "list" (.ref a) s1 ∧ mAppend (.ref a) [.int (e.2.2 : Nat)] s1 fun x s1 => k + 1 ≤ c.es.length ∧ CInv (B + i * c.es.length) t l a b c own s i (k + 1) true s1))) ∨
              (Val.bl g = .bl true ∧ tyS "list" (.ref b) s4 ∧ mAppend (.ref b) [.int (k : Nat)] s4 fun x s1 => oIn true (.int (e.2.2 : Nat)) (.ref a) s1 fun x s1 =>
              (x = .bl false ∧ k + 1 ≤ c.es.length ∧ CInv (B + i * c.es.length) t l a b c own s i (k + 1) true s1) ∨ (x = .bl true ∧ tyS "list" (.ref a) s1 ∧ mAppend (.ref a) [.int (e.2.2 : Nat)] s1 fun x s1 => k + 1 ≤ c.es.length ∧ CInv (B + i * c.es.length) t l a b c own s i (k + 1) true s1)) := fun g s4 k4 tp4 hl4 => by
            cases g with
            | true => exact .inr ⟨rfl, done s4 k4 tp4 hl4⟩
            | false =>
              refine .inl ⟨rfl, ?_⟩
              rw [oIn_natT]
              by_cases c1 : e.2.1 ∈ own
              · refine .inl ⟨by simp [c1], hkn, k3.trans k4, tp4, hl4, ord, ks, k4 _ _ hat h1, k4 _ _ hbt h2, hsk (fun _ => c1), fun _ => hlt⟩
              · exact .inr ⟨by simp [c1], done s4 k4 tp4 hl4⟩
          rw [oIn_nat (k3 _ _ hplt hpl)]
          by_cases ch : how = 0
          · refine .inl ⟨ch, half _ s3 (SubP.of (Sub.refl _)) (tp3.mono (by omega)) hl3⟩
          · refine .inr ⟨by omega, ?_⟩
            refine ⟨_, t, how, rfl, tp3, by omega, by omega, hhow, fun z s4 hz k4 tp4 hl4 => ?_⟩
            simp only [nV, oEq_int]
            exact half _ s4 k4 tp4 (hl4 _ hl3)
        · refine .inl ⟨by omega, hkn, k3, tp3.mono (by omega), hl3, ord, ks, h1, h2, hsk (fun z => ?_), fun _ => hlt⟩
          rw [hx] at z
          cases z
          exact absurd rfl c0
      · rintro k env s3 hk ⟨hkn, ⟨k3, tp3, hl3, ord, ks, h1, h2, cw, hlt⟩, v8, v9, v10, rfl⟩
        simp at hk
        have : k = c.es.length := by omega
        subst this
        exact ⟨hin, ⟨k3, tp3.mono (by omega), hl3, ord, ks, h1, h2, cw.row, fun z => nomatch z⟩, _, _, _, _, rfl⟩
    · refine .inl ⟨by omega, hin, k2, tp2.mono (by omega), hl2, ord, ks, h1, h2, cw.past (by omega), fun z => nomatch z⟩
  · rintro i env s2 hi ⟨hin, ⟨k2, tp2, hl2, ord, ks, h1, h2, cw, _⟩, v7, v8, v9, v10, rfl⟩
    simp at hi
    have : i = c.n := by omega
    subst this
    have hbud : c.n * c.es.length ≤ 10 * 63 := Nat.mul_le_mul (by omega) (by omega)
    simp
    refine sort_nat h1 cw.nd fun q1 ns hq1 hpw hm => ?_
    have hq1b : b ≠ q1 := fun z => by rw [z, hq1] at h2; cases h2
    have h2' : updS s2 q1 (.lst (ns.map nV)) b = some (.lst (ks.map nV)) := by rw [updS_ne hq1b]; exact h2
    refine sort_nat h2' cw.knd fun q2 zs2 hq2 hpw2 hm2 => ?_
    have h21 : q2 ≠ q1 := fun z => by rw [z] at hq2; simp at hq2
    have hq2' : s2 q2 = none := by rwa [updS_ne h21] at hq2
    intro r hr
    have hr2 : r ≠ q2 := fun z => by rw [z] at hr; simp at hr
    have hr' : updS s2 q1 (.lst (ns.map nV)) r = none := by rwa [updS_ne hr2] at hr
    have hr1 : r ≠ q1 := fun z => by rw [z] at hr'; simp at hr'
    have hr'' : s2 r = none := by rwa [updS_ne hr1] at hr'
    have kf : Sub s2 (updS (updS (updS s2 q1 (.lst (ns.map nV))) q2 (.lst (zs2.map nV))) r (.lst [.ref q1, .ref q2])) := ((Sub.new hq1).upd hq2').upd hr''
    refine q r q1 q2 _ ns zs2 (nonep' k2 tp2 hr'') (nonep' k2 tp2 hq1) (nonep' k2 tp2 hq2') (k2.trans (SubP.of kf)) ((tp2.keep kf).mono (by omega)) updS_self ?_ ?_ (cw.fin cok hpw hm hpw2 hm2)
    · rw [updS_ne hr1.symm, updS_ne h21.symm, updS_self]
    · rw [updS_ne hr2.symm, updS_self]
end Y
set_option Elab.async false
set_option linter.all false
set_option maxRecDepth 100000
set_option maxHeartbeats 4000000
set_option autoImplicit false
/-! contracts: _law_refused, _law_asked -/
namespace Y
open PySem L2
def p__law_refused (CL C : Addr) : PT := fun xs s Q E => ∃ (v xb xo : Val) (c : Ch) (bad own : List Nat) (how : Nat), xs = [v, xb, xo, nV how] ∧ GArg C s v xb xo c bad own ∧ 0 ∈ lostF c bad own ∧
  ∀ (s' : Store) (i x : Nat) (w : List Nat), Sub s s' → LWEnd own bad c.es i x w → Q (.tup (w.map nV)) s'
theorem ok_refused {CL C xs s Q E} (h : p__law_refused CL C xs s Q E) : r__law_refused CL (p_safe_edges CL C) (p_safe_chart CL C) (DF Q E) (startE 5 xs) s := by
  obtain ⟨v, xb, xo, c, bad, own, how, rfl, ga, hl, q⟩ := h
  simp [r__law_refused, nV]
  by_cases h0 : how = 0
  · refine .inr ⟨h0, ?_⟩
    refine ⟨v, xb, xo, c, bad, own, rfl, ga, fun _ s' i x w k hw => ?_, fun hn => absurd hl hn⟩
    exact ⟨rfl, _, rfl, q s' i x w k hw⟩
  · refine .inl ⟨h0, ?_⟩
    refine ⟨v, xb, xo, c, bad, own, rfl, ga, fun _ s' i x w k hw => ?_, fun hn => absurd hl hn⟩
    exact ⟨rfl, _, rfl, q s' i x w k hw⟩
theorem LWEnd.short {c : Ch} {own bad w : List Nat} {i x : Nat} (h : LWEnd own bad c.es i x w) (hc : ChOk c) : w.length < c.n := by
  have h1 := lwAt_short (own := own) (es := c.es) i (x, w) (List.mem_of_getElem? h.at_)
  have h2 : (lwAt own c.es i).length ≤ c.n := by rw [lwAt_len]; exact bfAt_le hc.n0 (fun e he => (hc.ok.rg e he).2.2) i
  simp at h1
  omega
/-- what an asking tells -/
structure AskEnd (c : Ch) (bad own : List Nat) (s s' : Store) (r l : Addr) (ls : List Nat) : Prop where
  none : s r = none ∧ s l = none
  lost : s' l = some (.lst (ls.map nV))
  up : ls.Pairwise (· < ·)
  mem : ∀ m, m ∈ ls ↔ m ∈ lostF c bad own
def p__law_asked (C : Addr) : PT := fun xs s Q E => ∃ (v vg xo : Val) (pb : Addr) (c : Ch) (bad own : List Nat), xs = [v, vg, .ref pb, xo] ∧ LArg s v (.ref pb) xo c bad own ∧ s pb = some (.lst (bad.map nV)) ∧ IsChart C s vg c ∧ bad.length ≤ 100 ∧
  ∀ (r l : Addr) (s' : Store) (ls : List Nat), Sub s s' → AskEnd c bad own s s' r l ls →
    ((0 ∈ lostF c bad own ∧ s' r = some (.lst [.ref l, .non])) ∨ (0 ∉ lostF c bad own ∧ ∃ (o : Addr) (ns : List Nat), s o = none ∧ SafeNs c bad own ns ∧ s' o = some (.lst ((sEdges c ns).map nV)) ∧ s' r = some (.lst [.ref l, .ref o]))) → Q (.ref r) s'
theorem ok_asked {CL C xs s Q E} (h : p__law_asked C xs s Q E) : r__law_asked p__law_lost (p_lost_states C) (p__law_same 4) p__law_lost_word (p__law_refused CL C) p__law_safe p__law_between (p_safe_edges CL C) (p__law_same_chart C) (p_safe_chart CL C) p__law_part (p_part C) (DF Q E) (startE 11 xs) s := by
  obtain ⟨v, vg, xo, pb, c, bad, own, rfl, la, hpb, hg, hbl, q⟩ := h
  have hco := la.cok
  have hcl := hco.len
  have hn := hco.n10
  simp [r__law_asked]
  refine ⟨v, .ref pb, xo, c, bad, own, rfl, la, fun l s1 ls hl k1 hup hmem h1 => ?_⟩
  refine (cList_of (seqOf_lst (k1 _ _ hpb))).mpr ?_
  intro b hb
  have k2' : Sub s1 (updS s1 b (.lst (bad.map nV))) := Sub.new hb
  obtain ⟨s2, hs2⟩ : ∃ s2, updS s1 b (.lst (bad.map nV)) = s2 := ⟨_, rfl⟩
  rw [hs2] at k2'
  rw [hs2]
  have k2 := k1.trans k2'
  have hb2 : s2 b = some (.lst (bad.map nV)) := by rw [← hs2, updS_self]
  have ga : GArg C s2 vg (.ref b) xo c bad own := ⟨hg.sub k2, NSeq.lst hb2, la.o.sub k2, la.ok⟩
  have h1' := k2' _ _ h1
  have hll : ls.length ≤ c.n := nodup_lt (List.nodup_iff_pairwise_ne.mpr (hup.imp fun {a b} z => by omega)) fun x hx => (lostF_ok hco la.ok).lt x ((hmem x).mp hx)
  refine ⟨vg, .ref b, xo, c, bad, own, rfl, ga, fun a s3 ms ha k3 hup2 hmem2 h3 => ?_⟩
  have : ms = ls := rising_ext hup2 hup fun m => by rw [hmem2, hmem]
  subst this
  have h13 := k3 _ _ h1'
  have hb3 := k3 _ _ hb2
  refine ⟨_, _, rfl, SameV.lst h3 h13 (by rw [List.length_map]; omega) SameV.nats, fun s4 k4 => .inr ⟨rfl, ?_⟩⟩
  refine ⟨_, _, rfl, SameV.lst (k4 _ _ hb3) (k4 _ _ (k3 _ _ (k2 _ _ hpb))) (by rw [List.length_map]; omega) SameV.nats, fun s5 k5 => .inr ⟨rfl, ?_⟩⟩
  -- the answer is changed: the charts do not care
  have ha0 : s a = none := none_of k2 ha
  have h35 := k5 _ _ (k4 _ _ h3)
  refine ⟨tyS_list h35, ?_⟩
  refine (mAppend_of h35).mpr ?_
  refine ⟨by rw [List.length_map]; omega, ?_⟩
  obtain ⟨s6, hs6⟩ : ∃ s6, updS s5 a (.lst (ms.map nV ++ [.int 0])) = s6 := ⟨_, rfl⟩
  rw [hs6]
  have k26 : Sub s2 s6 := by rw [← hs6]; exact ((k3.trans k4).trans k5).upd ha
  have k6 := k2.trans k26
  have la6 := la.sub k6
  have ga6 := ga.sub k26
  have h16 := k26 _ _ h1'
  refine ⟨vg, .ref b, xo, c, bad, own, rfl, ga6, fun a7 s7 ms7 ha7 k7 hup7 hmem7 h7 => ?_⟩
  have : ms7 = ms := rising_ext hup7 hup fun m => by rw [hmem7, hmem]
  subst this
  refine ⟨_, _, rfl, SameV.lst h7 (k7 _ _ h16) (by rw [List.length_map]; omega) SameV.nats, fun s8 k8 => .inr ⟨rfl, ?_⟩⟩
  have k78 := k7.trans k8
  have k08 := k6.trans k78
  have la8 := la6.sub k78
  have ga8 := ga6.sub k78
  have h18 := k78 _ _ h16
  refine (oIn_nat (m := 0) h18).mpr ?_
  by_cases hl0 : 0 ∈ lostF c bad own
  · refine .inr ⟨by simp [(hmem 0).mpr hl0], ?_⟩
    obtain ⟨b0, hb0, hr0⟩ := (lostF_ok hco la.ok).P 0 hl0
    refine ⟨v, .ref pb, xo, c, bad, own, b0, rfl, la8, hb0, hr0, fun s9 i x w k9 hw => ?_⟩
    refine ⟨vg, .ref b, xo, c, bad, own, 0, rfl, ga8.sub k9, hl0, fun s10 i1 x1 w1 k10 hw1 => ?_⟩
    have := LWEnd.uniq hw1 hw
    subst this
    refine ⟨vg, .ref b, xo, c, bad, own, 1, rfl, (ga8.sub k9).sub k10, hl0, fun s11 i2 x2 w2 k11 hw2 => ?_⟩
    have := LWEnd.uniq hw2 hw1
    subst this
    have k09 := k08.trans k9
    have k11' := (k09.trans k10).trans k11
    intro r1 hr1 r2 hr2
    have hr21 : r2 ≠ r1 := fun z => by rw [z] at hr2; simp at hr2
    have hr2' : s11 r2 = none := by rwa [updS_ne hr21] at hr2
    have hwl : w2.length ≤ 100 := by have := hw2.short hco; omega
    refine ⟨_, _, rfl, SameV.lst (xs := [.tup (w2.map nV), .tup (w2.map nV)]) (by rw [updS_ne hr21.symm, updS_self]) updS_self (by simp) ?_, fun s12 k12 => .inr ⟨rfl, ?_⟩⟩
    · intro z hz
      have : z = .tup (w2.map nV) := by simpa using hz
      subst this
      exact SameV.tup (by rw [List.length_map]; omega) SameV.nats
    · intro r hr
      have kk : Sub s11 s12 := ((Sub.new hr1).upd hr2').trans k12
      have hl12 := kk _ _ (k11 _ _ (k10 _ _ (k9 _ _ h18)))
      have hlr : l ≠ r := fun z => by rw [z, hr] at hl12; cases hl12
      exact q r l _ ms7 ((k11'.trans kk).trans (Sub.new hr)) ⟨⟨none_of (k11'.trans kk) hr, hl⟩, by rw [updS_ne hlr]; exact hl12, hup, hmem⟩ (.inl ⟨hl0, updS_self⟩)
  · have hl0n : 0 ∉ ms7 := fun z => hl0 ((hmem 0).mp z)
    refine .inl ⟨by simp [hl0n], ?_⟩
    have hke : keepE ms7 = keepE (lostF c bad own) := funext fun e => by
      unfold keepE
      congr 1
      exact decide_eq_decide.mpr (hmem _)
    refine ⟨v, c, l, ms7, rfl, la8.ch, hco, h18, fun a9 s9 ns ha9 k9 hup9 hmem9 h9 => ?_⟩
    rw [hke] at hmem9
    have sn : SafeNs c bad own ns := ⟨hup9, hmem9⟩
    refine ⟨v, c, a9, ns, rfl, (la8.sub k9).ch, hco, h9, fun o s10 ho k10 h10 => ?_⟩
    have k9' := k9.trans k10
    have nle : ∀ s, LostEnd CL c bad own s E := fun s z => absurd z hl0
    refine ⟨vg, .ref b, xo, c, bad, own, rfl, ga8.sub k9', nle _, fun _ s11 ns2 k11 sn2 => ?_⟩
    have : ns2 = ns := rising_ext sn2.up sn.up fun m => by rw [sn2.mem, sn.mem]
    subst this
    have hel : (sEdges c ns2).length ≤ c.es.length := by
      unfold sEdges
      exact Nat.le_trans (List.length_filter_le _ _) (by rw [List.length_range]; exact Nat.le_refl _)
    have h11 := k11 _ _ h10
    refine (cTuple_of (seqOf_lst h11)).mpr ?_
    refine ⟨_, _, rfl, SameV.tup (by rw [List.length_map]; omega) SameV.nats, fun s12 k12 => .inr ⟨rfl, ?_⟩⟩
    have kA := (k9'.trans k11).trans k12
    refine ⟨vg, .ref b, xo, c, bad, own, rfl, ga8.sub kA, nle _, fun _ v' s13 ns3 k13 sn3 po hch => ?_⟩
    have : ns3 = ns2 := rising_ext sn3.up sn.up fun m => by rw [sn3.mem, sn.mem]
    subst this
    have k1013 := (k11.trans k12).trans k13
    refine ⟨v, c, a9, o, ns3, sEdges c ns3, rfl, (la8.sub (kA.trans k13)).ch, k1013 _ _ (k10 _ _ h9), k1013 _ _ h10, po, fun p14 s14 k14 lc14 => ?_⟩
    refine ⟨v', _, _, rfl, hch.sub k14, lc14, fun s15 k15 => .inr ⟨rfl, ?_⟩⟩
    have k1015 := (k1013.trans k14).trans k15
    have h15 := k1015 _ _ h10
    refine (cTuple_of (seqOf_lst h15)).mpr ?_
    have kB := ((kA.trans k13).trans k14).trans k15
    refine ⟨vg, _, c, sEdges c ns3, rfl, (ga8.sub kB).ch, rfl, (fun _ z => nomatch z), po.lt, po.up, po.src, fun v16 s16 ns4 k16 po4 hch4 => ?_⟩
    have : ns4 = ns3 := rising_ext po4.nr sn.up fun m => by rw [po4.mem, po.mem]
    subst this
    refine ⟨v, c, a9, o, ns4, sEdges c ns4, rfl, ((la8.sub kB).sub k16).ch, k16 _ _ (k1015 _ _ (k10 _ _ h9)), k16 _ _ h15, po, fun p17 s17 k17 lc17 => ?_⟩
    refine ⟨v16, _, _, rfl, hch4.sub k17, lc17, fun s18 k18 => .inr ⟨rfl, ?_⟩⟩
    intro r hr
    have kC := ((kB.trans k16).trans k17).trans k18
    have h18' := kC _ _ h18
    have k1018 := ((k1015.trans k16).trans k17).trans k18
    have ho18 := k1018 _ _ h10
    have hlr : l ≠ r := fun z => by rw [z, hr] at h18'; cases h18'
    have hor : o ≠ r := fun z => by rw [z, hr] at ho18; cases ho18
    exact q r l _ ms7 ((k08.trans kC).trans (Sub.new hr)) ⟨⟨none_of (k08.trans kC) hr, hl⟩, by rw [updS_ne hlr]; exact h18', hup, hmem⟩ (.inr ⟨hl0, o, ns4, none_of (k08.trans k9) ho, sn, by rw [updS_ne hor]; exact ho18, updS_self⟩)
end Y
set_option Elab.async false
set_option linter.all false
set_option maxRecDepth 100000
set_option maxHeartbeats 4000000
set_option autoImplicit false
/-! contracts: _law_sets -/
namespace Y
open PySem L2
theorem tape_ne {B : Nat} {t x : Addr} {s : Store} {xs : List Val} (h : TapeOk B t s) (hx : s x = some (.lst xs)) (hr : ∀ y ∈ xs, ∀ l, y ≠ .ref l) : x ≠ t := fun z => by
  obtain ⟨l, ns, pos, cnt, seed, rest, h1, h2, h3, h4, h5⟩ := h.ex
  rw [z, h2] at hx
  cases hx
  exact hr _ List.mem_cons_self _ rfl
theorem IsChart.subp {B : Nat} {t C : Addr} {s s' : Store} {v : Val} {c : Ch} (h : IsChart C s v c) (tp : TapeOk B t s) (k : SubP t s s') : IsChart C s' v c := by
  obtain ⟨p, d, t1, q, r, es0, trs, h1, h2, h3, h4, h5, h6, h7, h8, h9⟩ := h.ex
  obtain ⟨ws, hw⟩ := tp.some
  refine ⟨h.ok, p, d, t1, q, r, es0, trs, h1, k _ _ (fun z => ?_) h2, h3, h4, k _ _ (fun z => ?_) h5, h6, k _ _ (tape_ne tp h7 fun y hy l z => ?_) h7, k _ _ (tape_ne tp h8 fun y hy l z => ?_) h8, k _ _ (tape_ne tp h9 fun y hy l z => ?_) h9⟩
  · rw [z, hw] at h2; cases h2
  · rw [z, hw] at h5; cases h5
  · obtain ⟨_, _, e⟩ := List.mem_map.mp hy; rw [z] at e; cases e
  · obtain ⟨_, _, e⟩ := List.mem_map.mp hy; rw [z] at e; cases e
  · obtain ⟨_, _, e⟩ := List.mem_map.mp hy; rw [z] at e; cases e
theorem LawCh.subp {B : Nat} {t : Addr} {s s' : Store} {v : Val} {c : Ch} (h : LawCh s v c) (tp : TapeOk B t s) (k : SubP t s s') : LawCh s' v c := by
  obtain ⟨p, e, h1, h2, h3⟩ := h.ex
  obtain ⟨n1, n2⟩ := lawch_ne tp h2 h3
  exact ⟨p, e, h1, k _ _ n1 h2, k _ _ n2 h3⟩
def p__law_sets (C : Addr) : PT := fun xs s Q E => ∃ (B : Nat) (t pb pl po : Addr) (v vg : Val) (c : Ch) (bad own ls ms : List Nat), xs = [.ref t, v, vg, .ref pb, .tup (own.map nV), .ref pl, .ref po] ∧ TapeOk B t s ∧ B < 700000000 ∧
  LawCh s v c ∧ ChOk c ∧ BadOk c bad ∧ s pb = some (.lst (bad.map nV)) ∧ IsChart C s vg c ∧ s pl = some (.lst (ls.map nV)) ∧ s po = some (.lst ((sEdges c ms).map nV)) ∧ SafeNs c bad own ms ∧
  ∀ s', SubP t s s' → TapeOk (B + 6000) t s' → Q (.bl true) s'
theorem ok_sets {C xs s Q E} (h : p__law_sets C xs s Q E) : r__law_sets p__law_closed (p__law_same_chart C) (p_part C) p__law_part (DF Q E) (startE 11 xs) s := by
  obtain ⟨B, t, pb, pl, po, v, vg, c, bad, own, ls, ms, rfl, tp, hB, lc, cok, bok, hpb, hg, hpl, hpo, sn, q⟩ := h
  have hcl := cok.len
  have hn := cok.n10
  simp [r__law_sets]
  rw [wFor_app]
  refine wISeq_app.mpr ?_
  simp
  intro p0 hp0
  obtain ⟨s1, hs1⟩ : ∃ s1, updS s p0 (.lst [.int 0, .int 1, .int 2, .int 2, .int 3, .int 4]) = s1 := ⟨_, rfl⟩
  have h01 : s1 p0 = some (.lst ([0, 1, 2, 2, 3, 4].map nV)) := by rw [← hs1, updS_self]; rfl
  have k01 : Sub s s1 := by rw [← hs1]; exact Sub.new hp0
  rw [hs1]
  have tp1 := tp.keep k01
  have hp0t := nats_ne tp1 h01
  have hpbt := nats_ne tp hpb
  have hplt := nats_ne tp hpl
  have hpot := nats_ne tp hpo
  refine FB.of ([0, 1, 2, 2, 3, 4].map nV) (fun i env s2 => i ≤ 6 ∧ SubP t s1 s2 ∧ TapeOk (B + i * 1000) t s2 ∧
    ∃ v7 v8 v9 v10, env = [some (.ref t), some v, some vg, some (.ref pb), some (.tup (own.map nV)), some (.ref pl), some (.ref po), v7, v8, v9, v10])
    ⟨Nat.zero_le _, SubP.of (Sub.refl _), by simpa using tp1, _, _, _, _, rfl⟩ (fun i env s2 h => dL_at (h.2.1 _ _ hp0t h01)) ?_ ?_
  · rintro i y env s2 hi ⟨_, k2, tp2, v7, v8, v9, v10, rfl⟩
    have hi6 := (List.getElem?_eq_some_iff.mp hi).1
    simp only [List.length_map, List.length_cons, List.length_nil] at hi6
    have hm := List.mem_of_getElem? hi
    obtain ⟨how, hhow, rfl⟩ := List.mem_map.mp hm
    have hhow5 : how < 1000 := by
      simp at hhow
      omega
    clear hi hm hhow
    have k12 := (SubP.of k01 (p := t)).trans k2
    refine ⟨_, by simp; rfl, ?_⟩
    simp [nV]
    refine ⟨B + i * 1000, t, pl, v, c, own, ls, how, rfl, tp2, by omega, hhow5, lc.subp tp k12, cok, k12 _ _ hplt hpl, fun r a b s3 ns ks hr ha hb k3 tp3 h3 ha3 hb3 ce => ?_⟩
    have k13 := k12.trans k3
    have k23 := k2.trans k3
    have nsl : ns.length ≤ c.n := nodup_lt (List.nodup_iff_pairwise_ne.mpr (ce.part.nr.imp fun {a b} z => by omega)) fun x hx => RF_lt cok.n0 (fun e he => (cok.ok.rg e (kes_mem ce.part.lt e he)).2.2) ((ce.part.mem x).mp hx)
    have ksl := up_len ce.part.up ce.part.lt
    refine wLc_app.mpr ?_
    refine wISeq_val (x := .ref a) (fun Q h => by simp; rw [oIx_lst h3]; simpa using h) (seqOf_lst ha3) (fun _ z => nomatch z) fun it hat => ?_
    refine lb_map_nat (ns := ns) (g := fun m => .bl (decide (m ∈ bad))) (fun s4 j k4 => hat _ _ (seqOf_lst (k4 _ _ ha3))) (by omega) (fun m hm s4 k4 Q1 h => ?_) fun o s4 ho k4 h4 => ?_
    · simp [nV]
      rw [oIn_nat (k4 _ _ (k13 _ _ hpbt hpb))]
      exact h s4 (Sub.refl _)
    refine cAny_of h4 ?_
    have fin : ∀ s5, SubP t s4 s5 → TapeOk (B + i * 1000 + 1000) t s5 → i ≤ 5 ∧ SubP t s1 s5 ∧ TapeOk (B + (i + 1) * 1000) t s5 := fun s5 k5 tp5 => ⟨by omega, (k23.trans (SubP.of k4)).trans k5, tp5.mono (by omega)⟩
    have tp4 := tp3.keep k4
    by_cases hbad : (ns.any fun m => decide (m ∈ bad)) = true
    · refine .inr ⟨by rw [hbad], ?_⟩
      exact fin s4 (SubP.of (Sub.refl _)) tp4
    · rw [Bool.not_eq_true] at hbad
      refine .inl ⟨by rw [hbad], ?_⟩
      have hdis : ∀ m ∈ ns, m ∉ bad := fun m hm z => by
        have := List.any_eq_false.mp hbad m hm
        simp [z] at this
      have hsafe := ce.safe bok hdis sn
      refine wLc_app.mpr ?_
      have h34 := k4 _ _ h3
      have hb4 := k4 _ _ hb3
      have ha4 := k4 _ _ ha3
      refine wISeq_val (x := .ref b) (fun Q h => by simp; rw [oIx_lst h34]; simpa using h) (seqOf_lst hb4) (fun _ z => nomatch z) fun it hat2 => ?_
      refine lb_map_nat (ns := ks) (g := fun m => .bl (!decide (m ∈ sEdges c ms))) (fun s5 j k5 => hat2 _ _ (seqOf_lst (k5 _ _ hb4))) (by omega) (fun m hm s5 k5 Q1 h => ?_) fun o5 s5 ho5 k5 h5 => ?_
      · simp [nV]
        rw [oIn_nat (k5 _ _ (k4 _ _ (k13 _ _ hpot hpo)))]
        exact h s5 (Sub.refl _)
      refine cAny_of h5 ?_
      have hno : (ks.any fun m => !decide (m ∈ sEdges c ms)) = false := List.any_eq_false.mpr fun m hm => by simp [hsafe m hm]
      refine .inl ⟨by rw [hno], ?_⟩
      rw [oIx_lst (k5 _ _ h34)]
      simp
      rw [cTuple_of (seqOf_lst (k5 _ _ hb4))]
      have k45 := k4.trans k5
      have lc5 := (lc.subp tp k13).sub k45
      refine ⟨vg, _, c, ks, rfl, (hg.subp tp k13).sub k45, rfl, (fun _ z => nomatch z), ce.part.lt, ce.part.up, ce.part.src, fun v6 s6 ns6 k6 po6 hch6 => ?_⟩
      have : ns6 = ns := rising_ext po6.nr ce.part.nr fun m => by rw [po6.mem, ce.part.mem]
      subst this
      have h36 := k6 _ _ (k5 _ _ h34)
      refine (oIx_lst h36).mpr ⟨_, rfl, ?_⟩
      refine (oIx_lst h36).mpr ⟨_, rfl, ?_⟩
      refine ⟨v, c, a, b, ns6, ks, rfl, lc5.sub k6, k6 _ _ (k5 _ _ ha4), k6 _ _ (k5 _ _ hb4), ce.part, fun p7 s7 k7 lc7 => ?_⟩
      refine ⟨v6, _, _, rfl, hch6.sub k7, lc7, fun s8 k8 => .inr ⟨rfl, ?_⟩⟩
      have k58 := ((k5.trans k6).trans k7).trans k8
      exact fin s8 (SubP.of k58) (tp4.keep k58)
  · rintro i env s2 hi ⟨hi6, k2, tp2, v7, v8, v9, v10, rfl⟩
    simp at hi
    have : i = 6 := by omega
    subst this
    simp
    exact q s2 ((SubP.of k01).trans k2) (tp2.mono (by omega))
end Y
set_option Elab.async false
set_option linter.all false
set_option maxRecDepth 100000
set_option maxHeartbeats 4000000
set_option autoImplicit false
/-! plain: what the law itself asks -/
namespace Y
open PySem L2
theorem RF_f {f g : Edge → Bool} {es : List Edge} {x : Nat} (h : ∀ e ∈ es, f e = true → g e = true) {m : Nat} (r : RF f es x m) : RF g es x m := by
  induction r with
  | zero => exact .zero
  | step he hf _ ih => exact .step he (h _ he hf) ih
section
variable {c : Ch} {bad bad' own ms ms' : List Nat}
theorem lost_of (hc : ChOk c) (hb : BadOk c bad) {x b : Nat} (r : RF (unc own) c.es x b) (h : b ∈ lostF c bad own) : x ∈ lostF c bad own := by
  induction r with
  | zero => exact h
  | step he hf _ ih => exact ih (lostF_closed hc hb he (by simpa [unc] using hf) h)
theorem lost_mono (hc : ChOk c) (hb : BadOk c bad) (hb' : BadOk c bad') (hs : ∀ x ∈ bad', x ∈ bad) : ∀ x ∈ lostF c bad' own, x ∈ lostF c bad own := fun x hx => by
  obtain ⟨b, h1, h2⟩ := (lostF_ok hc hb').P x hx
  exact lost_of hc hb h2 (lostF_bad (hs b h1))
theorem safe_not_lost (sn : SafeNs c bad own ms) (h0 : 0 ∉ lostF c bad own) {m : Nat} (hm : m ∈ ms) : m ∉ lostF c bad own := by
  have r := (sn.mem m).mp hm
  cases r with
  | zero => exact h0
  | step he hf _ => simpa [keepE] using hf
theorem edge_out (hc : ChOk c) (hb : BadOk c bad) (sn : SafeNs c bad own ms) (h0 : 0 ∉ lostF c bad own) {e : Edge} (he : e ∈ c.es) (h1 : e.1 ∈ ms) (h2 : e.2.2 ∉ ms) : e.2.1 ∈ own ∧ ∃ b ∈ bad, RF (unc own) c.es e.2.2 b := by
  have hl : e.2.2 ∈ lostF c bad own := Decidable.byContradiction fun z => h2 ((sn.mem _).mpr (.step he (by simp [keepE, z]) ((sn.mem _).mp h1)))
  refine ⟨Decidable.byContradiction fun z => ?_, (lostF_ok hc hb).P _ hl⟩
  exact safe_not_lost sn h0 h1 (lostF_closed hc hb he z hl)
theorem edges_mono (hc : ChOk c) (hb : BadOk c bad) (hb' : BadOk c bad') (hs : ∀ x ∈ bad', x ∈ bad) (sn : SafeNs c bad own ms) (sn' : SafeNs c bad' own ms') : ∀ k ∈ sEdges c ms, k ∈ sEdges c ms' := fun k hk => by
  obtain ⟨h1, h2, h3⟩ := sEdges_mem.mp hk
  have up : ∀ m ∈ ms, m ∈ ms' := fun m hm => (sn'.mem m).mpr (RF_f (fun e _ hf => by
    have h : e.2.2 ∉ lostF c bad own := by simpa [keepE] using hf
    have : e.2.2 ∉ lostF c bad' own := fun z => h (lost_mono hc hb hb' hs _ z)
    simp [keepE, this]) ((sn.mem m).mp hm))
  exact sEdges_mem.mpr ⟨h1, up _ h2, up _ h3⟩
theorem badOk_nil : BadOk c [] := ⟨by simp, fun x h => nomatch h⟩
theorem lost_nil (hc : ChOk c) : ∀ x, x ∉ lostF c [] own := fun x hx => by
  obtain ⟨b, h1, _⟩ := (lostF_ok hc badOk_nil).P x hx
  cases h1
theorem edges_all (hc : ChOk c) (sn : SafeNs c [] own ms) : sEdges c ms = List.range c.es.length := by
  have all : ∀ m < c.n, m ∈ ms := fun m hm => (sn.mem m).mpr (RF_f (fun e _ _ => by simp [keepE, lost_nil hc]) (RF_reach.mpr (hc.re m hm)))
  unfold sEdges
  refine List.filter_eq_self.mpr fun k hk => ?_
  have hlt := List.mem_range.mp hk
  have hm : c.es.getD k (0, 0, 0) ∈ c.es := by
    rw [List.getD_eq_getElem?_getD, List.getElem?_eq_getElem hlt]
    exact List.getElem_mem hlt
  have := hc.ok.rg _ hm
  simp only [Bool.and_eq_true, decide_eq_true_eq]
  exact ⟨all _ this.1, all _ this.2.2⟩
theorem part_len {ks : List Nat} {ns : List Nat} : (partCh c ns ks).es.length = ks.length := by
  unfold partCh kes
  simp
theorem safe_uniq {xs : List Nat} (sn : SafeNs c bad own ms) (h : xs.Pairwise (· < ·)) (hm : ∀ m, m ∈ xs ↔ RF (keepE (lostF c bad own)) c.es 0 m) : xs = ms := rising_ext h sn.up fun m => by rw [hm, sn.mem]
end
theorem rgI_nat {n : Nat} : rgI (n : Nat) = (List.range n).map nV := by
  unfold rgI
  simp [nV]
end Y
set_option Elab.async false
set_option linter.all false
set_option maxRecDepth 100000
set_option maxHeartbeats 4000000
set_option autoImplicit false
/-! the law: its two parts -/
namespace Y
open PySem L2
def r_law_mid (p__law_safe p__law_falls p__law_sets p_safe_chart p__law_same p_safe_edges : PT) : WS :=
  (wSeq (wSet 8 (wCallF 2 p__law_safe (waCons (wVar 2) (waCons (wOp oIx (wVar 7) (wC (.int 0))) waNil))))
  (wSeq (wFor (wIR1 (waCons (wCall cLen (waCons (wOp oIx (wVar 2) (wC (.int 2))) waNil)) waNil)) (.nm 9) (wSeq (wSet 10 (wOp oIx (wOp oIx (wVar 2) (wC (.int 2))) (wVar 9)))
  (wIf (wAnd (wTest (wOp (oIn false) (wOp oIx (wVar 10) (wC (.int 0))) (wVar 8))) (wTest (wOp (oIn true) (wVar 9) (wOp oIx (wVar 7) (wC (.int 1)))))) (wIf (wOr (wTest (wOp (oIn true) (wOp oIx (wVar 10) (wC (.int 1))) (wVar 5))) (wNot (wTest (wCallF 4 p__law_falls (waCons (wVar 2) (waCons (wVar 3) (waCons (wVar 5) (waCons (wOp oIx (wVar 10) (wC (.int 2))) waNil)))))))) (wRet (wC (.bl false))) wNext) wNext)))
  (wSeq (wIf (wOr (wTest (wCall cAny (waCons (wLc (wISeq (wVar 8)) (.nm 4) wYes (wOp (oIn false) (wVar 4) (wVar 3)) [4]) waNil))) (wNot (wTest (wCallF 7 p__law_sets (waCons (wVar 1) (waCons (wVar 2) (waCons (wVar 6) (waCons (wVar 3) (waCons (wVar 5) (waCons (wOp oIx (wVar 7) (wC (.int 0))) (waCons (wOp oIx (wVar 7) (wC (.int 1))) waNil))))))))))) (wRet (wC (.bl false))) wNext)
  (wSeq (wSet 11 (wCallF 3 p_safe_chart (waCons (wVar 6) (waCons (wCall cList (waCons (wVar 3) waNil)) (waCons (wVar 5) waNil)))))
  (wIf (wNot (wTest (wCallF 2 p__law_same (waCons (wCallF 3 p_safe_edges (waCons (wVar 11) (waCons (wLst waNil) (waCons (wVar 5) waNil)))) (waCons (wTupRg (wCall cLen (waCons (wOp oIx (wVar 7) (wC (.int 1))) waNil))) waNil))))) (wRet (wC (.bl false))) wNext)))))
def r_law_end (p__law_take p__law_asked : PT) : WS :=
  (wSeq (wSet 12 (wLc (wISeq (wVar 3)) (.nm 4) (wTest (wOp (oEq false) (wCallF 2 p__law_take (waCons (wVar 1) (waCons (wC (.int 2)) waNil))) (wC (.int 0)))) (wVar 4) [4]))
  (wSeq (wSet 13 (wCallF 4 p__law_asked (waCons (wVar 2) (waCons (wVar 6) (waCons (wVar 12) (waCons (wVar 5) waNil))))))
  (wSeq (wSet 14 (wCallF 4 p__law_asked (waCons (wVar 2) (waCons (wVar 6) (waCons (wVar 3) (waCons (wVar 5) waNil))))))
  (wSeq (wIf (wOr (wTest (wOp (oIsN false) (wVar 13) (wC .non))) (wTest (wOp (oIsN false) (wVar 14) (wC .non)))) (wRet (wC (.bl false))) wNext)
  (wSeq (wIf (wAnd (wTest (wOp (oIsN true) (wOp oIx (wVar 7) (wC (.int 1))) (wC .non))) (wTest (wCall cAny (waCons (wLc (wISeq (wOp oIx (wVar 7) (wC (.int 1)))) (.nm 9) wYes (wOp (oIn true) (wVar 9) (wOp oIx (wVar 13) (wC (.int 1)))) [9]) waNil)))) (wRet (wC (.bl false))) wNext)
  (wRet (wNotV (wCall cAny (waCons (wLc (wISeq (wOp oIx (wVar 13) (wC (.int 0)))) (.nm 4) wYes (wOp (oIn true) (wVar 4) (wOp oIx (wVar 7) (wC (.int 0)))) [4]) waNil)))))))))
theorem law_parts (C_Chart : Addr) (p__law_chart : PT) (p__law_bad : PT) (p__law_take : PT) (p__law_own : PT) (p_Chart___init__ : PT) (p__law_asked : PT) (p__law_safe : PT) (p__law_falls : PT) (p__law_sets : PT) (p_safe_chart : PT) (p__law_same : PT) (p_safe_edges : PT) : r_law C_Chart p__law_chart p__law_bad p__law_take p__law_own p_Chart___init__ p__law_asked p__law_safe p__law_falls p__law_sets p_safe_chart p__law_same p_safe_edges = (wSeq (wSet 1 (wLst (waCons (wCall cList (waCons (wVar 0) waNil)) (waCons (wC (.int 0)) (waCons (wC (.int 0)) (waCons (wC (.int 0)) (waCons (wC (.int 76)) waNil)))))))
  (wSeq (wSet 2 (wCallF 1 p__law_chart (waCons (wVar 1) waNil)))
  (wSeq (wSet 3 (wCallF 2 p__law_bad (waCons (wVar 1) (waCons (wOp oIx (wVar 2) (wC (.int 1))) waNil))))
  (wSeq (wIf (wTest (wOp oGt (wCallF 2 p__law_take (waCons (wVar 1) (waCons (wC (.int 4)) waNil))) (wC (.int 0)))) (wSet 3 (wLc (wISeq (wVar 3)) (.nm 4) (wTest (wOp oGt (wVar 4) (wC (.int 0)))) (wVar 4) [4])) wNext)
  (wSeq (wSet 5 (wCallF 2 p__law_own (waCons (wVar 1) (waCons (wOp oIx (wVar 2) (wC (.int 0))) waNil))))
  (wSeq (wSet 6 (wMakeF C_Chart 4 p_Chart___init__ (waCons (wOp oIx (wVar 2) (wC (.int 0))) (waCons (wOp oIx (wVar 2) (wC (.int 1))) (waCons (wCall cList (waCons (wOp oIx (wVar 2) (wC (.int 2))) waNil)) waNil)))))
  (wSeq (wSet 7 (wCallF 4 p__law_asked (waCons (wVar 2) (waCons (wVar 6) (waCons (wVar 3) (waCons (wVar 5) waNil))))))
  (wSeq (wIf (wTest (wOp (oIsN false) (wVar 7) (wC .non))) (wRet (wC (.bl false))) wNext)
  (wSeq (wIf (wTest (wOp (oIsN true) (wOp oIx (wVar 7) (wC (.int 1))) (wC .non))) (r_law_mid p__law_safe p__law_falls p__law_sets p_safe_chart p__law_same p_safe_edges) wNext)
  (r_law_end p__law_take p__law_asked)))))))))) := rfl
end Y
set_option Elab.async false
set_option linter.all false
set_option maxRecDepth 100000
set_option maxHeartbeats 4000000
set_option autoImplicit false
/-! the law: its end -/
namespace Y
open PySem L2
structure AskSt (c : Ch) (bad own : List Nat) (s : Store) (r l : Addr) (ls : List Nat) : Prop where
  lost : s l = some (.lst (ls.map nV))
  up : ls.Pairwise (· < ·)
  mem : ∀ m, m ∈ ls ↔ m ∈ lostF c bad own
  alt : (0 ∈ lostF c bad own ∧ s r = some (.lst [.ref l, .non])) ∨ (0 ∉ lostF c bad own ∧ ∃ (o : Addr) (ms : List Nat), SafeNs c bad own ms ∧ s o = some (.lst ((sEdges c ms).map nV)) ∧ s r = some (.lst [.ref l, .ref o]))
theorem AskSt.subp {B : Nat} {t : Addr} {c : Ch} {bad own : List Nat} {s s' : Store} {r l : Addr} {ls : List Nat} (h : AskSt c bad own s r l ls) (tp : TapeOk B t s) (k : SubP t s s') : AskSt c bad own s' r l ls := by
  have two : ∀ x y : Val, s r = some (.lst [x, y]) → r ≠ t := fun x y e z => by
    obtain ⟨l, ns, pos, cnt, seed, rest, h1, h2, h3, h4, h5⟩ := tp.ex
    rw [z, h2] at e
    simp at e
  refine ⟨k _ _ (nats_ne tp h.lost) h.lost, h.up, h.mem, ?_⟩
  rcases h.alt with ⟨a, b⟩ | ⟨a, o, ms, b1, b2, b3⟩
  · exact .inl ⟨a, k _ _ (two _ _ b) b⟩
  · exact .inr ⟨a, o, ms, b1, k _ _ (nats_ne tp b2) b2, k _ _ (two _ _ b3) b3⟩
theorem AskSt.sub {c : Ch} {bad own : List Nat} {s s' : Store} {r l : Addr} {ls : List Nat} (h : AskSt c bad own s r l ls) (k : Sub s s') : AskSt c bad own s' r l ls := by
  refine ⟨k _ _ h.lost, h.up, h.mem, ?_⟩
  rcases h.alt with ⟨a, b⟩ | ⟨a, o, ms, b1, b2, b3⟩
  · exact .inl ⟨a, k _ _ b⟩
  · exact .inr ⟨a, o, ms, b1, k _ _ b2, k _ _ b3⟩
theorem AskSt.head {c : Ch} {bad own : List Nat} {s : Store} {r l : Addr} {ls : List Nat} (h : AskSt c bad own s r l ls) : ∃ y, s r = some (.lst [.ref l, y]) := by
  rcases h.alt with ⟨_, b⟩ | ⟨_, o, ms, _, _, b⟩ <;> exact ⟨_, b⟩
theorem AskEnd.st {c : Ch} {bad own : List Nat} {s s' : Store} {r l : Addr} {ls : List Nat} (h : AskEnd c bad own s s' r l ls) (a : (0 ∈ lostF c bad own ∧ s' r = some (.lst [.ref l, .non])) ∨ (0 ∉ lostF c bad own ∧ ∃ (o : Addr) (ns : List Nat), s o = Option.none ∧ SafeNs c bad own ns ∧ s' o = some (.lst ((sEdges c ns).map nV)) ∧ s' r = some (.lst [.ref l, .ref o]))) : AskSt c bad own s' r l ls := by
  refine ⟨h.lost, h.up, h.mem, ?_⟩
  rcases a with a | ⟨a, o, ns, _, b1, b2, b3⟩
  · exact .inl a
  · exact .inr ⟨a, o, ns, b1, b2, b3⟩
theorem ok_law_end {C : Addr} {Q : QV} {E : QE} {s : Store} {B : Nat} {t pb r l : Addr} {v vg x0 : Val} {v4 v8 v9 v10 v11 v12 v13 v14 : Option Val} {c : Ch} {bad own ls : List Nat} (tp : TapeOk B t s) (hB : B < 600000000) (lc : LawCh s v c) (cok : ChOk c) (bok : BadOk c bad) (hpb : s pb = some (.lst (bad.map nV))) (hg : IsChart C s vg c) (ha : AskSt c bad own s r l ls) (q : ∀ s', Q (.bl true) s') :
    r_law_end p__law_take (p__law_asked C) (DF Q E) [some x0, some (.ref t), some v, some (.ref pb), v4, some (.tup (own.map nV)), some vg, some (.ref r), v8, v9, v10, v11, v12, v13, v14] s := by
  have hbl : bad.length ≤ c.n := nodup_lt bok.nd bok.lt
  have hn := cok.n10
  have hcl := cok.len
  simp [r_law_end]
  refine wLc_app.mpr ?_
  have hpbt := nats_ne tp hpb
  refine wISeq_val (x := .ref pb) (fun Q h => by simpa using h) (seqOf_lst hpb) (fun _ z => nomatch z) fun it hat => ?_
  refine LB.tape (bad.map nV) (fun i s2 k2 => hat _ _ (seqOf_lst (k2 _ _ hpbt hpb))) (by rw [List.length_map]; omega) tp ?_ ?_
  · intro x hx D s3 k3 tp3 hD
    obtain ⟨k, _, rfl⟩ := List.mem_map.mp hx
    rw [List.length_map] at hD
    refine ⟨_, by simp; rfl, fun Q1 h => ?_, fun s4 Q1 k4 h => ?_⟩
    · simp
      refine ⟨D, t, 2, by simp [nV], tp3, by omega, by omega, by omega, fun w s4 hw k4 tp4 hl4 => ?_⟩
      simp [nV]
      by_cases h2 : w = 0
      · exact .inr ⟨by omega, h _ s4 k4 tp4 hl4⟩
      · exact .inl ⟨by omega, h _ s4 k4 tp4 hl4⟩
    · simpa using h
  intro p12 s2 ys hp12 hys k2 tp2 h12
  obtain ⟨bad', hbs, rfl⟩ : ∃ bad' : List Nat, bad'.Sublist bad ∧ ys = bad'.map nV := by
    obtain ⟨b', h1, h2⟩ := List.sublist_map_iff.mp hys
    exact ⟨b', h1, h2⟩
  have bok' : BadOk c bad' := ⟨bok.nd.sublist hbs, fun x hx => bok.lt x (hbs.subset hx)⟩
  have hsb : ∀ x ∈ bad', x ∈ bad := fun x hx => hbs.subset hx
  have hbl' := hbs.length_le
  have lc2 := lc.subp tp k2
  have hg2 := hg.subp tp k2
  have hpb2 := k2 _ _ hpbt hpb
  have ha2 := ha.subp tp k2
  refine ⟨v, vg, _, p12, c, bad', own, rfl, ⟨lc2, cok, NSeq.lst h12, NSeq.tup, bok'⟩, h12, hg2, by omega, fun r3 l3 s3 ls3 k3 ae3 al3 => ?_⟩
  have a3 := ae3.st al3
  refine ⟨v, vg, _, pb, c, bad, own, rfl, ⟨lc2.sub k3, cok, NSeq.lst (k3 _ _ hpb2), NSeq.tup, bok⟩, k3 _ _ hpb2, hg2.sub k3, by omega, fun r4 l4 s4 ls4 k4 ae4 al4 => ?_⟩
  have k24 := k3.trans k4
  have a7 := ha2.sub k24
  have a13 := a3.sub k4
  -- the last answer
  have fin : ∀ s5, Sub s4 s5 → wLc (wISeq (wOp oIx (wVar 13) (wC (.int 0)))) (.nm 4) wYes (wOp (oIn true) (wVar 4) (wOp oIx (wVar 7) (wC (.int 0)))) [4] [some x0, some (.ref t), some v, some (.ref pb), v4, some (.tup (own.map nV)), some vg, some (.ref r), v8, v9, v10, v11, some (.ref p12), some (.ref r3), some (.ref r4)] s5 (fun x s1 => cAny [x] s1 fun x s1 => (x = .bl false ∧ Q (.bl true) s1) ∨ (x = .bl true ∧ Q (.bl false) s1)) (fun x s1 => E x s1) := fun s5 k5 => by
    have a7 := a7.sub k5
    have a13 := a13.sub k5
    obtain ⟨y7, h7⟩ := a7.head
    obtain ⟨y13, h13⟩ := a13.head
    have hll : ls3.length ≤ c.n := nodup_lt (List.nodup_iff_pairwise_ne.mpr (a13.up.imp fun {a b} z => by omega)) fun x hx => (lostF_ok cok bok').lt x ((a13.mem x).mp hx)
    refine wLc_app.mpr ?_
    refine wISeq_val (x := .ref l3) (fun Q h => by simp; rw [oIx_lst h13]; simpa using h) (seqOf_lst a13.lost) (fun _ z => nomatch z) fun it hat => ?_
    refine lb_map_nat (ns := ls3) (g := fun m => .bl (!decide (m ∈ ls))) (fun s6 j k6 => hat _ _ (seqOf_lst (k6 _ _ a13.lost))) (by omega) (fun m hm s6 k6 Q1 h => ?_) fun o s6 ho k6 h6 => ?_
    · simp [nV]
      rw [oIx_lst (k6 _ _ h7)]
      simp
      rw [oIn_nat (k6 _ _ a7.lost)]
      exact h s6 (Sub.refl _)
    · refine cAny_of h6 ?_
      have : (ls3.any fun m => !decide (m ∈ ls)) = false := List.any_eq_false.mpr fun m hm => by
        have h1 := lost_mono cok bok bok' hsb m ((a13.mem m).mp hm)
        simp [(a7.mem m).mpr h1]
      rw [this]
      exact .inl ⟨rfl, q s6⟩
  refine .inl ⟨rfl, .inl ⟨rfl, ?_⟩⟩
  rcases a7.alt with ⟨h0, h7⟩ | ⟨h0, o7, ms7, sn7, ho7, h7⟩
  · refine (oIx_lst h7).mpr ⟨_, rfl, ?_⟩
    exact .inl ⟨rfl, fin s4 (Sub.refl _)⟩
  · have h0' : 0 ∉ lostF c bad' own := fun z => h0 (lost_mono cok bok bok' hsb 0 z)
    rcases a13.alt with ⟨h0'', _⟩ | ⟨_, o13, ms13, sn13, ho13, h13⟩
    · exact absurd h0'' h0'
    refine (oIx_lst h7).mpr ⟨_, rfl, .inr ⟨rfl, ?_⟩⟩
    have hel : (sEdges c ms7).length ≤ c.es.length := by
      unfold sEdges
      exact Nat.le_trans (List.length_filter_le _ _) (by rw [List.length_range]; exact Nat.le_refl _)
    refine wLc_app.mpr ?_
    refine wISeq_val (x := .ref o7) (fun Q h => by simp; rw [oIx_lst h7]; simpa using h) (seqOf_lst ho7) (fun _ z => nomatch z) fun it hat => ?_
    refine lb_map_nat (ns := sEdges c ms7) (g := fun m => .bl (!decide (m ∈ sEdges c ms13))) (fun s6 j k6 => hat _ _ (seqOf_lst (k6 _ _ ho7))) (by omega) (fun m hm s6 k6 Q1 h => ?_) fun o s6 ho k6 h6 => ?_
    · simp [nV]
      rw [oIx_lst (k6 _ _ h13)]
      simp
      rw [oIn_nat (k6 _ _ ho13)]
      exact h s6 (Sub.refl _)
    · refine cAny_of h6 ?_
      have : ((sEdges c ms7).any fun m => !decide (m ∈ sEdges c ms13)) = false := List.any_eq_false.mpr fun m hm => by
        simp [edges_mono cok bok bok' hsb sn7 sn13 m hm]
      rw [this]
      exact .inl ⟨rfl, fin s6 k6⟩
end Y
set_option Elab.async false
set_option linter.all false
set_option maxRecDepth 100000
set_option maxHeartbeats 4000000
set_option autoImplicit false
/-! the law: its middle -/
namespace Y
open PySem L2
theorem ok_law_mid {CL C : Addr} {D : DE} {s : Store} {B : Nat} {t pb r l o : Addr} {v vg x0 : Val} {v4 v8 v9 v10 v11 v12 v13 v14 : Option Val} {c : Ch} {bad own ls ms : List Nat} (tp : TapeOk B t s) (hB : B < 600000000) (lc : LawCh s v c) (cok : ChOk c) (bok : BadOk c bad) (hpb : s pb = some (.lst (bad.map nV))) (hg : IsChart C s vg c)
    (hls : s l = some (.lst (ls.map nV))) (hlm : ∀ m, m ∈ ls ↔ m ∈ lostF c bad own) (h0 : 0 ∉ lostF c bad own) (sn : SafeNs c bad own ms) (ho : s o = some (.lst ((sEdges c ms).map nV))) (hr : s r = some (.lst [.ref l, .ref o]))
    (q : ∀ s' v4 v8 v9 v10 v11 v12 v13 v14, SubP t s s' → TapeOk (B + 6000) t s' → D.nx [some x0, some (.ref t), some v, some (.ref pb), v4, some (.tup (own.map nV)), some vg, some (.ref r), v8, v9, v10, v11, v12, v13, v14] s') :
    r_law_mid p__law_safe p__law_falls (p__law_sets C) (p_safe_chart CL C) (p__law_same 4) (p_safe_edges CL C) D [some x0, some (.ref t), some v, some (.ref pb), v4, some (.tup (own.map nV)), some vg, some (.ref r), v8, v9, v10, v11, v12, v13, v14] s := by
  have hbl : bad.length ≤ c.n := nodup_lt bok.nd bok.lt
  have hn := cok.n10
  have hcl := cok.len
  have hel : (sEdges c ms).length ≤ c.es.length := by
    unfold sEdges
    exact Nat.le_trans (List.length_filter_le _ _) (by rw [List.length_range]; exact Nat.le_refl _)
  have hke : keepE ls = keepE (lostF c bad own) := funext fun e => by
    unfold keepE
    congr 1
    exact decide_eq_decide.mpr (hlm _)
  obtain ⟨p, d, hv, hp, hd⟩ := lc.ex
  have hpbt := nats_ne tp hpb
  have hlt := nats_ne tp hls
  have hot := nats_ne tp ho
  simp [r_law_mid]
  refine (oIx_lst hr).mpr ⟨_, rfl, ?_⟩
  refine ⟨v, c, l, ls, rfl, lc, cok, hls, fun a8 s8 ns ha8 k8 hup8 hm8 h8 => ?_⟩
  rw [hke] at hm8
  have := safe_uniq sn hup8 hm8
  subst this
  have hr8 := k8 _ _ hr
  have tp8 := tp.keep k8
  rw [wFor_app]
  simp
  rw [hv, oIx_lst (k8 _ _ hp)]
  simp
  rw [cLen_of (seqOf_lst (k8 _ _ hd))]
  simp
  refine ⟨by omega, ?_⟩
  rw [← hv]
  refine FB.of ((List.range c.es.length).map fun k => Val.int (0 + (k : Nat))) (fun i env s2 => i ≤ c.es.length ∧ Sub s8 s2 ∧ ∃ v9 v10, env = [some x0, some (.ref t), some v, some (.ref pb), v4, some (.tup (own.map nV)), some vg, some (.ref r), some (.ref a8), v9, v10, v11, v12, v13, v14])
    ⟨Nat.zero_le _, Sub.refl _, _, _, rfl⟩ (fun i env s2 h => dR_at) ?_ ?_
  · rintro i y env s2 hi ⟨_, k2, v9, v10, rfl⟩
    have hin : i < c.es.length ∧ y = .int (i : Nat) := by
      obtain ⟨z1, z2⟩ := List.getElem?_eq_some_iff.mp hi
      simp at z1 z2
      exact ⟨z1, z2.symm⟩
    obtain ⟨hin, rfl⟩ := hin
    have k02 := k8.trans k2
    obtain ⟨e, hee⟩ : ∃ e, eAt c i = e := ⟨_, rfl⟩
    have hem : c.es[i]? = some e := by rw [← hee]; unfold eAt; rw [List.getD_eq_getElem?_getD, List.getElem?_eq_getElem hin]; rfl
    have he := List.mem_of_getElem? hem
    have hmem : i ∈ sEdges c ns ↔ e.1 ∈ ns ∧ e.2.2 ∈ ns := by
      rw [sEdges_mem, ← hee]
      exact ⟨fun z => z.2, fun z => ⟨hin, z⟩⟩
    refine ⟨_, by simp; rfl, ?_⟩
    simp
    rw [hv, oIx_lst (k02 _ _ hp)]
    simp
    rw [oIx_lst (k02 _ _ hd), atI_nat]
    rw [← hv]
    refine ⟨ev e, by rw [List.getElem?_map, hem]; rfl, ?_⟩
    simp [ev]
    rw [oIn_nat (k2 _ _ h8)]
    by_cases c1 : e.1 ∈ ns
    · refine .inr ⟨by simp [c1], ?_⟩
      rw [oIx_lst (k2 _ _ hr8)]
      simp
      rw [oIn_nat (k02 _ _ ho)]
      by_cases c2 : i ∈ sEdges c ns
      · refine .inl ⟨by simp [c2], ?_⟩
        exact ⟨hin, k2⟩
      · refine .inr ⟨by simp [c2], ?_⟩
        obtain ⟨w1, w2⟩ := edge_out cok bok sn h0 he c1 (fun z => c2 (hmem.mpr ⟨c1, z⟩))
        rw [oIn_natT]
        refine .inl ⟨by simp [w1], ?_⟩
        refine ⟨v, .ref pb, _, c, bad, own, e.2.2, rfl, ⟨lc.sub k02, cok, NSeq.lst (k02 _ _ hpb), NSeq.tup, bok⟩, (cok.ok.rg e he).2.2, fun s3 z k3 hz => ?_⟩
        have : z = true := hz.mpr w2
        subst this
        exact .inr ⟨rfl, hin, k2.trans k3⟩
    · refine .inl ⟨by simp [c1], ?_⟩
      exact ⟨hin, k2⟩
  · rintro i env s2 hi ⟨hin, k2, v9, v10, rfl⟩
    have k02 := k8.trans k2
    simp
    refine wLc_app.mpr ?_
    have h82 := k2 _ _ h8
    have nsl : ns.length ≤ c.n := nodup_lt (List.nodup_iff_pairwise_ne.mpr (sn.up.imp fun {a b} z => by omega)) fun x hx => RF_lt cok.n0 (fun e he => (cok.ok.rg e he).2.2) ((sn.mem x).mp hx)
    refine wISeq_val (x := .ref a8) (fun Q h => by simpa using h) (seqOf_lst h82) (fun _ z => nomatch z) fun it hat => ?_
    refine lb_map_nat (ns := ns) (g := fun m => .bl (decide (m ∈ bad))) (fun s4 j k4 => hat _ _ (seqOf_lst (k4 _ _ h82))) (by omega) (fun m hm s4 k4 Q1 h => ?_) fun oo s4 hoo k4 h4 => ?_
    · simp [nV]
      rw [oIn_nat (k4 _ _ (k02 _ _ hpb))]
      exact h s4 (Sub.refl _)
    refine cAny_of h4 ?_
    have hno : (ns.any fun m => decide (m ∈ bad)) = false := List.any_eq_false.mpr fun m hm => by
      have := safe_not_lost sn h0 hm
      simp only [decide_eq_true_eq]
      exact fun z => this (lostF_bad z)
    refine .inl ⟨by rw [hno], ?_⟩
    have k04 := k02.trans k4
    have hr4 := k04 _ _ hr
    have tp4 := tp.keep k04
    rw [oIx_lst hr4]
    simp
    rw [oIx_lst hr4]
    simp
    refine ⟨B, t, pb, l, o, v, vg, c, bad, own, ls, ns, rfl, tp4, by omega, lc.sub k04, cok, bok, k04 _ _ hpb, hg.sub k04, k04 _ _ hls, k04 _ _ ho, sn, fun s5 k5 tp5 => .inr ⟨rfl, ?_⟩⟩
    have k05 := (SubP.of k04 (p := t)).trans k5
    rw [cList_of (seqOf_lst (k05 _ _ hpbt hpb))]
    intro b6 hb6
    obtain ⟨s6, hs6⟩ : ∃ s6, updS s5 b6 (.lst (bad.map nV)) = s6 := ⟨_, rfl⟩
    have k6 : Sub s5 s6 := by rw [← hs6]; exact Sub.new hb6
    have h66 : s6 b6 = some (.lst (bad.map nV)) := by rw [← hs6, updS_self]
    rw [hs6]
    have hg6 := (hg.subp tp k05).sub k6
    refine ⟨vg, _, _, c, bad, own, rfl, ⟨hg6, NSeq.lst h66, NSeq.tup, bok⟩, (fun z => absurd z h0), fun _ v7 s7 ns7 k7 sn7 po7 hc7 => ?_⟩
    have : ns7 = ns := safe_uniq sn sn7.up sn7.mem
    subst this
    intro b8 hb8
    obtain ⟨s9, hs9⟩ : ∃ s9, updS s7 b8 (.lst []) = s9 := ⟨_, rfl⟩
    have k9 : Sub s7 s9 := by rw [← hs9]; exact Sub.new hb8
    have h99 : s9 b8 = some (.lst (([] : List Nat).map nV)) := by rw [← hs9, updS_self]; rfl
    rw [hs9]
    refine ⟨v7, _, _, _, [], own, rfl, ⟨hc7.sub k9, NSeq.lst h99, NSeq.tup, badOk_nil⟩, (fun z => absurd z (lost_nil hc7.ok 0)), fun _ s10 ns10 k10 sn10 => ?_⟩
    have hall := edges_all hc7.ok sn10
    rw [part_len] at hall
    rw [hall]
    have k510 := (k6.trans k7).trans (k9.trans k10)
    have hrt : r ≠ t := fun z => by
      obtain ⟨l', ns', pos, cnt, seed, rest, h1, h2, h3, h4, h5⟩ := tp.ex
      rw [z, h2] at hr
      simp at hr
    have hr10 := k510 _ _ (k05 _ _ hrt hr)
    have ho10 := k510 _ _ (k05 _ _ hot ho)
    refine (oIx_lst hr10).mpr ⟨_, rfl, ?_⟩
    refine (cLen_of (seqOf_lst ho10)).mpr ?_
    rw [List.length_map]
    refine ⟨_, rfl, by omega, by omega, ?_⟩
    rw [rgI_nat]
    refine ⟨_, _, rfl, SameV.tup (by simp; omega) SameV.nats, fun s11 k11 => .inr ⟨rfl, ?_⟩⟩
    have k511 := k510.trans k11
    exact q s11 _ _ _ _ _ _ _ _ (k05.trans (SubP.of k511)) (tp5.keep k511)
end Y
set_option Elab.async false
set_option linter.all false
set_option maxRecDepth 100000
set_option maxHeartbeats 4000000
set_option autoImplicit false
/-! the law, whole -/
namespace Y
open PySem L2
def r_law_tail (C_Chart : Addr) (p__law_take p__law_own p_Chart___init__ p__law_asked p__law_safe p__law_falls p__law_sets p_safe_chart p__law_same p_safe_edges : PT) : WS :=
  (wSeq (wSet 5 (wCallF 2 p__law_own (waCons (wVar 1) (waCons (wOp oIx (wVar 2) (wC (.int 0))) waNil))))
  (wSeq (wSet 6 (wMakeF C_Chart 4 p_Chart___init__ (waCons (wOp oIx (wVar 2) (wC (.int 0))) (waCons (wOp oIx (wVar 2) (wC (.int 1))) (waCons (wCall cList (waCons (wOp oIx (wVar 2) (wC (.int 2))) waNil)) waNil)))))
  (wSeq (wSet 7 (wCallF 4 p__law_asked (waCons (wVar 2) (waCons (wVar 6) (waCons (wVar 3) (waCons (wVar 5) waNil))))))
  (wSeq (wIf (wTest (wOp (oIsN false) (wVar 7) (wC .non))) (wRet (wC (.bl false))) wNext)
  (wSeq (wIf (wTest (wOp (oIsN true) (wOp oIx (wVar 7) (wC (.int 1))) (wC .non))) (r_law_mid p__law_safe p__law_falls p__law_sets p_safe_chart p__law_same p_safe_edges) wNext)
  (r_law_end p__law_take p__law_asked))))))
theorem law_parts2 (C_Chart : Addr) (p__law_chart : PT) (p__law_bad : PT) (p__law_take : PT) (p__law_own : PT) (p_Chart___init__ : PT) (p__law_asked : PT) (p__law_safe : PT) (p__law_falls : PT) (p__law_sets : PT) (p_safe_chart : PT) (p__law_same : PT) (p_safe_edges : PT) : r_law C_Chart p__law_chart p__law_bad p__law_take p__law_own p_Chart___init__ p__law_asked p__law_safe p__law_falls p__law_sets p_safe_chart p__law_same p_safe_edges = (wSeq (wSet 1 (wLst (waCons (wCall cList (waCons (wVar 0) waNil)) (waCons (wC (.int 0)) (waCons (wC (.int 0)) (waCons (wC (.int 0)) (waCons (wC (.int 76)) waNil)))))))
  (wSeq (wSet 2 (wCallF 1 p__law_chart (waCons (wVar 1) waNil)))
  (wSeq (wSet 3 (wCallF 2 p__law_bad (waCons (wVar 1) (waCons (wOp oIx (wVar 2) (wC (.int 1))) waNil))))
  (wSeq (wIf (wTest (wOp oGt (wCallF 2 p__law_take (waCons (wVar 1) (waCons (wC (.int 4)) waNil))) (wC (.int 0)))) (wSet 3 (wLc (wISeq (wVar 3)) (.nm 4) (wTest (wOp oGt (wVar 4) (wC (.int 0)))) (wVar 4) [4])) wNext)
  (r_law_tail C_Chart p__law_take p__law_own p_Chart___init__ p__law_asked p__law_safe p__law_falls p__law_sets p_safe_chart p__law_same p_safe_edges)))))
   := rfl
def p_law : PT := fun xs s Q E => ∃ ns : List Int, xs = [.scr (ns.map Val.int)] ∧ ∀ s', Q (.bl true) s'
theorem ok_law {CL C xs s Q E} (h : p_law xs s Q E) : r_law C p__law_chart p__law_bad p__law_take p__law_own (p_Chart___init__ C) (p__law_asked C) p__law_safe p__law_falls (p__law_sets C) (p_safe_chart CL C) (p__law_same 4) (p_safe_edges CL C) (DF Q E) (startE 15 xs) s := by
  obtain ⟨zs, rfl, q⟩ := h
  rw [law_parts2]
  simp
  rw [cList_of (seqOf_scr)]
  intro l hl t ht
  have htl : t ≠ l := fun z => by rw [z] at ht; simp at ht
  have tp0 : TapeOk 0 t (updS (updS s l (.lst (zs.map Val.int))) t (.lst [.ref l, .int 0, .int 0, .int 0, .int 76])) :=
    ⟨l, zs, 0, 0, 76, 0, htl.symm, by rw [updS_self]; rfl, by rw [updS_ne htl.symm, updS_self], Nat.le_refl _, by decide⟩
  generalize updS (updS s l (.lst (zs.map Val.int))) t (.lst [.ref l, .int 0, .int 0, .int 0, .int 76]) = s1 at *
  refine ⟨0, t, rfl, tp0, by omega, fun p d s2 c hp0 hd0 k2 tp2 cok hp hd => ?_⟩
  have lc : LawCh s2 (.ref p) c := ⟨p, d, rfl, hp, hd⟩
  obtain ⟨hpt, hdt⟩ := lawch_ne tp2 hp hd
  have hn := cok.n10
  have hcl := cok.len
  have ha5 := cok.a5
  refine (oIx_lst hp).mpr ⟨_, rfl, ?_⟩
  refine ⟨300, t, c.n, rfl, tp2.mono (by omega), by omega, hn, fun b s3 bs hb0 k3 tp3 hbs h3 => ?_⟩
  have hb3t := nats_ne tp3 h3
  refine ⟨320, t, 4, by simp [nV], tp3.mono (by omega), by omega, by omega, by omega, fun z s4 hz k4 tp4 _ => ?_⟩
  -- the rest, once the marked states stand
  have rest : ∀ (b : Addr) (bad : List Nat) (s5 : Store) (v4 : Option Val), bad.Sublist (List.range c.n) → SubP t s2 s5 → TapeOk 400 t s5 → s5 b = some (.lst (bad.map nV)) →
      r_law_tail C p__law_take p__law_own (p_Chart___init__ C) (p__law_asked C) p__law_safe p__law_falls (p__law_sets C) (p_safe_chart CL C) (p__law_same 4) (p_safe_edges CL C) (DF Q E) [some (.scr (zs.map Val.int)), some (.ref t), some (.ref p), some (.ref b), v4, none, none, none, none, none, none, none, none, none, none] s5 := fun b bad s5 v4 hbs k5 tp5 hb5 => by
    obtain ⟨hup, hblt⟩ := rg_up hbs
    have bok : BadOk c bad := ⟨List.nodup_iff_pairwise_ne.mpr (hup.imp fun {a b} z => by omega), hblt⟩
    have hbl : bad.length ≤ c.n := nodup_lt bok.nd bok.lt
    have hbt := nats_ne tp5 hb5
    have hp5 := k5 _ _ hpt hp
    simp [r_law_tail]
    refine (oIx_lst hp5).mpr ⟨_, rfl, ?_⟩
    refine ⟨400, t, c.a, rfl, tp5, by omega, by omega, fun s6 own k6 tp6 hown => ?_⟩
    have hp6 := k6 _ _ hpt hp5
    have hd6 := k6 _ _ hdt (k5 _ _ hdt hd)
    have hb6 := k6 _ _ hbt hb5
    refine (oIx_lst hp6).mpr ⟨_, rfl, ?_⟩
    refine (oIx_lst hp6).mpr ⟨_, rfl, ?_⟩
    refine (oIx_lst hp6).mpr ⟨_, rfl, ?_⟩
    refine (cList_of (seqOf_lst hd6)).mpr ?_
    intro e7 he7
    obtain ⟨s7, hs7⟩ : ∃ s7, updS s6 e7 (.lst (c.es.map ev)) = s7 := ⟨_, rfl⟩
    have k7 : Sub s6 s7 := by rw [← hs7]; exact Sub.new he7
    have h77 : s7 e7 = some (.lst (c.es.map ev)) := by rw [← hs7, updS_self]
    rw [hs7]
    intro q8 hq8
    have hpq : p ≠ q8 := fun z => by
      have := k7 _ _ hp6
      rw [z, hq8] at this
      cases this
    have hq8e : e7 ≠ q8 := fun z => by rw [z, hq8] at h77; cases h77
    have kn : Sub s7 (updS s7 q8 (.ins C [])) := Sub.new hq8
    refine ⟨q8, c.a, c.n, .ref e7, c.es, rfl, updS_self, seqOf_lst (kn _ _ h77), (fun _ z => nomatch z), (fun z => hq8e (by cases z; rfl)), cok.a5, cok.n0, cok.n10, cok.ok, cok.len, cok.re, fun es s8 hperm hsrt k8 hch => ?_⟩
    have hlt : c.es.Pairwise fun e f => ecode e < ecode f := by
      refine List.Pairwise.imp_of_mem (fun {e f} he hf h => ?_) cok.lt
      have r1 := cok.ok.rg e he
      have r2 := cok.ok.rg f hf
      exact lt_code h ⟨by omega, by omega⟩ ⟨by omega, by omega⟩
    have : es = c.es := sorted_uniq hlt hsrt hperm
    subst this
    have k78 : Sub s7 s8 := fun x o hx => by
      have hxq : x ≠ q8 := fun z => by rw [z, hq8] at hx; cases hx
      exact k8 _ _ hxq (kn _ _ hx)
    have k68 := k7.trans k78
    have tp8 := tp6.keep k68
    have lc8 : LawCh s8 (.ref p) c := ⟨p, d, rfl, k68 _ _ hp6, k68 _ _ hd6⟩
    have hb8 := k68 _ _ hb6
    refine ⟨rfl, ?_⟩
    refine ⟨.ref p, .ref q8, _, b, c, bad, own, rfl, ⟨lc8, cok, NSeq.lst hb8, NSeq.tup, bok⟩, hb8, hch, by omega, fun r9 l9 s9 ls9 k9 ae9 al9 => ?_⟩
    have st9 := ae9.st al9
    have tp9 := tp8.keep k9
    refine .inl ⟨rfl, ?_⟩
    rcases st9.alt with ⟨h0, h9⟩ | ⟨h0, o9, ms9, sn9, ho9, h9⟩
    · refine (oIx_lst h9).mpr ⟨_, rfl, .inl ⟨rfl, ?_⟩⟩
      exact ok_law_end tp9 (by omega) (lc8.sub k9) cok bok (k9 _ _ hb8) (hch.sub k9) st9 q
    · refine (oIx_lst h9).mpr ⟨_, rfl, .inr ⟨rfl, ?_⟩⟩
      refine ok_law_mid tp9 (by omega) (lc8.sub k9) cok bok (k9 _ _ hb8) (hch.sub k9) st9.lost st9.mem h0 sn9 ho9 h9 fun s10 v4 v8 v9 v10 v11 v12 v13 v14 k10 tp10 => ?_
      exact ok_law_end tp10 (by omega) ((lc8.sub k9).subp tp9 k10) cok bok (k10 _ _ (nats_ne tp8 hb8) (k9 _ _ hb8)) ((hch.sub k9).subp tp9 k10) (st9.subp tp9 k10) q
  simp [nV]
  by_cases hz0 : z = 0
  · refine .inl ⟨by omega, ?_⟩
    exact rest b bs s4 _ hbs (k3.trans k4) (tp4.mono (by omega)) (k4 _ _ hb3t h3)
  · refine .inr ⟨by omega, ?_⟩
    refine wLc_app.mpr ?_
    have h4 := k4 _ _ hb3t h3
    have hbsl : bs.length ≤ c.n := by
      have := hbs.length_le
      rwa [List.length_range] at this
    refine wISeq_val (x := .ref b) (fun Q h => by simpa using h) (seqOf_lst h4) (fun _ z => nomatch z) fun it hat => ?_
    refine LB.of (bs.map nV) (fun i s5 k5 => hat _ _ (seqOf_lst (k5 _ _ h4))) (by rw [List.length_map]; omega) (fun y => match y with | .int i => decide (0 < i) | _ => false) (fun y => y) ?_ ?_ ?_
    · intro y hy s5 k5
      obtain ⟨k, _, rfl⟩ := List.mem_map.mp hy
      refine ⟨_, by simp; rfl, fun Q1 h => ?_⟩
      have hq : Q1 (decide ((0 : Int) < (k : Nat))) s5 := h s5 (Sub.refl _)
      by_cases hk : (0 : Int) < (k : Nat)
      · simp only [hk, decide_true] at hq
        simp [nV]
        exact .inr ⟨by omega, hq⟩
      · simp only [hk, decide_false] at hq
        simp [nV]
        exact .inl ⟨by omega, hq⟩
    · intro y hy _ s5 k5 env3 he3 Q1 h
      obtain ⟨k, _, rfl⟩ := List.mem_map.mp hy
      simp at he3
      subst he3
      simpa using h s5 (Sub.refl _)
    · intro b5 s5 hb5 k5 h5
      have e5 : s5 b5 = some (.lst ((bs.filter fun k => decide ((0 : Int) < (k : Nat))).map nV)) := by
        rw [h5, List.filter_map, List.map_map]
        rfl
      exact rest b5 _ s5 _ ((List.filter_sublist).trans hbs) ((k3.trans k4).trans (SubP.of k5)) ((tp4.keep k5).mono (by omega)) e5
end Y
set_option Elab.async false
set_option linter.all false
set_option maxRecDepth 100000
set_option maxHeartbeats 4000000
set_option autoImplicit false
/-! the join: each def meets its contract -/
namespace Y
open PySem PySem.Spec PyProof.Rows L2
section
variable {P : Program} {w : World} {K : PySem.W.Frag} {mg : Str → Option Value} {base : Heap} {C_Chart C_Lost : Addr}
theorem fn_shortened (T : Txt K mg C_Chart C_Lost)  {f : Addr} {fd : FuncData} (F : Fun K "shortened" "shortened" s_shortened f fd) : FnOk P w K mg base (L2.CX P w) 1 f fd ["row"] (spP K 1 p_shortened) :=
  fn_p F sc_shortened rfl fun cdv A outer s H E hr tk => ⟨_, j_shortened T  hr tk, fun xs s0 Q0 E0 _ h => ok_shortened h⟩
theorem fn_reduced (T : Txt K mg C_Chart C_Lost) (c_shortened : CalP P w K mg base 1 "shortened" 1 p_shortened) {f : Addr} {fd : FuncData} (F : Fun K "reduced" "reduced" s_reduced f fd) : FnOk P w K mg base (L2.CX P w) 2 f fd ["row", "basis"] (spP K 2 p_reduced) :=
  fn_p F sc_reduced rfl fun cdv A outer s H E hr tk => ⟨_, j_reduced T c_shortened hr tk, fun xs s0 Q0 E0 _ h => ok_reduced h⟩
theorem fn_independent (T : Txt K mg C_Chart C_Lost) (c_reduced : CalP P w K mg base 2 "reduced" 2 p_reduced) {f : Addr} {fd : FuncData} (F : Fun K "independent" "independent" s_independent f fd) : FnOk P w K mg base (L2.CX P w) 3 f fd ["rows"] (spP K 1 p_independent) :=
  fn_p F sc_independent rfl fun cdv A outer s H E hr tk => ⟨_, j_independent T c_reduced hr tk, fun xs s0 Q0 E0 _ h => ok_independent h⟩
theorem fn_edge_table (T : Txt K mg C_Chart C_Lost)  {f : Addr} {fd : FuncData} (F : Fun K "edge_table" "edge_table" s_edge_table f fd) : FnOk P w K mg base (L2.CX P w) 1 f fd ["actions", "states", "edges"] (spP K 3 p_edge_table) :=
  fn_p F sc_edge_table rfl fun cdv A outer s H E hr tk => ⟨_, j_edge_table T  hr tk, fun xs s0 Q0 E0 _ h => ok_edge_table h⟩
theorem fn_find_trails (T : Txt K mg C_Chart C_Lost)  {f : Addr} {fd : FuncData} (F : Fun K "find_trails" "find_trails" s_find_trails f fd) : FnOk P w K mg base (L2.CX P w) 1 f fd ["states", "edges"] (spP K 2 p_find_trails) :=
  fn_p F sc_find_trails rfl fun cdv A outer s H E hr tk => ⟨_, j_find_trails T  hr tk, fun xs s0 Q0 E0 _ h => ok_find_trails h⟩
theorem fn_count (T : Txt K mg C_Chart C_Lost)  {f : Addr} {fd : FuncData} (F : Fun K "count" "count" s_count f fd) : FnOk P w K mg base (L2.CX P w) 1 f fd ["actions", "word"] (spP K 2 p_count) :=
  fn_p F sc_count rfl fun cdv A outer s H E hr tk => ⟨_, j_count T  hr tk, fun xs s0 Q0 E0 _ h => ok_count h⟩
theorem fn_round_row (T : Txt K mg C_Chart C_Lost)  {f : Addr} {fd : FuncData} (F : Fun K "round_row" "round_row" s_round_row f fd) : FnOk P w K mg base (L2.CX P w) 1 f fd ["points", "edge"] (spP K 2 p_round_row) :=
  fn_p F sc_round_row rfl fun cdv A outer s H E hr tk => ⟨_, j_round_row T  hr tk, fun xs s0 Q0 E0 _ h => ok_round_row h⟩
theorem fn_Chart___init__ (T : Txt K mg C_Chart C_Lost) (c_edge_table : CalP P w K mg base 1 "edge_table" 3 p_edge_table) (c_find_trails : CalP P w K mg base 1 "find_trails" 2 p_find_trails) (c_paths : CalP P w K mg base 1 "paths" 1 (p_paths C_Chart)) (c_count : CalP P w K mg base 1 "count" 2 p_count) (c_round_row : CalP P w K mg base 1 "round_row" 2 p_round_row) (c_independent : CalP P w K mg base 3 "independent" 1 p_independent) {f : Addr} {fd : FuncData} (F : Fun K "__init__" "Chart.__init__" s_Chart___init__ f fd) : FnOk P w K mg base (L2.CX P w) 4 f fd ["self", "actions", "states", "edges"] (spP K 4 (p_Chart___init__ C_Chart)) :=
  fn_p F sc_Chart___init__ rfl fun cdv A outer s H E hr tk => ⟨_, j_Chart___init__ T c_edge_table c_find_trails c_paths c_count c_round_row c_independent hr tk, fun xs s0 Q0 E0 _ h => ok_init h⟩
theorem fn_Chart_after (T : Txt K mg C_Chart C_Lost)  {f : Addr} {fd : FuncData} (F : Fun K "after" "Chart.after" s_Chart_after f fd) : FnOk P w K mg base (L2.CX P w) 1 f fd ["self", "state", "action"] (spP K 3 (p_Chart_after C_Chart)) :=
  fn_p F sc_Chart_after rfl fun cdv A outer s H E hr tk => ⟨_, j_Chart_after T  hr tk, fun xs s0 Q0 E0 _ h => ok_after h⟩
theorem fn_Chart_enabled (T : Txt K mg C_Chart C_Lost)  {f : Addr} {fd : FuncData} (F : Fun K "enabled" "Chart.enabled" s_Chart_enabled f fd) : FnOk P w K mg base (L2.CX P w) 1 f fd ["self", "state"] (spP K 2 (p_Chart_enabled C_Chart)) :=
  fn_p F sc_Chart_enabled rfl fun cdv A outer s H E hr tk => ⟨_, j_Chart_enabled T  hr tk, fun xs s0 Q0 E0 _ h => ok_enabled h⟩
theorem fn_paths (T : Txt K mg C_Chart C_Lost)  {f : Addr} {fd : FuncData} (F : Fun K "paths" "paths" s_paths f fd) : FnOk P w K mg base (L2.CX P w) 1 f fd ["chart"] (spP K 1 (p_paths C_Chart)) :=
  fn_p F sc_paths rfl fun cdv A outer s H E hr tk => ⟨_, j_paths T  hr tk, fun xs s0 Q0 E0 _ h => ok_paths h⟩
theorem fn_reached_by (T : Txt K mg C_Chart C_Lost)  {f : Addr} {fd : FuncData} (F : Fun K "reached_by" "reached_by" s_reached_by f fd) : FnOk P w K mg base (L2.CX P w) 1 f fd ["chart", "kept"] (spP K 2 (p_reached_by C_Chart)) :=
  fn_p F sc_reached_by rfl fun cdv A outer s H E hr tk => ⟨_, j_reached_by T  hr tk, fun xs s0 Q0 E0 _ h => ok_reached_by h⟩
theorem fn_part (T : Txt K mg C_Chart C_Lost) (c_reached_by : CalP P w K mg base 1 "reached_by" 2 (p_reached_by C_Chart)) (c_Chart : MakP P w K mg base 4 "Chart" C_Chart 4 (p_Chart___init__ C_Chart)) {f : Addr} {fd : FuncData} (F : Fun K "part" "part" s_part f fd) : FnOk P w K mg base (L2.CX P w) 6 f fd ["chart", "kept"] (spP K 2 (p_part C_Chart)) :=
  fn_p F sc_part rfl fun cdv A outer s H E hr tk => ⟨_, j_part T c_reached_by c_Chart hr tk, fun xs s0 Q0 E0 _ h => ok_part h⟩
theorem fn_lost_states (T : Txt K mg C_Chart C_Lost)  {f : Addr} {fd : FuncData} (F : Fun K "lost_states" "lost_states" s_lost_states f fd) : FnOk P w K mg base (L2.CX P w) 1 f fd ["chart", "bad", "own"] (spP K 3 (p_lost_states C_Chart)) :=
  fn_p F sc_lost_states rfl fun cdv A outer s H E hr tk => ⟨_, j_lost_states T  hr tk, fun xs s0 Q0 E0 _ h => ok_lost_states h⟩
theorem fn_lost_word (T : Txt K mg C_Chart C_Lost) (c_Chart_enabled : MetP P w K mg base 1 C_Chart "enabled" 2 (p_Chart_enabled C_Chart)) (c_Chart_after : MetP P w K mg base 1 C_Chart "after" 3 (p_Chart_after C_Chart)) {f : Addr} {fd : FuncData} (F : Fun K "lost_word" "lost_word" s_lost_word f fd) : FnOk P w K mg base (L2.CX P w) 2 f fd ["chart", "bad", "own"] (spP K 3 (p_lost_word C_Chart)) :=
  fn_p F sc_lost_word rfl fun cdv A outer s H E hr tk => ⟨_, j_lost_word T c_Chart_enabled c_Chart_after hr tk, fun xs s0 Q0 E0 _ h => ok_lost_word h⟩
theorem fn_safe_states (T : Txt K mg C_Chart C_Lost) (c_lost_states : CalP P w K mg base 1 "lost_states" 3 (p_lost_states C_Chart)) (c_lost_word : CalP P w K mg base 2 "lost_word" 3 (p_lost_word C_Chart)) (c_Lost : Rai P w K mg "Lost" C_Lost "word") {f : Addr} {fd : FuncData} (F : Fun K "safe_states" "safe_states" s_safe_states f fd) : FnOk P w K mg base (L2.CX P w) 3 f fd ["chart", "bad", "own"] (spP K 3 (p_safe_states C_Lost C_Chart)) :=
  fn_p F sc_safe_states rfl fun cdv A outer s H E hr tk => ⟨_, j_safe_states T c_lost_states c_lost_word c_Lost hr tk, fun xs s0 Q0 E0 _ h => ok_safe_states h⟩
theorem fn_safe_edges (T : Txt K mg C_Chart C_Lost) (c_safe_states : CalP P w K mg base 3 "safe_states" 3 (p_safe_states C_Lost C_Chart)) {f : Addr} {fd : FuncData} (F : Fun K "safe_edges" "safe_edges" s_safe_edges f fd) : FnOk P w K mg base (L2.CX P w) 4 f fd ["chart", "bad", "own"] (spP K 3 (p_safe_edges C_Lost C_Chart)) :=
  fn_p F sc_safe_edges rfl fun cdv A outer s H E hr tk => ⟨_, j_safe_edges T c_safe_states hr tk, fun xs s0 Q0 E0 _ h => ok_safe_edges h⟩
theorem fn_safe_chart (T : Txt K mg C_Chart C_Lost) (c_part : CalP P w K mg base 6 "part" 2 (p_part C_Chart)) (c_safe_edges : CalP P w K mg base 4 "safe_edges" 3 (p_safe_edges C_Lost C_Chart)) {f : Addr} {fd : FuncData} (F : Fun K "safe_chart" "safe_chart" s_safe_chart f fd) : FnOk P w K mg base (L2.CX P w) 7 f fd ["chart", "bad", "own"] (spP K 3 (p_safe_chart C_Lost C_Chart)) :=
  fn_p F sc_safe_chart rfl fun cdv A outer s H E hr tk => ⟨_, j_safe_chart T c_part c_safe_edges hr tk, fun xs s0 Q0 E0 _ h => ok_safe_chart h⟩
theorem fn__law_mixed (T : Txt K mg C_Chart C_Lost)  {f : Addr} {fd : FuncData} (F : Fun K "_law_mixed" "_law_mixed" s__law_mixed f fd) : FnOk P w K mg base (L2.CX P w) 1 f fd ["number", "k"] (spP K 2 p__law_mixed) :=
  fn_p F sc__law_mixed rfl fun cdv A outer s H E hr tk => ⟨_, j__law_mixed T  hr tk, fun xs s0 Q0 E0 _ h => ok_mixed h⟩
theorem fn__law_take (T : Txt K mg C_Chart C_Lost) (c__law_mixed : CalP P w K mg base 1 "_law_mixed" 2 p__law_mixed) {f : Addr} {fd : FuncData} (F : Fun K "_law_take" "_law_take" s__law_take f fd) : FnOk P w K mg base (L2.CX P w) 2 f fd ["tape", "limit"] (spP K 2 p__law_take) :=
  fn_p F sc__law_take rfl fun cdv A outer s H E hr tk => ⟨_, j__law_take T c__law_mixed hr tk, fun xs s0 Q0 E0 _ h => ok_take h⟩
theorem fn__law_place (T : Txt K mg C_Chart C_Lost)  {f : Addr} {fd : FuncData} (F : Fun K "_law_place" "_law_place" s__law_place f fd) : FnOk P w K mg base (L2.CX P w) 1 f fd ["used", "source", "action", "states", "actions"] (spP K 5 p__law_place) :=
  fn_p F sc__law_place rfl fun cdv A outer s H E hr tk => ⟨_, j__law_place T  hr tk, fun xs s0 Q0 E0 _ h => ok_place h⟩
theorem fn__law_edges (T : Txt K mg C_Chart C_Lost) (c__law_take : CalP P w K mg base 2 "_law_take" 2 p__law_take) (c__law_place : CalP P w K mg base 1 "_law_place" 5 p__law_place) {f : Addr} {fd : FuncData} (F : Fun K "_law_edges" "_law_edges" s__law_edges f fd) : FnOk P w K mg base (L2.CX P w) 3 f fd ["tape", "actions", "states"] (spP K 3 p__law_edges) :=
  fn_p F sc__law_edges rfl fun cdv A outer s H E hr tk => ⟨_, j__law_edges T c__law_take c__law_place hr tk, fun xs s0 Q0 E0 _ h => ok_edges h⟩
theorem fn__law_chart (T : Txt K mg C_Chart C_Lost) (c__law_take : CalP P w K mg base 2 "_law_take" 2 p__law_take) (c__law_edges : CalP P w K mg base 3 "_law_edges" 3 p__law_edges) {f : Addr} {fd : FuncData} (F : Fun K "_law_chart" "_law_chart" s__law_chart f fd) : FnOk P w K mg base (L2.CX P w) 4 f fd ["tape"] (spP K 1 p__law_chart) :=
  fn_p F sc__law_chart rfl fun cdv A outer s H E hr tk => ⟨_, j__law_chart T c__law_take c__law_edges hr tk, fun xs s0 Q0 E0 _ h => ok_chart h⟩
theorem fn__law_same {k d : Nat} (T : Txt K mg C_Chart C_Lost) (c__law_same : CalP P w K mg base k "_law_same" 2 (p__law_same d)) {f : Addr} {fd : FuncData} (F : Fun K "_law_same" "_law_same" s__law_same f fd) : FnOk P w K mg base (L2.CX P w) (k + 1) f fd ["told", "due"] (spP K 2 (p__law_same (d + 1))) :=
  fn_p F sc__law_same rfl fun cdv A outer s H E hr tk => ⟨_, j__law_same T c__law_same hr tk, fun xs s0 Q0 E0 _ h => ok_same h⟩
theorem fn__law_bad (T : Txt K mg C_Chart C_Lost) (c__law_take : CalP P w K mg base 2 "_law_take" 2 p__law_take) {f : Addr} {fd : FuncData} (F : Fun K "_law_bad" "_law_bad" s__law_bad f fd) : FnOk P w K mg base (L2.CX P w) 3 f fd ["tape", "states"] (spP K 2 p__law_bad) :=
  fn_p F sc__law_bad rfl fun cdv A outer s H E hr tk => ⟨_, j__law_bad T c__law_take hr tk, fun xs s0 Q0 E0 _ h => ok_bad h⟩
theorem fn__law_own (T : Txt K mg C_Chart C_Lost) (c__law_take : CalP P w K mg base 2 "_law_take" 2 p__law_take) {f : Addr} {fd : FuncData} (F : Fun K "_law_own" "_law_own" s__law_own f fd) : FnOk P w K mg base (L2.CX P w) 3 f fd ["tape", "actions"] (spP K 2 p__law_own) :=
  fn_p F sc__law_own rfl fun cdv A outer s H E hr tk => ⟨_, j__law_own T c__law_take hr tk, fun xs s0 Q0 E0 _ h => ok_own h⟩
theorem fn__law_lost (T : Txt K mg C_Chart C_Lost)  {f : Addr} {fd : FuncData} (F : Fun K "_law_lost" "_law_lost" s__law_lost f fd) : FnOk P w K mg base (L2.CX P w) 1 f fd ["chart", "bad", "own"] (spP K 3 p__law_lost) :=
  fn_p F sc__law_lost rfl fun cdv A outer s H E hr tk => ⟨_, j__law_lost T  hr tk, fun xs s0 Q0 E0 _ h => ok_law_lost h⟩
theorem fn__law_lost_word (T : Txt K mg C_Chart C_Lost)  {f : Addr} {fd : FuncData} (F : Fun K "_law_lost_word" "_law_lost_word" s__law_lost_word f fd) : FnOk P w K mg base (L2.CX P w) 1 f fd ["chart", "bad", "own"] (spP K 3 p__law_lost_word) :=
  fn_p F sc__law_lost_word rfl fun cdv A outer s H E hr tk => ⟨_, j__law_lost_word T  hr tk, fun xs s0 Q0 E0 _ h => ok_law_lost_word h⟩
theorem fn__law_safe (T : Txt K mg C_Chart C_Lost)  {f : Addr} {fd : FuncData} (F : Fun K "_law_safe" "_law_safe" s__law_safe f fd) : FnOk P w K mg base (L2.CX P w) 1 f fd ["chart", "lost"] (spP K 2 p__law_safe) :=
  fn_p F sc__law_safe rfl fun cdv A outer s H E hr tk => ⟨_, j__law_safe T  hr tk, fun xs s0 Q0 E0 _ h => ok_law_safe h⟩
theorem fn__law_between (T : Txt K mg C_Chart C_Lost)  {f : Addr} {fd : FuncData} (F : Fun K "_law_between" "_law_between" s__law_between f fd) : FnOk P w K mg base (L2.CX P w) 1 f fd ["chart", "states"] (spP K 2 p__law_between) :=
  fn_p F sc__law_between rfl fun cdv A outer s H E hr tk => ⟨_, j__law_between T  hr tk, fun xs s0 Q0 E0 _ h => ok_law_between h⟩
theorem fn__law_part (T : Txt K mg C_Chart C_Lost)  {f : Addr} {fd : FuncData} (F : Fun K "_law_part" "_law_part" s__law_part f fd) : FnOk P w K mg base (L2.CX P w) 1 f fd ["chart", "states", "kept"] (spP K 3 p__law_part) :=
  fn_p F sc__law_part rfl fun cdv A outer s H E hr tk => ⟨_, j__law_part T  hr tk, fun xs s0 Q0 E0 _ h => ok_law_part h⟩
theorem fn__law_same_chart (T : Txt K mg C_Chart C_Lost) (c__law_same : CalP P w K mg base 4 "_law_same" 2 (p__law_same 4)) {f : Addr} {fd : FuncData} (F : Fun K "_law_same_chart" "_law_same_chart" s__law_same_chart f fd) : FnOk P w K mg base (L2.CX P w) 5 f fd ["told", "chart"] (spP K 2 (p__law_same_chart C_Chart)) :=
  fn_p F sc__law_same_chart rfl fun cdv A outer s H E hr tk => ⟨_, j__law_same_chart T c__law_same hr tk, fun xs s0 Q0 E0 _ h => ok_same_chart h⟩
theorem fn__law_refused (T : Txt K mg C_Chart C_Lost) (c_safe_edges : CalP P w K mg base 4 "safe_edges" 3 (p_safe_edges C_Lost C_Chart)) (c_safe_chart : CalP P w K mg base 7 "safe_chart" 3 (p_safe_chart C_Lost C_Chart)) {f : Addr} {fd : FuncData} (F : Fun K "_law_refused" "_law_refused" s__law_refused f fd) : FnOk P w K mg base (L2.CX P w) 8 f fd ["plain", "bad", "own", "which"] (spP K 4 (p__law_refused C_Lost C_Chart)) :=
  fn_p F sc__law_refused rfl fun cdv A outer s H E hr tk => ⟨_, j__law_refused T c_safe_edges c_safe_chart hr tk, fun xs s0 Q0 E0 _ h => ok_refused h⟩
theorem fn__law_closed (T : Txt K mg C_Chart C_Lost) (c__law_take : CalP P w K mg base 2 "_law_take" 2 p__law_take) {f : Addr} {fd : FuncData} (F : Fun K "_law_closed" "_law_closed" s__law_closed f fd) : FnOk P w K mg base (L2.CX P w) 3 f fd ["tape", "chart", "own", "lost", "share"] (spP K 5 p__law_closed) :=
  fn_p F sc__law_closed rfl fun cdv A outer s H E hr tk => ⟨_, j__law_closed T c__law_take hr tk, fun xs s0 Q0 E0 _ h => ok_closed h⟩
theorem fn__law_falls (T : Txt K mg C_Chart C_Lost)  {f : Addr} {fd : FuncData} (F : Fun K "_law_falls" "_law_falls" s__law_falls f fd) : FnOk P w K mg base (L2.CX P w) 1 f fd ["chart", "bad", "own", "state"] (spP K 4 p__law_falls) :=
  fn_p F sc__law_falls rfl fun cdv A outer s H E hr tk => ⟨_, j__law_falls T  hr tk, fun xs s0 Q0 E0 _ h => ok_law_falls h⟩
theorem fn__law_sets (T : Txt K mg C_Chart C_Lost) (c__law_closed : CalP P w K mg base 3 "_law_closed" 5 p__law_closed) (c__law_same_chart : CalP P w K mg base 5 "_law_same_chart" 2 (p__law_same_chart C_Chart)) (c_part : CalP P w K mg base 6 "part" 2 (p_part C_Chart)) (c__law_part : CalP P w K mg base 1 "_law_part" 3 p__law_part) {f : Addr} {fd : FuncData} (F : Fun K "_law_sets" "_law_sets" s__law_sets f fd) : FnOk P w K mg base (L2.CX P w) 7 f fd ["tape", "chart", "plain", "bad", "own", "lost", "edges"] (spP K 7 (p__law_sets C_Chart)) :=
  fn_p F sc__law_sets rfl fun cdv A outer s H E hr tk => ⟨_, j__law_sets T c__law_closed c__law_same_chart c_part c__law_part hr tk, fun xs s0 Q0 E0 _ h => ok_sets h⟩
theorem fn__law_asked (T : Txt K mg C_Chart C_Lost) (c__law_lost : CalP P w K mg base 1 "_law_lost" 3 p__law_lost) (c_lost_states : CalP P w K mg base 1 "lost_states" 3 (p_lost_states C_Chart)) (c__law_same : CalP P w K mg base 4 "_law_same" 2 (p__law_same 4)) (c__law_lost_word : CalP P w K mg base 1 "_law_lost_word" 3 p__law_lost_word) (c__law_refused : CalP P w K mg base 8 "_law_refused" 4 (p__law_refused C_Lost C_Chart)) (c__law_safe : CalP P w K mg base 1 "_law_safe" 2 p__law_safe) (c__law_between : CalP P w K mg base 1 "_law_between" 2 p__law_between) (c_safe_edges : CalP P w K mg base 4 "safe_edges" 3 (p_safe_edges C_Lost C_Chart)) (c__law_same_chart : CalP P w K mg base 5 "_law_same_chart" 2 (p__law_same_chart C_Chart)) (c_safe_chart : CalP P w K mg base 7 "safe_chart" 3 (p_safe_chart C_Lost C_Chart)) (c__law_part : CalP P w K mg base 1 "_law_part" 3 p__law_part) (c_part : CalP P w K mg base 6 "part" 2 (p_part C_Chart)) {f : Addr} {fd : FuncData} (F : Fun K "_law_asked" "_law_asked" s__law_asked f fd) : FnOk P w K mg base (L2.CX P w) 9 f fd ["chart", "plain", "bad", "own"] (spP K 4 (p__law_asked C_Chart)) :=
  fn_p F sc__law_asked rfl fun cdv A outer s H E hr tk => ⟨_, j__law_asked T c__law_lost c_lost_states c__law_same c__law_lost_word c__law_refused c__law_safe c__law_between c_safe_edges c__law_same_chart c_safe_chart c__law_part c_part hr tk, fun xs s0 Q0 E0 _ h => ok_asked h⟩
theorem fn_law (T : Txt K mg C_Chart C_Lost) (c__law_chart : CalP P w K mg base 4 "_law_chart" 1 p__law_chart) (c__law_bad : CalP P w K mg base 3 "_law_bad" 2 p__law_bad) (c__law_take : CalP P w K mg base 2 "_law_take" 2 p__law_take) (c__law_own : CalP P w K mg base 3 "_law_own" 2 p__law_own) (c_Chart : MakP P w K mg base 4 "Chart" C_Chart 4 (p_Chart___init__ C_Chart)) (c__law_asked : CalP P w K mg base 9 "_law_asked" 4 (p__law_asked C_Chart)) (c__law_safe : CalP P w K mg base 1 "_law_safe" 2 p__law_safe) (c__law_falls : CalP P w K mg base 1 "_law_falls" 4 p__law_falls) (c__law_sets : CalP P w K mg base 7 "_law_sets" 7 (p__law_sets C_Chart)) (c_safe_chart : CalP P w K mg base 7 "safe_chart" 3 (p_safe_chart C_Lost C_Chart)) (c__law_same : CalP P w K mg base 4 "_law_same" 2 (p__law_same 4)) (c_safe_edges : CalP P w K mg base 4 "safe_edges" 3 (p_safe_edges C_Lost C_Chart)) {f : Addr} {fd : FuncData} (F : Fun K "law" "law" s_law f fd) : FnOk P w K mg base (L2.CX P w) 10 f fd ["script"] (spP K 1 p_law) :=
  fn_p F sc_law rfl fun cdv A outer s H E hr tk => ⟨_, j_law T c__law_chart c__law_bad c__law_take c__law_own c_Chart c__law_asked c__law_safe c__law_falls c__law_sets c_safe_chart c__law_same c_safe_edges hr tk, fun xs s0 Q0 E0 _ h => ok_law h⟩
end
end Y
set_option Elab.async false
set_option linter.all false
set_option maxRecDepth 100000
set_option maxHeartbeats 4000000
set_option autoImplicit false
/-! Y: the head: what the top leaves, as truth values of a part of the heap; the law's call. -/
namespace Y
open PySem PySem.Spec PyProof.Rows L2
abbrev KB := PySem.W.Frag → Bool
/-- __init__ of an own exception class that calls super().__init__ -/
structure DefC where
  cls : Str
  qual : Str
  st : Stmt
abbrev FnC : Type := Option (Str × Str × Arguments × FuncBody × Scope × Addr × List Str × Addr)
def adC (K : PySem.W.Frag) (x : Str) : Addr := He.ma K (He.ga K x) "__init__"
def fnC (K : PySem.W.Frag) (x : Str) : FnC := match K.lookup (adC K x) with
  | some ⟨_, _, .func fd, _⟩ => some (fd.name, fd.qualname, fd.params, fd.body, fd.scope, fd.globals, fd.closure.map (·.1), fd.builtins)
  | _ => none
def DefC.val (d : DefC) : FnC := some ("__init__", d.qual, defArgs d.st, .stmts (defBody d.st), defScope d.st, mainGlobals, ["__class__"], builtinsNs)
abbrev AlB : Type := Bool × List He.FnW × List FnC
def obsB (fb : List KB) (fn : List He.DefD) (fc : List DefC) (K : PySem.W.Frag) : AlB := (fb.all (fun f => f K) && fn.all (fun d => d.ok K), fn.map (fun d => He.fnW K d.at_), fc.map fun d => fnC K d.cls)
def valB (fn : List He.DefD) (fc : List DefC) : AlB := (true, fn.map He.DefD.val, fc.map DefC.val)
def SaysB (fb : List KB) (fn : List He.DefD) (fc : List DefC) (K : PySem.W.Frag) : Prop := obsB fb fn fc K = valB fn fc
def asB (g : Addr → Option Obj) (n : Nat) : List Addr := He.asD g n ++ [cStatics]
def obsBG (n : Nat) (fb : List KB) (fn : List He.DefD) (fc : List DefC) (g : Addr → Option Obj) : AlB := obsB fb fn fc (He.frG g (asB g n))
def hookB (n : Nat) (fb : List KB) (fn : List He.DefD) (fc : List DefC) : PySem.W.Hook where
  α := AlB
  obs := fun s => obsBG n fb fn fc s.heap.get?
  val := fun _ => valB fn fc
  says := fun _ h => ∃ K : PySem.W.Frag, K.In h ∧ SaysB fb fn fc K
  of := fun _ _ e => ⟨_, He.frG_in, e⟩
  keeps := fun _ _ _ ⟨K, hK, c⟩ k => ⟨K, PySem.W.Frag.In.keeps hK k, c⟩
theorem obsBG_eq {n : Nat} {fb : List KB} {fn : List He.DefD} {fc : List DefC} {g : Addr → Option Obj} {s : Shared} (h : ∀ a, g a = s.heap.get? a) : obsBG n fb fn fc g = (hookB n fb fn fc).obs s := by
  obtain rfl : g = s.heap.get? := funext h
  rfl
section
variable {fb : List KB} {fn : List He.DefD} {fc : List DefC} {K : PySem.W.Frag}
theorem SaysB.fact (c : SaysB fb fn fc K) (i : Nat) {f : KB} (h : fb[i]? = some f := by rfl) : f K = true :=
  List.all_eq_true.mp (He.ba (congrArg (fun z : AlB => z.1) c)).1 f (List.mem_of_getElem? h)
theorem SaysB.def_ (c : SaysB fb fn fc K) (i : Nat) {d : He.DefD} (h : fn[i]? = some d := by rfl) : ∃ fd, FunD K d.name d.qual d.params d.body d.scope (d.dvs K) (d.kws K) (He.fAd K d.at_) fd := by
  have c2 := (He.ba (congrArg (fun z : AlB => z.1) c)).2
  have e : fn.map (fun d => He.fnW K d.at_) = fn.map He.DefD.val := congrArg (fun z : AlB => z.2.1) c
  have q : (fn.map fun d => He.fnW K d.at_)[i]? = (fn.map He.DefD.val)[i]? := congrArg (fun z => z[i]?) e
  simp only [List.getElem?_map, h, Option.map_some, Option.some.injEq] at q
  exact He.DefD.funD q (List.all_eq_true.mp c2 d (List.mem_of_getElem? h))
theorem SaysB.exc (c : SaysB fb fn fc K) (i : Nat) {d : DefC} (h : fc[i]? = some d := by rfl) : fnC K d.cls = d.val := by
  have e : fc.map (fun d => fnC K d.cls) = fc.map DefC.val := congrArg (fun z : AlB => z.2.2) c
  have q : (fc.map fun d => fnC K d.cls)[i]? = (fc.map DefC.val)[i]? := congrArg (fun z => z[i]?) e
  simpa only [List.getElem?_map, h, Option.map_some, Option.some.injEq] using q
end
/-! ### facts -/
def bFa (f : He.Fa) : KB := fun K => f.ok K
def bBlt (x : Str) (b : String) : KB := fun K => He.eqO (PySem.W.nsIn K mainGlobals x) (some (some (.builtin b)))
theorem blt_ok {K : PySem.W.Frag} {h : Heap} {mg : Str → Option Value} (X : K.In h) (G : h.Ns mainGlobals mg) {x : Str} {b : String} (c : bBlt x b K = true) : mg x = some (.builtin b) := PySem.W.mg_of X G (He.eqO_ok c)
/-- C.f is an int of the class -/
def bCv (x f : Str) (i : Int) : KB := fun K => PySem.W.readsIn K (He.ga K x) (.type "type") && (He.eqO (PySem.W.specialIn K (.ref (He.ga K x)) "__getattribute__") (some (some (.builtin "type.__getattribute__"))) &&
  (match PySem.W.findCls K (.ref (He.ga K x)) (.type "type") f with
  | some (.val (.int j _)) => decide (j = i)
  | _ => false))
theorem cv_ok {K : PySem.W.Frag} {x f : Str} {i : Int} (c : bCv x f i K = true) : ∃ mc u, ClX.CRead K (He.ga K x) mc ∧ ClX.CVal K (He.ga K x) mc f (.int i) u := by
  obtain ⟨c1, c⟩ := He.ba c
  obtain ⟨c2, c3⟩ := He.ba c
  split at c3
  · rename_i j t e
    have : j = i := of_decide_eq_true c3
    subst this
    exact ⟨_, _, ⟨c1, He.eqO_ok c2⟩, ⟨e, ⟨t, rfl⟩⟩⟩
  · cases c3
/-- except C as n: n.f -/
def bEx (x f : Str) : KB := fun K => He.eqO (PySem.W.findIn K (.ref (He.ga K x)) "__getattribute__") (some (some (.builtin "BaseException.__getattribute__"))) && (He.eqO (PySem.W.findIn K (.ref (He.ga K x)) "__getattr__") (some none) &&
  (decide (PySem.W.subIn K (.ref (He.ga K x)) (.type "BaseException") = some true) && (PySem.W.hasDictIn K (He.ga K x) && (He.eqO (PySem.W.findIn K (.ref (He.ga K x)) f) (some none) && decide (PySem.W.exmOne K (.ref (He.ga K x)) (.ref (He.ga K x)) = some true)))))
theorem ex_ok {K : PySem.W.Frag} {x f : Str} (c : bEx x f K = true) : ExF K (He.ga K x) f := by
  obtain ⟨c1, c⟩ := He.ba c
  obtain ⟨c2, c⟩ := He.ba c
  obtain ⟨c3, c⟩ := He.ba c
  obtain ⟨c4, c⟩ := He.ba c
  obtain ⟨c5, c6⟩ := He.ba c
  exact ⟨He.eqO_ok c1, He.eqO_ok c2, of_decide_eq_true c3, c4, He.eqO_ok c5, of_decide_eq_true c6⟩
/-- the class x may be raised; its __init__ stores f -/
def bSup (prog : Program) (x qual f : Str) : KB := fun K =>
  (PySem.W.excInitIn K (He.ga K x) mroVE "ValueError.__new__" && ((PySem.W.clsIn K (He.ga K x)).any (fun cd => HandSPX.refsVE cd.mro && cd.hasDict) && (He.eqO (PySem.W.findIn K (.ref (He.ga K x)) "__setattr__") (some (some (.builtin "object.__setattr__"))) &&
  (He.eqO (PySem.W.findIn K (.ref (He.ga K x)) f) (some none) && (He.eqO (PySem.W.findIn K (.ref (He.ga K x)) "__init__") (some (some (.ref (adC K x)))) && (decide (PySem.W.typeIn K (.ref (adC K x)) = some (.type "function")) &&
  (He.eqO (PySem.W.ks_superIn K (He.ga K x) (He.ga K x) "__init__") (some (some (.builtin "ValueError.__init__"))) && (decide (PySem.W.subIn K (.ref (He.ga K x)) (.type "ValueError") = some true) && (decide (PySem.W.mroIn K (He.ga K x) (.ref (He.ga K x)) = some true) &&
  (He.eqO (PySem.W.nsIn K cStatics "thirdparty.any") (some none) && !(prog.main.scope.names.lookup ("super" : Str)).isSome)))))))))) &&
  ((match K.lookup (adC K x) with
  | some ⟨_, _, .func fd, _⟩ => (match fd.defaults, fd.kwdefaults, fd.code, fd.closure with
    | .none, .none, .ref cda, [(_, cc)] => PySem.W.codeIn K (.ref cda) qual && ((match K.lookup cda with
      | some ⟨_, _, .fields vs, _⟩ => (match vs[2]? with
        | some (Value.str file _) => (prog.main.file : Str) == file
        | _ => false)
      | _ => false) && (match K.lookup cc with
      | some ⟨_, _, .cell (some (.ref C)), _⟩ => decide (C = He.ga K x)
      | _ => false))
    | _, _, _, _ => false)
  | _ => false) &&
  (PySem.W.keepIn K (.ref (He.ga K x)) && (decide (PySem.W.subIn K (.ref (He.ga K x)) (.type "BaseException") = some true) && decide (PySem.W.typeIn K (.ref (He.ga K x)) = some (.type "type")))))
theorem sup_ok {prog : Program} {K : PySem.W.Frag} {x qual f a : Str} {st : Stmt} {e : Expr} (c : bSup prog x qual f K = true) (h : fnC K x = DefC.val ⟨x, qual, st⟩) : Sup prog K (He.ga K x) (adC K x) qual st f a e := by
  obtain ⟨c0, c⟩ := He.ba c
  obtain ⟨cf, _⟩ := He.ba c
  obtain ⟨c1, c0⟩ := He.ba c0
  obtain ⟨c2, c0⟩ := He.ba c0
  obtain ⟨c3, c0⟩ := He.ba c0
  obtain ⟨c4, c0⟩ := He.ba c0
  obtain ⟨c5, c0⟩ := He.ba c0
  obtain ⟨c6, c0⟩ := He.ba c0
  obtain ⟨c7, c0⟩ := He.ba c0
  obtain ⟨c8, c0⟩ := He.ba c0
  obtain ⟨c9, c0⟩ := He.ba c0
  obtain ⟨c10, c11⟩ := He.ba c0
  refine ⟨c1, ?_, He.eqO_ok c3, He.eqO_ok c4, He.eqO_ok c5, of_decide_eq_true c6, He.eqO_ok c7, of_decide_eq_true c8, of_decide_eq_true c9, He.eqO_ok c10, by simpa using c11, ?_⟩
  · cases q : PySem.W.clsIn K (He.ga K x) with
    | none => rw [q] at c2; cases c2
    | some cd =>
      rw [q] at c2
      obtain ⟨d1, d2⟩ := He.ba (show (HandSPX.refsVE cd.mro && cd.hasDict) = true from c2)
      exact ⟨cd, rfl, d1, d2⟩
  · unfold fnC at h
    cases q : K.lookup (adC K x) with
    | none => rw [q] at cf; cases cf
    | some o =>
      obtain ⟨oc, od, dt, osl⟩ := o
      rw [q] at cf h
      cases dt with
      | func fd =>
        obtain ⟨n1, n2, n3, n4, n5, n6, n7, n8, n9, n10, n11, n12, n13, n14, n15⟩ := fd
        have h2 : (some (n1, n2, n3, n4, n5, n6, n7.map (·.1), n15) : FnC) = some (("__init__" : Str), qual, defArgs st, FuncBody.stmts (defBody st), defScope st, mainGlobals, [("__class__" : Str)], builtinsNs) := h
        simp only [Option.some.injEq, Prod.mk.injEq] at h2
        obtain ⟨rfl, rfl, rfl, rfl, rfl, rfl, h7, rfl⟩ := h2
        dsimp only at cf
        split at cf
        · rename_i cda _ cc
          obtain ⟨d1, cf⟩ := He.ba cf
          obtain ⟨d2, d3⟩ := He.ba cf
          have e7 : _ = ("__class__" : Str) := (List.cons.inj (show [_] = [("__class__" : Str)] from h7)).1
          subst e7
          refine ⟨oc, od, _, _, _, cda, cc, _, osl, rfl, d1, ?_, ?_⟩
          · split at d2
            · rename_i ccl cdd vs ccs e1
              split at d2
              · rename_i file tf e2
                exact ⟨ccl, cdd, vs, ccs, file, tf, e1, e2, d2⟩
              · cases d2
            · cases d2
          · split at d3
            · rename_i cl cld C csl e1
              have : C = He.ga K x := of_decide_eq_true d3
              subst this
              exact ⟨cl, cld, csl, e1⟩
            · cases d3
        · cases cf
      | _ => cases cf
theorem supC_ok {prog : Program} {K : PySem.W.Frag} {h : Heap} {mg : Str → Option Value} (X : K.In h) (G : h.Ns mainGlobals mg) {x qual f : Str} (c : bSup prog x qual f K = true) (g : bFa (.glo x) K = true) (s : bFa (.free "super") K = true) : SupC K mg x (He.ga K x) := by
  obtain ⟨_, c⟩ := He.ba c
  obtain ⟨_, c⟩ := He.ba c
  obtain ⟨c1, c⟩ := He.ba c
  obtain ⟨c2, c3⟩ := He.ba c
  exact ⟨He.glo_ok X G g, c1, of_decide_eq_true c2, of_decide_eq_true c3, He.free_ok X G s⟩
/-! ### calls, methods, classes by their facts -/
section
variable {P : Program} {w : World} {K : PySem.W.Frag} {mg : Str → Option Value} {base : Heap} {h : Heap}
theorem calP_of (X : K.In h) (G : h.Ns mainGlobals mg) {x : Str} {k n : Nat} {p : PT} {fd : FuncData} {ps : List Str} (hl : ps.length = n) (F : FnOk P w K mg base (L2.CX P w) k (He.fAd K (x, none)) fd ps (spP K n p)) (g : bFa (.glo x) K = true)
    (kp : PySem.W.keepIn K (.ref (He.fAd K (x, none))) = true) (b : Binds K fd ps []) : CalP P w K mg base k x n p := ⟨_, fd, ps, hl, F, He.glo_ok X G g, kp, b⟩
theorem metP_of {x m : Str} {k n : Nat} {p : PT} {fd : FuncData} {ps : List Str} (hl : ps.length = n) (F : FnOk P w K mg base (L2.CX P w) k (He.fAd K (x, some m)) fd ps (spP K n p)) (g : bFa (.meth x m) K = true)
    (b : Binds K fd ps []) : MetP P w K mg base k (He.ga K x) m n p := ⟨_, fd, ps, hl, F, He.meth_ok g, b⟩
theorem makP_of (X : K.In h) (G : h.Ns mainGlobals mg) {x : Str} {k n : Nat} {p : PT} {fd : FuncData} {ps : List Str} (hl : ps.length = n) (F : FnOk P w K mg base (L2.CX P w) k (He.fAd K (x, some "__init__")) fd ps (spP K n p)) (g : bFa (.glo x) K = true)
    (mk : bFa (.mkr x) K = true) (b : Binds K fd ps []) : MakP P w K mg base k x (He.ga K x) n p := ⟨_, fd, ps, hl, F, He.glo_ok X G g, He.mkr_ok mk, b⟩
/-- a promise that nobody can ask for -/
theorem fn_zero {k : Nat} {f : Addr} {fd : FuncData} {ps : List Str} {n : Nat} {p : PT} (hp : ∀ xs s Q E, ¬ p xs s Q E) : FnOk P w K mg base (L2.CX P w) k f fd ps (spP K n p) :=
  ⟨fun vs H Q E h => by obtain ⟨_, xs, s, Q0, E0, _, _, h, _⟩ := h; exact absurd h (hp _ _ _ _), fun A outer s H args us vs Q E _ _ _ _ h => by obtain ⟨_, xs, s, Q0, E0, _, _, h, _⟩ := h; exact absurd h (hp _ _ _ _)⟩
/-- the argument of super().__init__ -/
def supArg (st : Stmt) : Expr := match defBody st with
  | .Expr (.Call _ [e] _ _) _ :: _ => e
  | _ => .Constant .none 0 ⟨0, 0, 0, 0⟩
end
/-! ### the law's call -/
theorem walkY {l : PySem.W.OpenLaw} {k : Nat} {q : Program} {loose : List Str} {XP : (Str → Option Value) → Heap → Prop} {YP : World → Heap → Prop} {d : DefRec} {x : Str} {p : PT} (hn : l.most = some 63) (hdf : d.params.defaults = []) (hr : Room k callerA)
    (hp : ∀ (ns : List Int) (s : Store), ns.length ≤ 63 → (∀ z ∈ ns, Builtin.Int.intBits z ≤ 1048576) → p [.scr (ns.map .int)] s (fun v _ => v = .bl true) fun _ _ => False)
    (F : ∀ (w : World) (mg : Str → Option Value) (fa : Addr) (h : Heap), YP w h → h.Ns mainGlobals mg → mg d.name = some (.ref fa) → ∃ (K : PySem.W.Frag) (fd : FuncData), K.In h ∧ (∀ (s : Shared) (u : Value), BindsTo s fd ⟨[u], []⟩ [(x, u)]) ∧
      ∀ base : Heap, K.In base → base.Ns mainGlobals mg → FnOk l.prog w K mg base (L2.CX l.prog w) k fa fd [x] (spP K 1 p)) :
    PySem.W.WalkO q loose XP YP l.row.toRowW d [] (fun f vs => PySem.call f vs) :=
  Att.attach_callB hn hdf fun w s₀ s₁ mg mb fa o pm cd doc a vs ns G Y _ _ _ hm hobj hints hlen hbits hg => by
    obtain ⟨K, fd, KX, hb, hF⟩ := F w mg fa _ Y G.T.g hm
    refine law_call KX G.T.g G.T.b G.T.builtins G.T.nolimit hg hobj hints (Nat.le_trans hlen (by decide)) hr hF hb (fun H hO hS => ?_) fun H e s' => ?_
    · refine ⟨rfl, [.scr (ns.map .int)], fun _ => none, _, _, RVs.cons ?_ RVs.nil, (fun _ _ z => nomatch z), hp ns _ hlen hbits, ?_, fun _ _ z => z.elim⟩
      · rw [RV]
        refine ⟨a, _, rfl, ?_, RVs.of_ints ns⟩
        rcases hS with (hS | hS) | hS
        · rcases hO a with z | ⟨o, xs, z⟩ <;> rw [z] at hS <;> cases hS
        · exact .inl hS
        · exact .inr hS
      · rintro v s' rfl H' u _ _ rv
        rw [RV] at rv
        exact rv
    · rintro ⟨_, _, _, _, _, _, _, _, _, _, _, _, z⟩
      exact z
end Y
set_option Elab.async false
set_option linter.all false
set_option maxRecDepth 100000
set_option maxHeartbeats 4000000
set_option autoImplicit false
/-! what the top leaves; all defs joined -/
namespace Y
open PySem PySem.Spec PyProof.Rows L2
abbrev sx_Lost : Stmt := (inClass (top 7) 0)
theorem sst_Lost : SupSt sx_Lost "word" "word" ((supArg sx_Lost)) where
  body := ⟨_, _, _, _, _, _, _, _, _, rfl, fun env => ⟨_, rfl⟩, fun env => rfl⟩
  first := ⟨_, rfl, rfl⟩
  bind := fun _ _ _ _ _ _ _ _ _ => rfl
  star := fun _ => rfl
  nself := by decide
  ndbg := by decide
  kind := rfl
  co := rfl
  gen := rfl
  cell := by decide +kernel
  lself := by decide +kernel
  larg := by decide +kernel
  lsup := by decide +kernel
  lcls := by decide +kernel
def dd_shortened : He.DefD := ⟨("shortened", none), "shortened", "shortened", defArgs s_shortened, defBody s_shortened, defScope s_shortened, [], []⟩
def dd_reduced : He.DefD := ⟨("reduced", none), "reduced", "reduced", defArgs s_reduced, defBody s_reduced, defScope s_reduced, [], []⟩
def dd_independent : He.DefD := ⟨("independent", none), "independent", "independent", defArgs s_independent, defBody s_independent, defScope s_independent, [], []⟩
def dd_edge_table : He.DefD := ⟨("edge_table", none), "edge_table", "edge_table", defArgs s_edge_table, defBody s_edge_table, defScope s_edge_table, [], []⟩
def dd_find_trails : He.DefD := ⟨("find_trails", none), "find_trails", "find_trails", defArgs s_find_trails, defBody s_find_trails, defScope s_find_trails, [], []⟩
def dd_count : He.DefD := ⟨("count", none), "count", "count", defArgs s_count, defBody s_count, defScope s_count, [], []⟩
def dd_round_row : He.DefD := ⟨("round_row", none), "round_row", "round_row", defArgs s_round_row, defBody s_round_row, defScope s_round_row, [], []⟩
def dd_paths : He.DefD := ⟨("paths", none), "paths", "paths", defArgs s_paths, defBody s_paths, defScope s_paths, [], []⟩
def dd_Chart___init__ : He.DefD := ⟨("Chart", some "__init__"), "__init__", "Chart.__init__", defArgs s_Chart___init__, defBody s_Chart___init__, defScope s_Chart___init__, [], []⟩
def dd_Chart_after : He.DefD := ⟨("Chart", some "after"), "after", "Chart.after", defArgs s_Chart_after, defBody s_Chart_after, defScope s_Chart_after, [], []⟩
def dd_Chart_enabled : He.DefD := ⟨("Chart", some "enabled"), "enabled", "Chart.enabled", defArgs s_Chart_enabled, defBody s_Chart_enabled, defScope s_Chart_enabled, [], []⟩
def dd_reached_by : He.DefD := ⟨("reached_by", none), "reached_by", "reached_by", defArgs s_reached_by, defBody s_reached_by, defScope s_reached_by, [], []⟩
def dd_part : He.DefD := ⟨("part", none), "part", "part", defArgs s_part, defBody s_part, defScope s_part, [], []⟩
def dd_lost_states : He.DefD := ⟨("lost_states", none), "lost_states", "lost_states", defArgs s_lost_states, defBody s_lost_states, defScope s_lost_states, [], []⟩
def dd_lost_word : He.DefD := ⟨("lost_word", none), "lost_word", "lost_word", defArgs s_lost_word, defBody s_lost_word, defScope s_lost_word, [], []⟩
def dd_safe_states : He.DefD := ⟨("safe_states", none), "safe_states", "safe_states", defArgs s_safe_states, defBody s_safe_states, defScope s_safe_states, [], []⟩
def dd_safe_edges : He.DefD := ⟨("safe_edges", none), "safe_edges", "safe_edges", defArgs s_safe_edges, defBody s_safe_edges, defScope s_safe_edges, [], []⟩
def dd_safe_chart : He.DefD := ⟨("safe_chart", none), "safe_chart", "safe_chart", defArgs s_safe_chart, defBody s_safe_chart, defScope s_safe_chart, [], []⟩
def dd__law_mixed : He.DefD := ⟨("_law_mixed", none), "_law_mixed", "_law_mixed", defArgs s__law_mixed, defBody s__law_mixed, defScope s__law_mixed, [], []⟩
def dd__law_take : He.DefD := ⟨("_law_take", none), "_law_take", "_law_take", defArgs s__law_take, defBody s__law_take, defScope s__law_take, [], []⟩
def dd__law_place : He.DefD := ⟨("_law_place", none), "_law_place", "_law_place", defArgs s__law_place, defBody s__law_place, defScope s__law_place, [], []⟩
def dd__law_edges : He.DefD := ⟨("_law_edges", none), "_law_edges", "_law_edges", defArgs s__law_edges, defBody s__law_edges, defScope s__law_edges, [], []⟩
def dd__law_chart : He.DefD := ⟨("_law_chart", none), "_law_chart", "_law_chart", defArgs s__law_chart, defBody s__law_chart, defScope s__law_chart, [], []⟩
def dd__law_same : He.DefD := ⟨("_law_same", none), "_law_same", "_law_same", defArgs s__law_same, defBody s__law_same, defScope s__law_same, [], []⟩
def dd__law_bad : He.DefD := ⟨("_law_bad", none), "_law_bad", "_law_bad", defArgs s__law_bad, defBody s__law_bad, defScope s__law_bad, [], []⟩
def dd__law_own : He.DefD := ⟨("_law_own", none), "_law_own", "_law_own", defArgs s__law_own, defBody s__law_own, defScope s__law_own, [], []⟩
def dd__law_lost : He.DefD := ⟨("_law_lost", none), "_law_lost", "_law_lost", defArgs s__law_lost, defBody s__law_lost, defScope s__law_lost, [], []⟩
def dd__law_lost_word : He.DefD := ⟨("_law_lost_word", none), "_law_lost_word", "_law_lost_word", defArgs s__law_lost_word, defBody s__law_lost_word, defScope s__law_lost_word, [], []⟩
def dd__law_safe : He.DefD := ⟨("_law_safe", none), "_law_safe", "_law_safe", defArgs s__law_safe, defBody s__law_safe, defScope s__law_safe, [], []⟩
def dd__law_between : He.DefD := ⟨("_law_between", none), "_law_between", "_law_between", defArgs s__law_between, defBody s__law_between, defScope s__law_between, [], []⟩
def dd__law_part : He.DefD := ⟨("_law_part", none), "_law_part", "_law_part", defArgs s__law_part, defBody s__law_part, defScope s__law_part, [], []⟩
def dd__law_same_chart : He.DefD := ⟨("_law_same_chart", none), "_law_same_chart", "_law_same_chart", defArgs s__law_same_chart, defBody s__law_same_chart, defScope s__law_same_chart, [], []⟩
def dd__law_refused : He.DefD := ⟨("_law_refused", none), "_law_refused", "_law_refused", defArgs s__law_refused, defBody s__law_refused, defScope s__law_refused, [], []⟩
def dd__law_closed : He.DefD := ⟨("_law_closed", none), "_law_closed", "_law_closed", defArgs s__law_closed, defBody s__law_closed, defScope s__law_closed, [], []⟩
def dd__law_falls : He.DefD := ⟨("_law_falls", none), "_law_falls", "_law_falls", defArgs s__law_falls, defBody s__law_falls, defScope s__law_falls, [], []⟩
def dd__law_sets : He.DefD := ⟨("_law_sets", none), "_law_sets", "_law_sets", defArgs s__law_sets, defBody s__law_sets, defScope s__law_sets, [], []⟩
def dd__law_asked : He.DefD := ⟨("_law_asked", none), "_law_asked", "_law_asked", defArgs s__law_asked, defBody s__law_asked, defScope s__law_asked, [], []⟩
def dd_law : He.DefD := ⟨("law", none), "law", "law", defArgs s_law, defBody s_law, defScope s_law, [], []⟩
def fnL : List He.DefD := [dd_shortened, dd_reduced, dd_independent, dd_edge_table, dd_find_trails, dd_count, dd_round_row, dd_paths, dd_Chart___init__, dd_Chart_after, dd_Chart_enabled, dd_reached_by, dd_part, dd_lost_states, dd_lost_word, dd_safe_states, dd_safe_edges, dd_safe_chart, dd__law_mixed, dd__law_take, dd__law_place, dd__law_edges, dd__law_chart, dd__law_same, dd__law_bad, dd__law_own, dd__law_lost, dd__law_lost_word, dd__law_safe, dd__law_between, dd__law_part, dd__law_same_chart, dd__law_refused, dd__law_closed, dd__law_falls, dd__law_sets, dd__law_asked, dd_law]
def fcL : List DefC := [⟨"Lost", "Lost.__init__", sx_Lost⟩]
def fbL0 : List KB := [bFa (.free "abs"), bFa (.free "all"), bFa (.free "any"), bFa (.free "bool"), bFa (.free "enumerate"), bFa (.free "int"), bFa (.free "isinstance"), bFa (.free "len"), bFa (.free "list"), bFa (.free "range"), bFa (.free "sorted"), bFa (.free "str"), bFa (.free "tuple"), bFa (.free "zip"), bBlt "gcd" "math.gcd", bFa (.glo "Lost"), bEx "Lost" "word", bFa (.glo "Chart"), bFa (.cls "Chart"), bFa (.noat "Chart" "_targets"), bFa (.noat "Chart" "actions"), bFa (.noat "Chart" "states"), bFa (.noat "Chart" "edges"), bFa (.noat "Chart" "_trails"), bFa (.noat "Chart" "_points"), bFa (.noat "Chart" "_rounds"), bCv "Chart" "MOST_ACTIONS" 5, bCv "Chart" "MOST_STATES" 10, bSup PySem.Challenge.pw_actsapart_k76_whole_greatest_safe_part "Lost" "Lost.__init__" "word", bFa (.free "super")]
def fbL1 : List KB := [bFa (.glo "shortened"), bFa (.glo "reduced"), bFa (.glo "independent"), bFa (.glo "edge_table"), bFa (.glo "find_trails"), bFa (.glo "count"), bFa (.glo "round_row"), bFa (.glo "paths"), bFa (.mkr "Chart"), bFa (.meth "Chart" "after"), bFa (.meth "Chart" "enabled"), bFa (.glo "reached_by"), bFa (.glo "part"), bFa (.glo "lost_states"), bFa (.glo "lost_word"), bFa (.glo "safe_states"), bFa (.glo "safe_edges"), bFa (.glo "safe_chart"), bFa (.glo "_law_mixed"), bFa (.glo "_law_take"), bFa (.glo "_law_place"), bFa (.glo "_law_edges"), bFa (.glo "_law_chart"), bFa (.glo "_law_same"), bFa (.glo "_law_bad"), bFa (.glo "_law_own"), bFa (.glo "_law_lost"), bFa (.glo "_law_lost_word"), bFa (.glo "_law_safe"), bFa (.glo "_law_between")]
def fbL2 : List KB := [bFa (.glo "_law_part"), bFa (.glo "_law_same_chart"), bFa (.glo "_law_refused"), bFa (.glo "_law_closed"), bFa (.glo "_law_falls"), bFa (.glo "_law_sets"), bFa (.glo "_law_asked"), bFa (.glo "law")]
def fbL : List KB := fbL0 ++ fbL1 ++ fbL2
theorem p_law_holds (ns : List Int) (s : Store) (_ : ns.length ≤ 63) (_ : ∀ z ∈ ns, Builtin.Int.intBits z ≤ 1048576) : p_law [.scr (ns.map .int)] s (fun v _ => v = .bl true) fun _ _ => False := ⟨ns, rfl, fun _ => rfl⟩
theorem all_of {K : PySem.W.Frag} {h : Heap} {mg : Str → Option Value} {w : World} {fa : Addr} (X : K.In h) (G : h.Ns mainGlobals mg) (hfa : mg "law" = some (.ref fa)) (c : SaysB fbL fnL fcL K) :
    ∃ fd : FuncData, (∀ (s : Shared) (u : Value), BindsTo s fd ⟨[u], []⟩ [("script", u)]) ∧ ∀ base : Heap, K.In base → base.Ns mainGlobals mg → FnOk PySem.Challenge.pw_actsapart_k76_whole_greatest_safe_part w K mg base (L2.CX PySem.Challenge.pw_actsapart_k76_whole_greatest_safe_part w) 10 fa fd ["script"] (spP K 1 p_law) := by
  have T : Txt K mg (He.ga K "Chart") (He.ga K "Lost") := ⟨He.free_ok X G (c.fact 0), He.free_ok X G (c.fact 1), He.free_ok X G (c.fact 2), He.free_ok X G (c.fact 3), He.free_ok X G (c.fact 4), He.free_ok X G (c.fact 5), He.free_ok X G (c.fact 6), He.free_ok X G (c.fact 7), He.free_ok X G (c.fact 8), He.free_ok X G (c.fact 9), He.free_ok X G (c.fact 10), He.free_ok X G (c.fact 11), He.free_ok X G (c.fact 12), He.free_ok X G (c.fact 13), blt_ok X G (c.fact 14), He.glo_ok X G (c.fact 15), ex_ok (c.fact 16), He.glo_ok X G (c.fact 17), He.cls_ok (c.fact 18), He.noat_ok (c.fact 19), He.noat_ok (c.fact 20), He.noat_ok (c.fact 21), He.noat_ok (c.fact 22), He.noat_ok (c.fact 23), He.noat_ok (c.fact 24), He.noat_ok (c.fact 25), cv_ok (c.fact 26), cv_ok (c.fact 27)⟩
  have c_Lost : Rai PySem.Challenge.pw_actsapart_k76_whole_greatest_safe_part w K mg "Lost" (He.ga K "Lost") "word" := ⟨adC K "Lost", "Lost.__init__", "word", sx_Lost, (supArg sx_Lost), sup_ok (c.fact 28) (c.exc 0), sst_Lost, supC_ok X G (c.fact 28) (c.fact 15) (c.fact 29), fun v => told_str⟩
  obtain ⟨d_shortened, D_shortened⟩ := c.def_ 0 (d := dd_shortened)
  have F_shortened : Fun K "shortened" "shortened" s_shortened (He.fAd K ("shortened", none)) d_shortened := He5.fun_of D_shortened
  have b_shortened : Binds K d_shortened ["row"] [] := F_shortened.binds fun _ _ _ _ _ _ us hl => match us, hl with | [_], _ => rfl
  have c_shortened : ∀ base, CalP PySem.Challenge.pw_actsapart_k76_whole_greatest_safe_part w K mg base 1 "shortened" 1 p_shortened := fun base => calP_of X G rfl (fn_shortened T   F_shortened) (c.fact 30) F_shortened.kp b_shortened
  obtain ⟨d_reduced, D_reduced⟩ := c.def_ 1 (d := dd_reduced)
  have F_reduced : Fun K "reduced" "reduced" s_reduced (He.fAd K ("reduced", none)) d_reduced := He5.fun_of D_reduced
  have b_reduced : Binds K d_reduced ["row", "basis"] [] := F_reduced.binds fun _ _ _ _ _ _ us hl => match us, hl with | [_, _], _ => rfl
  have c_reduced : ∀ base, CalP PySem.Challenge.pw_actsapart_k76_whole_greatest_safe_part w K mg base 2 "reduced" 2 p_reduced := fun base => calP_of X G rfl (fn_reduced T (c_shortened base)  F_reduced) (c.fact 31) F_reduced.kp b_reduced
  obtain ⟨d_independent, D_independent⟩ := c.def_ 2 (d := dd_independent)
  have F_independent : Fun K "independent" "independent" s_independent (He.fAd K ("independent", none)) d_independent := He5.fun_of D_independent
  have b_independent : Binds K d_independent ["rows"] [] := F_independent.binds fun _ _ _ _ _ _ us hl => match us, hl with | [_], _ => rfl
  have c_independent : ∀ base, CalP PySem.Challenge.pw_actsapart_k76_whole_greatest_safe_part w K mg base 3 "independent" 1 p_independent := fun base => calP_of X G rfl (fn_independent T (c_reduced base)  F_independent) (c.fact 32) F_independent.kp b_independent
  obtain ⟨d_edge_table, D_edge_table⟩ := c.def_ 3 (d := dd_edge_table)
  have F_edge_table : Fun K "edge_table" "edge_table" s_edge_table (He.fAd K ("edge_table", none)) d_edge_table := He5.fun_of D_edge_table
  have b_edge_table : Binds K d_edge_table ["actions", "states", "edges"] [] := F_edge_table.binds fun _ _ _ _ _ _ us hl => match us, hl with | [_, _, _], _ => rfl
  have c_edge_table : ∀ base, CalP PySem.Challenge.pw_actsapart_k76_whole_greatest_safe_part w K mg base 1 "edge_table" 3 p_edge_table := fun base => calP_of X G rfl (fn_edge_table T   F_edge_table) (c.fact 33) F_edge_table.kp b_edge_table
  obtain ⟨d_find_trails, D_find_trails⟩ := c.def_ 4 (d := dd_find_trails)
  have F_find_trails : Fun K "find_trails" "find_trails" s_find_trails (He.fAd K ("find_trails", none)) d_find_trails := He5.fun_of D_find_trails
  have b_find_trails : Binds K d_find_trails ["states", "edges"] [] := F_find_trails.binds fun _ _ _ _ _ _ us hl => match us, hl with | [_, _], _ => rfl
  have c_find_trails : ∀ base, CalP PySem.Challenge.pw_actsapart_k76_whole_greatest_safe_part w K mg base 1 "find_trails" 2 p_find_trails := fun base => calP_of X G rfl (fn_find_trails T   F_find_trails) (c.fact 34) F_find_trails.kp b_find_trails
  obtain ⟨d_count, D_count⟩ := c.def_ 5 (d := dd_count)
  have F_count : Fun K "count" "count" s_count (He.fAd K ("count", none)) d_count := He5.fun_of D_count
  have b_count : Binds K d_count ["actions", "word"] [] := F_count.binds fun _ _ _ _ _ _ us hl => match us, hl with | [_, _], _ => rfl
  have c_count : ∀ base, CalP PySem.Challenge.pw_actsapart_k76_whole_greatest_safe_part w K mg base 1 "count" 2 p_count := fun base => calP_of X G rfl (fn_count T   F_count) (c.fact 35) F_count.kp b_count
  obtain ⟨d_round_row, D_round_row⟩ := c.def_ 6 (d := dd_round_row)
  have F_round_row : Fun K "round_row" "round_row" s_round_row (He.fAd K ("round_row", none)) d_round_row := He5.fun_of D_round_row
  have b_round_row : Binds K d_round_row ["points", "edge"] [] := F_round_row.binds fun _ _ _ _ _ _ us hl => match us, hl with | [_, _], _ => rfl
  have c_round_row : ∀ base, CalP PySem.Challenge.pw_actsapart_k76_whole_greatest_safe_part w K mg base 1 "round_row" 2 p_round_row := fun base => calP_of X G rfl (fn_round_row T   F_round_row) (c.fact 36) F_round_row.kp b_round_row
  obtain ⟨d_paths, D_paths⟩ := c.def_ 7 (d := dd_paths)
  have F_paths : Fun K "paths" "paths" s_paths (He.fAd K ("paths", none)) d_paths := He5.fun_of D_paths
  have b_paths : Binds K d_paths ["chart"] [] := F_paths.binds fun _ _ _ _ _ _ us hl => match us, hl with | [_], _ => rfl
  have c_paths : ∀ base, CalP PySem.Challenge.pw_actsapart_k76_whole_greatest_safe_part w K mg base 1 "paths" 1 (p_paths (He.ga K "Chart")) := fun base => calP_of X G rfl (fn_paths T   F_paths) (c.fact 37) F_paths.kp b_paths
  obtain ⟨d_Chart___init__, D_Chart___init__⟩ := c.def_ 8 (d := dd_Chart___init__)
  have F_Chart___init__ : Fun K "__init__" "Chart.__init__" s_Chart___init__ (He.fAd K ("Chart", some "__init__")) d_Chart___init__ := He5.fun_of D_Chart___init__
  have b_Chart___init__ : Binds K d_Chart___init__ ["self", "actions", "states", "edges"] [] := F_Chart___init__.binds fun _ _ _ _ _ _ us hl => match us, hl with | [_, _, _, _], _ => rfl
  have c_Chart : ∀ base, MakP PySem.Challenge.pw_actsapart_k76_whole_greatest_safe_part w K mg base 4 "Chart" (He.ga K "Chart") 4 (p_Chart___init__ (He.ga K "Chart")) := fun base => makP_of X G rfl (fn_Chart___init__ T (c_edge_table base) (c_find_trails base) (c_paths base) (c_count base) (c_round_row base) (c_independent base)  F_Chart___init__) (c.fact 17) (c.fact 38) b_Chart___init__
  obtain ⟨d_Chart_after, D_Chart_after⟩ := c.def_ 9 (d := dd_Chart_after)
  have F_Chart_after : Fun K "after" "Chart.after" s_Chart_after (He.fAd K ("Chart", some "after")) d_Chart_after := He5.fun_of D_Chart_after
  have b_Chart_after : Binds K d_Chart_after ["self", "state", "action"] [] := F_Chart_after.binds fun _ _ _ _ _ _ us hl => match us, hl with | [_, _, _], _ => rfl
  have c_Chart_after : ∀ base, MetP PySem.Challenge.pw_actsapart_k76_whole_greatest_safe_part w K mg base 1 (He.ga K "Chart") "after" 3 (p_Chart_after (He.ga K "Chart")) := fun base => metP_of rfl (fn_Chart_after T   F_Chart_after) (c.fact 39) b_Chart_after
  obtain ⟨d_Chart_enabled, D_Chart_enabled⟩ := c.def_ 10 (d := dd_Chart_enabled)
  have F_Chart_enabled : Fun K "enabled" "Chart.enabled" s_Chart_enabled (He.fAd K ("Chart", some "enabled")) d_Chart_enabled := He5.fun_of D_Chart_enabled
  have b_Chart_enabled : Binds K d_Chart_enabled ["self", "state"] [] := F_Chart_enabled.binds fun _ _ _ _ _ _ us hl => match us, hl with | [_, _], _ => rfl
  have c_Chart_enabled : ∀ base, MetP PySem.Challenge.pw_actsapart_k76_whole_greatest_safe_part w K mg base 1 (He.ga K "Chart") "enabled" 2 (p_Chart_enabled (He.ga K "Chart")) := fun base => metP_of rfl (fn_Chart_enabled T   F_Chart_enabled) (c.fact 40) b_Chart_enabled
  obtain ⟨d_reached_by, D_reached_by⟩ := c.def_ 11 (d := dd_reached_by)
  have F_reached_by : Fun K "reached_by" "reached_by" s_reached_by (He.fAd K ("reached_by", none)) d_reached_by := He5.fun_of D_reached_by
  have b_reached_by : Binds K d_reached_by ["chart", "kept"] [] := F_reached_by.binds fun _ _ _ _ _ _ us hl => match us, hl with | [_, _], _ => rfl
  have c_reached_by : ∀ base, CalP PySem.Challenge.pw_actsapart_k76_whole_greatest_safe_part w K mg base 1 "reached_by" 2 (p_reached_by (He.ga K "Chart")) := fun base => calP_of X G rfl (fn_reached_by T   F_reached_by) (c.fact 41) F_reached_by.kp b_reached_by
  obtain ⟨d_part, D_part⟩ := c.def_ 12 (d := dd_part)
  have F_part : Fun K "part" "part" s_part (He.fAd K ("part", none)) d_part := He5.fun_of D_part
  have b_part : Binds K d_part ["chart", "kept"] [] := F_part.binds fun _ _ _ _ _ _ us hl => match us, hl with | [_, _], _ => rfl
  have c_part : ∀ base, CalP PySem.Challenge.pw_actsapart_k76_whole_greatest_safe_part w K mg base 6 "part" 2 (p_part (He.ga K "Chart")) := fun base => calP_of X G rfl (fn_part T (c_reached_by base) (c_Chart base)  F_part) (c.fact 42) F_part.kp b_part
  obtain ⟨d_lost_states, D_lost_states⟩ := c.def_ 13 (d := dd_lost_states)
  have F_lost_states : Fun K "lost_states" "lost_states" s_lost_states (He.fAd K ("lost_states", none)) d_lost_states := He5.fun_of D_lost_states
  have b_lost_states : Binds K d_lost_states ["chart", "bad", "own"] [] := F_lost_states.binds fun _ _ _ _ _ _ us hl => match us, hl with | [_, _, _], _ => rfl
  have c_lost_states : ∀ base, CalP PySem.Challenge.pw_actsapart_k76_whole_greatest_safe_part w K mg base 1 "lost_states" 3 (p_lost_states (He.ga K "Chart")) := fun base => calP_of X G rfl (fn_lost_states T   F_lost_states) (c.fact 43) F_lost_states.kp b_lost_states
  obtain ⟨d_lost_word, D_lost_word⟩ := c.def_ 14 (d := dd_lost_word)
  have F_lost_word : Fun K "lost_word" "lost_word" s_lost_word (He.fAd K ("lost_word", none)) d_lost_word := He5.fun_of D_lost_word
  have b_lost_word : Binds K d_lost_word ["chart", "bad", "own"] [] := F_lost_word.binds fun _ _ _ _ _ _ us hl => match us, hl with | [_, _, _], _ => rfl
  have c_lost_word : ∀ base, CalP PySem.Challenge.pw_actsapart_k76_whole_greatest_safe_part w K mg base 2 "lost_word" 3 (p_lost_word (He.ga K "Chart")) := fun base => calP_of X G rfl (fn_lost_word T (c_Chart_enabled base) (c_Chart_after base)  F_lost_word) (c.fact 44) F_lost_word.kp b_lost_word
  obtain ⟨d_safe_states, D_safe_states⟩ := c.def_ 15 (d := dd_safe_states)
  have F_safe_states : Fun K "safe_states" "safe_states" s_safe_states (He.fAd K ("safe_states", none)) d_safe_states := He5.fun_of D_safe_states
  have b_safe_states : Binds K d_safe_states ["chart", "bad", "own"] [] := F_safe_states.binds fun _ _ _ _ _ _ us hl => match us, hl with | [_, _, _], _ => rfl
  have c_safe_states : ∀ base, CalP PySem.Challenge.pw_actsapart_k76_whole_greatest_safe_part w K mg base 3 "safe_states" 3 (p_safe_states (He.ga K "Lost") (He.ga K "Chart")) := fun base => calP_of X G rfl (fn_safe_states T (c_lost_states base) (c_lost_word base) c_Lost F_safe_states) (c.fact 45) F_safe_states.kp b_safe_states
  obtain ⟨d_safe_edges, D_safe_edges⟩ := c.def_ 16 (d := dd_safe_edges)
  have F_safe_edges : Fun K "safe_edges" "safe_edges" s_safe_edges (He.fAd K ("safe_edges", none)) d_safe_edges := He5.fun_of D_safe_edges
  have b_safe_edges : Binds K d_safe_edges ["chart", "bad", "own"] [] := F_safe_edges.binds fun _ _ _ _ _ _ us hl => match us, hl with | [_, _, _], _ => rfl
  have c_safe_edges : ∀ base, CalP PySem.Challenge.pw_actsapart_k76_whole_greatest_safe_part w K mg base 4 "safe_edges" 3 (p_safe_edges (He.ga K "Lost") (He.ga K "Chart")) := fun base => calP_of X G rfl (fn_safe_edges T (c_safe_states base)  F_safe_edges) (c.fact 46) F_safe_edges.kp b_safe_edges
  obtain ⟨d_safe_chart, D_safe_chart⟩ := c.def_ 17 (d := dd_safe_chart)
  have F_safe_chart : Fun K "safe_chart" "safe_chart" s_safe_chart (He.fAd K ("safe_chart", none)) d_safe_chart := He5.fun_of D_safe_chart
  have b_safe_chart : Binds K d_safe_chart ["chart", "bad", "own"] [] := F_safe_chart.binds fun _ _ _ _ _ _ us hl => match us, hl with | [_, _, _], _ => rfl
  have c_safe_chart : ∀ base, CalP PySem.Challenge.pw_actsapart_k76_whole_greatest_safe_part w K mg base 7 "safe_chart" 3 (p_safe_chart (He.ga K "Lost") (He.ga K "Chart")) := fun base => calP_of X G rfl (fn_safe_chart T (c_part base) (c_safe_edges base)  F_safe_chart) (c.fact 47) F_safe_chart.kp b_safe_chart
  obtain ⟨d__law_mixed, D__law_mixed⟩ := c.def_ 18 (d := dd__law_mixed)
  have F__law_mixed : Fun K "_law_mixed" "_law_mixed" s__law_mixed (He.fAd K ("_law_mixed", none)) d__law_mixed := He5.fun_of D__law_mixed
  have b__law_mixed : Binds K d__law_mixed ["number", "k"] [] := F__law_mixed.binds fun _ _ _ _ _ _ us hl => match us, hl with | [_, _], _ => rfl
  have c__law_mixed : ∀ base, CalP PySem.Challenge.pw_actsapart_k76_whole_greatest_safe_part w K mg base 1 "_law_mixed" 2 p__law_mixed := fun base => calP_of X G rfl (fn__law_mixed T   F__law_mixed) (c.fact 48) F__law_mixed.kp b__law_mixed
  obtain ⟨d__law_take, D__law_take⟩ := c.def_ 19 (d := dd__law_take)
  have F__law_take : Fun K "_law_take" "_law_take" s__law_take (He.fAd K ("_law_take", none)) d__law_take := He5.fun_of D__law_take
  have b__law_take : Binds K d__law_take ["tape", "limit"] [] := F__law_take.binds fun _ _ _ _ _ _ us hl => match us, hl with | [_, _], _ => rfl
  have c__law_take : ∀ base, CalP PySem.Challenge.pw_actsapart_k76_whole_greatest_safe_part w K mg base 2 "_law_take" 2 p__law_take := fun base => calP_of X G rfl (fn__law_take T (c__law_mixed base)  F__law_take) (c.fact 49) F__law_take.kp b__law_take
  obtain ⟨d__law_place, D__law_place⟩ := c.def_ 20 (d := dd__law_place)
  have F__law_place : Fun K "_law_place" "_law_place" s__law_place (He.fAd K ("_law_place", none)) d__law_place := He5.fun_of D__law_place
  have b__law_place : Binds K d__law_place ["used", "source", "action", "states", "actions"] [] := F__law_place.binds fun _ _ _ _ _ _ us hl => match us, hl with | [_, _, _, _, _], _ => rfl
  have c__law_place : ∀ base, CalP PySem.Challenge.pw_actsapart_k76_whole_greatest_safe_part w K mg base 1 "_law_place" 5 p__law_place := fun base => calP_of X G rfl (fn__law_place T   F__law_place) (c.fact 50) F__law_place.kp b__law_place
  obtain ⟨d__law_edges, D__law_edges⟩ := c.def_ 21 (d := dd__law_edges)
  have F__law_edges : Fun K "_law_edges" "_law_edges" s__law_edges (He.fAd K ("_law_edges", none)) d__law_edges := He5.fun_of D__law_edges
  have b__law_edges : Binds K d__law_edges ["tape", "actions", "states"] [] := F__law_edges.binds fun _ _ _ _ _ _ us hl => match us, hl with | [_, _, _], _ => rfl
  have c__law_edges : ∀ base, CalP PySem.Challenge.pw_actsapart_k76_whole_greatest_safe_part w K mg base 3 "_law_edges" 3 p__law_edges := fun base => calP_of X G rfl (fn__law_edges T (c__law_take base) (c__law_place base)  F__law_edges) (c.fact 51) F__law_edges.kp b__law_edges
  obtain ⟨d__law_chart, D__law_chart⟩ := c.def_ 22 (d := dd__law_chart)
  have F__law_chart : Fun K "_law_chart" "_law_chart" s__law_chart (He.fAd K ("_law_chart", none)) d__law_chart := He5.fun_of D__law_chart
  have b__law_chart : Binds K d__law_chart ["tape"] [] := F__law_chart.binds fun _ _ _ _ _ _ us hl => match us, hl with | [_], _ => rfl
  have c__law_chart : ∀ base, CalP PySem.Challenge.pw_actsapart_k76_whole_greatest_safe_part w K mg base 4 "_law_chart" 1 p__law_chart := fun base => calP_of X G rfl (fn__law_chart T (c__law_take base) (c__law_edges base)  F__law_chart) (c.fact 52) F__law_chart.kp b__law_chart
  obtain ⟨d__law_same, D__law_same⟩ := c.def_ 23 (d := dd__law_same)
  have F__law_same : Fun K "_law_same" "_law_same" s__law_same (He.fAd K ("_law_same", none)) d__law_same := He5.fun_of D__law_same
  have b__law_same : Binds K d__law_same ["told", "due"] [] := F__law_same.binds fun _ _ _ _ _ _ us hl => match us, hl with | [_, _], _ => rfl
  have r0__law_same : ∀ base, CalP PySem.Challenge.pw_actsapart_k76_whole_greatest_safe_part w K mg base 0 "_law_same" 2 (p__law_same 0) := fun base => calP_of X G rfl (fn_zero fun _ _ _ _ h => h) (c.fact 53) F__law_same.kp b__law_same
  have r1__law_same : ∀ base, CalP PySem.Challenge.pw_actsapart_k76_whole_greatest_safe_part w K mg base 1 "_law_same" 2 (p__law_same 1) := fun base => calP_of X G rfl (fn__law_same T (r0__law_same base) F__law_same) (c.fact 53) F__law_same.kp b__law_same
  have r2__law_same : ∀ base, CalP PySem.Challenge.pw_actsapart_k76_whole_greatest_safe_part w K mg base 2 "_law_same" 2 (p__law_same 2) := fun base => calP_of X G rfl (fn__law_same T (r1__law_same base) F__law_same) (c.fact 53) F__law_same.kp b__law_same
  have r3__law_same : ∀ base, CalP PySem.Challenge.pw_actsapart_k76_whole_greatest_safe_part w K mg base 3 "_law_same" 2 (p__law_same 3) := fun base => calP_of X G rfl (fn__law_same T (r2__law_same base) F__law_same) (c.fact 53) F__law_same.kp b__law_same
  have r4__law_same : ∀ base, CalP PySem.Challenge.pw_actsapart_k76_whole_greatest_safe_part w K mg base 4 "_law_same" 2 (p__law_same 4) := fun base => calP_of X G rfl (fn__law_same T (r3__law_same base) F__law_same) (c.fact 53) F__law_same.kp b__law_same
  have c__law_same := r4__law_same
  obtain ⟨d__law_bad, D__law_bad⟩ := c.def_ 24 (d := dd__law_bad)
  have F__law_bad : Fun K "_law_bad" "_law_bad" s__law_bad (He.fAd K ("_law_bad", none)) d__law_bad := He5.fun_of D__law_bad
  have b__law_bad : Binds K d__law_bad ["tape", "states"] [] := F__law_bad.binds fun _ _ _ _ _ _ us hl => match us, hl with | [_, _], _ => rfl
  have c__law_bad : ∀ base, CalP PySem.Challenge.pw_actsapart_k76_whole_greatest_safe_part w K mg base 3 "_law_bad" 2 p__law_bad := fun base => calP_of X G rfl (fn__law_bad T (c__law_take base)  F__law_bad) (c.fact 54) F__law_bad.kp b__law_bad
  obtain ⟨d__law_own, D__law_own⟩ := c.def_ 25 (d := dd__law_own)
  have F__law_own : Fun K "_law_own" "_law_own" s__law_own (He.fAd K ("_law_own", none)) d__law_own := He5.fun_of D__law_own
  have b__law_own : Binds K d__law_own ["tape", "actions"] [] := F__law_own.binds fun _ _ _ _ _ _ us hl => match us, hl with | [_, _], _ => rfl
  have c__law_own : ∀ base, CalP PySem.Challenge.pw_actsapart_k76_whole_greatest_safe_part w K mg base 3 "_law_own" 2 p__law_own := fun base => calP_of X G rfl (fn__law_own T (c__law_take base)  F__law_own) (c.fact 55) F__law_own.kp b__law_own
  obtain ⟨d__law_lost, D__law_lost⟩ := c.def_ 26 (d := dd__law_lost)
  have F__law_lost : Fun K "_law_lost" "_law_lost" s__law_lost (He.fAd K ("_law_lost", none)) d__law_lost := He5.fun_of D__law_lost
  have b__law_lost : Binds K d__law_lost ["chart", "bad", "own"] [] := F__law_lost.binds fun _ _ _ _ _ _ us hl => match us, hl with | [_, _, _], _ => rfl
  have c__law_lost : ∀ base, CalP PySem.Challenge.pw_actsapart_k76_whole_greatest_safe_part w K mg base 1 "_law_lost" 3 p__law_lost := fun base => calP_of X G rfl (fn__law_lost T   F__law_lost) (c.fact 56) F__law_lost.kp b__law_lost
  obtain ⟨d__law_lost_word, D__law_lost_word⟩ := c.def_ 27 (d := dd__law_lost_word)
  have F__law_lost_word : Fun K "_law_lost_word" "_law_lost_word" s__law_lost_word (He.fAd K ("_law_lost_word", none)) d__law_lost_word := He5.fun_of D__law_lost_word
  have b__law_lost_word : Binds K d__law_lost_word ["chart", "bad", "own"] [] := F__law_lost_word.binds fun _ _ _ _ _ _ us hl => match us, hl with | [_, _, _], _ => rfl
  have c__law_lost_word : ∀ base, CalP PySem.Challenge.pw_actsapart_k76_whole_greatest_safe_part w K mg base 1 "_law_lost_word" 3 p__law_lost_word := fun base => calP_of X G rfl (fn__law_lost_word T   F__law_lost_word) (c.fact 57) F__law_lost_word.kp b__law_lost_word
  obtain ⟨d__law_safe, D__law_safe⟩ := c.def_ 28 (d := dd__law_safe)
  have F__law_safe : Fun K "_law_safe" "_law_safe" s__law_safe (He.fAd K ("_law_safe", none)) d__law_safe := He5.fun_of D__law_safe
  have b__law_safe : Binds K d__law_safe ["chart", "lost"] [] := F__law_safe.binds fun _ _ _ _ _ _ us hl => match us, hl with | [_, _], _ => rfl
  have c__law_safe : ∀ base, CalP PySem.Challenge.pw_actsapart_k76_whole_greatest_safe_part w K mg base 1 "_law_safe" 2 p__law_safe := fun base => calP_of X G rfl (fn__law_safe T   F__law_safe) (c.fact 58) F__law_safe.kp b__law_safe
  obtain ⟨d__law_between, D__law_between⟩ := c.def_ 29 (d := dd__law_between)
  have F__law_between : Fun K "_law_between" "_law_between" s__law_between (He.fAd K ("_law_between", none)) d__law_between := He5.fun_of D__law_between
  have b__law_between : Binds K d__law_between ["chart", "states"] [] := F__law_between.binds fun _ _ _ _ _ _ us hl => match us, hl with | [_, _], _ => rfl
  have c__law_between : ∀ base, CalP PySem.Challenge.pw_actsapart_k76_whole_greatest_safe_part w K mg base 1 "_law_between" 2 p__law_between := fun base => calP_of X G rfl (fn__law_between T   F__law_between) (c.fact 59) F__law_between.kp b__law_between
  obtain ⟨d__law_part, D__law_part⟩ := c.def_ 30 (d := dd__law_part)
  have F__law_part : Fun K "_law_part" "_law_part" s__law_part (He.fAd K ("_law_part", none)) d__law_part := He5.fun_of D__law_part
  have b__law_part : Binds K d__law_part ["chart", "states", "kept"] [] := F__law_part.binds fun _ _ _ _ _ _ us hl => match us, hl with | [_, _, _], _ => rfl
  have c__law_part : ∀ base, CalP PySem.Challenge.pw_actsapart_k76_whole_greatest_safe_part w K mg base 1 "_law_part" 3 p__law_part := fun base => calP_of X G rfl (fn__law_part T   F__law_part) (c.fact 60) F__law_part.kp b__law_part
  obtain ⟨d__law_same_chart, D__law_same_chart⟩ := c.def_ 31 (d := dd__law_same_chart)
  have F__law_same_chart : Fun K "_law_same_chart" "_law_same_chart" s__law_same_chart (He.fAd K ("_law_same_chart", none)) d__law_same_chart := He5.fun_of D__law_same_chart
  have b__law_same_chart : Binds K d__law_same_chart ["told", "chart"] [] := F__law_same_chart.binds fun _ _ _ _ _ _ us hl => match us, hl with | [_, _], _ => rfl
  have c__law_same_chart : ∀ base, CalP PySem.Challenge.pw_actsapart_k76_whole_greatest_safe_part w K mg base 5 "_law_same_chart" 2 (p__law_same_chart (He.ga K "Chart")) := fun base => calP_of X G rfl (fn__law_same_chart T (c__law_same base)  F__law_same_chart) (c.fact 61) F__law_same_chart.kp b__law_same_chart
  obtain ⟨d__law_refused, D__law_refused⟩ := c.def_ 32 (d := dd__law_refused)
  have F__law_refused : Fun K "_law_refused" "_law_refused" s__law_refused (He.fAd K ("_law_refused", none)) d__law_refused := He5.fun_of D__law_refused
  have b__law_refused : Binds K d__law_refused ["plain", "bad", "own", "which"] [] := F__law_refused.binds fun _ _ _ _ _ _ us hl => match us, hl with | [_, _, _, _], _ => rfl
  have c__law_refused : ∀ base, CalP PySem.Challenge.pw_actsapart_k76_whole_greatest_safe_part w K mg base 8 "_law_refused" 4 (p__law_refused (He.ga K "Lost") (He.ga K "Chart")) := fun base => calP_of X G rfl (fn__law_refused T (c_safe_edges base) (c_safe_chart base)  F__law_refused) (c.fact 62) F__law_refused.kp b__law_refused
  obtain ⟨d__law_closed, D__law_closed⟩ := c.def_ 33 (d := dd__law_closed)
  have F__law_closed : Fun K "_law_closed" "_law_closed" s__law_closed (He.fAd K ("_law_closed", none)) d__law_closed := He5.fun_of D__law_closed
  have b__law_closed : Binds K d__law_closed ["tape", "chart", "own", "lost", "share"] [] := F__law_closed.binds fun _ _ _ _ _ _ us hl => match us, hl with | [_, _, _, _, _], _ => rfl
  have c__law_closed : ∀ base, CalP PySem.Challenge.pw_actsapart_k76_whole_greatest_safe_part w K mg base 3 "_law_closed" 5 p__law_closed := fun base => calP_of X G rfl (fn__law_closed T (c__law_take base)  F__law_closed) (c.fact 63) F__law_closed.kp b__law_closed
  obtain ⟨d__law_falls, D__law_falls⟩ := c.def_ 34 (d := dd__law_falls)
  have F__law_falls : Fun K "_law_falls" "_law_falls" s__law_falls (He.fAd K ("_law_falls", none)) d__law_falls := He5.fun_of D__law_falls
  have b__law_falls : Binds K d__law_falls ["chart", "bad", "own", "state"] [] := F__law_falls.binds fun _ _ _ _ _ _ us hl => match us, hl with | [_, _, _, _], _ => rfl
  have c__law_falls : ∀ base, CalP PySem.Challenge.pw_actsapart_k76_whole_greatest_safe_part w K mg base 1 "_law_falls" 4 p__law_falls := fun base => calP_of X G rfl (fn__law_falls T   F__law_falls) (c.fact 64) F__law_falls.kp b__law_falls
  obtain ⟨d__law_sets, D__law_sets⟩ := c.def_ 35 (d := dd__law_sets)
  have F__law_sets : Fun K "_law_sets" "_law_sets" s__law_sets (He.fAd K ("_law_sets", none)) d__law_sets := He5.fun_of D__law_sets
  have b__law_sets : Binds K d__law_sets ["tape", "chart", "plain", "bad", "own", "lost", "edges"] [] := F__law_sets.binds fun _ _ _ _ _ _ us hl => match us, hl with | [_, _, _, _, _, _, _], _ => rfl
  have c__law_sets : ∀ base, CalP PySem.Challenge.pw_actsapart_k76_whole_greatest_safe_part w K mg base 7 "_law_sets" 7 (p__law_sets (He.ga K "Chart")) := fun base => calP_of X G rfl (fn__law_sets T (c__law_closed base) (c__law_same_chart base) (c_part base) (c__law_part base)  F__law_sets) (c.fact 65) F__law_sets.kp b__law_sets
  obtain ⟨d__law_asked, D__law_asked⟩ := c.def_ 36 (d := dd__law_asked)
  have F__law_asked : Fun K "_law_asked" "_law_asked" s__law_asked (He.fAd K ("_law_asked", none)) d__law_asked := He5.fun_of D__law_asked
  have b__law_asked : Binds K d__law_asked ["chart", "plain", "bad", "own"] [] := F__law_asked.binds fun _ _ _ _ _ _ us hl => match us, hl with | [_, _, _, _], _ => rfl
  have c__law_asked : ∀ base, CalP PySem.Challenge.pw_actsapart_k76_whole_greatest_safe_part w K mg base 9 "_law_asked" 4 (p__law_asked (He.ga K "Chart")) := fun base => calP_of X G rfl (fn__law_asked T (c__law_lost base) (c_lost_states base) (c__law_same base) (c__law_lost_word base) (c__law_refused base) (c__law_safe base) (c__law_between base) (c_safe_edges base) (c__law_same_chart base) (c_safe_chart base) (c__law_part base) (c_part base)  F__law_asked) (c.fact 66) F__law_asked.kp b__law_asked
  obtain ⟨d_law, D_law⟩ := c.def_ 37 (d := dd_law)
  have F_law : Fun K "law" "law" s_law (He.fAd K ("law", none)) d_law := He5.fun_of D_law
  have b_law : Binds K d_law ["script"] [] := F_law.binds fun _ _ _ _ _ _ us hl => match us, hl with | [_], _ => rfl
  have e := hfa.symm.trans (He.glo_ok X G (c.fact 67))
  cases e
  exact ⟨d_law, fun s u => FunD.bindsA (ps := ["script"]) D_law (fun _ _ _ _ _ _ us hl => match us, hl with | [_], _ => rfl) s [u] rfl, fun base _ _ => fn_law T (c__law_chart base) (c__law_bad base) (c__law_take base) (c__law_own base) (c_Chart base) (c__law_asked base) (c__law_safe base) (c__law_falls base) (c__law_sets base) (c_safe_chart base) (c__law_same base) (c_safe_edges base)  F_law⟩
end Y
set_option Elab.async false
set_option linter.all false
set_option maxRecDepth 100000
set_option maxHeartbeats 0
set_option autoImplicit false
/-! the head -/
namespace Y
open PySem PySem.Spec PyProof.Rows L2
def nm0 : List PySem.Str := ["_wall", "Fault", "TooMany", "BadChart", "Unreachable", "Lost", "shortened", "reduced", "independent", "edge_table", "find_trails", "count", "round_row", "Chart", "paths", "reached_by", "part", "lost_states", "lost_word", "safe_states", "safe_edges", "safe_chart", "_law_mixed", "_law_take", "_law_place", "_law_edges", "_law_chart", "_law_same", "_law_bad", "_law_own"]
def nm1 : List PySem.Str := ["_law_lost", "_law_lost_word", "_law_safe", "_law_between", "_law_part", "_law_same_chart", "_law_refused", "_law_closed", "_law_falls", "_law_sets", "_law_asked", "__name__"]
def nms : List PySem.Str := nm0 ++ nm1
abbrev RR : PySem.W.OpenRow := PySem.W.OpenLaw.row PySem.Challenge.rw_actsapart_k76_whole_greatest_safe_part
abbrev hkY : PySem.W.Hook := hookB 5 fbL fnL fcL
def obY (s : PySem.W.SharedT) : AlB := obsBG 5 fbL fnL fcL (HandSHeadRun.getT s)
theorem obY_eq (s : PySem.W.SharedT) : obY s = hkY.obs s.abs := obsBG_eq (HandSHeadRun.getT_eq s)
theorem runY (w : World) : HandSHeadRun.RunEqI RR (PySem.W.view RR.prog [0, 48]) hkY obY 4000 nms w := by
  unfold HandSHeadRun.RunEqI
  kernel_rfl
end Y
set_option Elab.async false
set_option linter.all false
set_option maxRecDepth 100000
set_option maxHeartbeats 0
set_option autoImplicit false
/-! the end -/
open PySem PySem.W PySem.Calls PyProof.Rows
theorem PySem.Challenge.cw_actsapart_k76_whole_greatest_safe_part_holds : PySem.Challenge.rw_actsapart_k76_whole_greatest_safe_part.Holds := by
  w_on; o_law
  refine HandSHeadRun.head_imp (r := Y.RR) (q := PySem.W.view Y.RR.prog [0, 48]) (H := Y.hkY) (ob := Y.obY) (M := 4000) (loose := Y.nms) (d := HandSHeadRun.topDef Y.RR.prog 48) (kwd := []) Y.obY_eq Y.runY (by kernel_rfl) (by kernel_rfl) (by kernel_rfl) (by rfl) (by first | assumption | decide +kernel) (by decide +kernel) ⟨rfl, rfl, rfl, rfl, rfl, by decide +kernel⟩ ?hw ?hc
  case hw => w_witness2
  case hc =>
    refine Y.walkY (l := PySem.Challenge.rw_actsapart_k76_whole_greatest_safe_part) (k := 10) (x := "script") (p := Y.p_law) rfl (by kernel_rfl) ⟨rfl, by decide, by decide⟩ (fun ns s hl hb => Y.p_law_holds ns s hl hb) ?F
    intro w mg fa h YP G hmg0
    obtain ⟨K, KX, c⟩ := YP
    have hmg : mg ("law" : PySem.Str) = some (.ref fa) := by
      have e : (HandSHeadRun.topDef Y.RR.prog 48).name = ("law" : PySem.Str) := by kernel_rfl
      rw [← e]
      exact hmg0
    obtain ⟨fd, hb, hF⟩ := Y.all_of (w := w) KX G hmg c
    exact ⟨K, fd, KX, hb, hF⟩
