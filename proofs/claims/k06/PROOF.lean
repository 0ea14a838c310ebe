import PyProof.Rows.All
import Wide.All
import OpenK.AllK
import Wide.FinOn
import HandS.ForMost
import HandS.ForExc
import HandS.Deep
import HandS.Style
import HandS.TupAny
import HandS.IsInst
import HandS.Wide
import HandS.Conv
import HandS.Zip
import HandS.Rev
import KE.GoesEnum
import HandS.Words
import HandS.Defaults
import HandS.ExcOwn
import KE.KDictKeyed
import HandS.DictComp
import HandS.DictTup
import KE.KDictZip
import HandS.More
import HandS.HeadHook1
import HandS.HeadHook2
import HandS.WordsExc
import HandS.AnyAll
import HandS.Ends
import HandS.Head0
import HandS.Head1
import HandS.Head2
import HandS.HeadEnd
import KE.KStateDown
import PySem.Challenge.RW_keptgates_k06_whole_closed_in_any_order
set_option Elab.async false
set_option linter.all false
set_option maxRecDepth 100000
set_option maxHeartbeats 1000000
/-! Dn0: values, cells, results; how they are held by the abstract heap; the first rules. -/
namespace Dn
open PySem PySem.Spec L2

/-- a value: what never changes, or the number of a cell -/
inductive D where
  | non | bl (b : Bool) | int (i : Int) | str (x : Str) | tup (xs : List D) | ref (n : Nat) | err (c : Nat) (fs : List (Str × D)) | ty (n : String) | cl (c : Nat) | scr (ns : List Int)
inductive Cell where
  | lst (xs : List D) | frz (xs : List D) | dK (kvs : List (Key × D)) | dT (kvs : List (List Key × D)) | ins (c : Nat) (fs : List (Str × D))
mutual
def D.eqb : D → D → Bool
  | .non, .non => true
  | .bl a, .bl b => a == b
  | .int a, .int b => a == b
  | .str a, .str b => decide (a = b)
  | .tup xs, .tup ys => D.eqbs xs ys
  | .ref m, .ref n => m == n
  | .err c fs, .err c' fs' => c == c' && D.eqbf fs fs'
  | .ty m, .ty n => m == n
  | .cl m, .cl n => m == n
  | .scr m, .scr n => decide (m = n)
  | _, _ => false
def D.eqbs : List D → List D → Bool
  | [], [] => true
  | x :: xs, y :: ys => D.eqb x y && D.eqbs xs ys
  | _, _ => false
def D.eqbf : List (Str × D) → List (Str × D) → Bool
  | [], [] => true
  | (f, x) :: xs, (g, y) :: ys => decide (f = g) && (D.eqb x y && D.eqbf xs ys)
  | _, _ => false
end
mutual
theorem D.eqb_iff : ∀ (x y : D), D.eqb x y = true ↔ x = y
  | .non, y => by cases y <;> simp [D.eqb]
  | .bl a, y => by cases y <;> simp [D.eqb]
  | .int a, y => by cases y <;> simp [D.eqb]
  | .str a, y => by cases y <;> simp [D.eqb]
  | .tup xs, y => by cases y <;> simp [D.eqb, D.eqbs_iff xs]
  | .ref a, y => by cases y <;> simp [D.eqb]
  | .err c fs, y => by cases y <;> simp [D.eqb, D.eqbf_iff fs]
  | .ty a, y => by cases y <;> simp [D.eqb]
  | .cl a, y => by cases y <;> simp [D.eqb]
  | .scr a, y => by cases y <;> simp [D.eqb]
theorem D.eqbs_iff : ∀ (xs ys : List D), D.eqbs xs ys = true ↔ xs = ys
  | [], ys => by cases ys <;> simp [D.eqbs]
  | x :: xs, ys => by
    cases ys with
    | nil => simp [D.eqbs]
    | cons y ys => simp [D.eqbs, D.eqb_iff x y, D.eqbs_iff xs ys]
theorem D.eqbf_iff : ∀ (xs ys : List (Str × D)), D.eqbf xs ys = true ↔ xs = ys
  | [], ys => by cases ys <;> simp [D.eqbf]
  | (f, x) :: xs, ys => by
    cases ys with
    | nil => simp [D.eqbf]
    | cons p ys =>
      obtain ⟨g, y⟩ := p
      simp [D.eqbf, D.eqb_iff x y, D.eqbf_iff xs ys, and_assoc]
end
instance : DecidableEq D := fun x y => decidable_of_iff _ (D.eqb_iff x y)
abbrev Store := List Cell
abbrev Env := List (Option D)
structure Xc where
  c : Nat
  fs : List (Str × D)
inductive R (α : Type) where
  | ok (a : α) (st : Store) | exc (x : Xc) (st : Store) | bad
def R.bind {α β : Type} (m : R α) (f : α → Store → R β) : R β := match m with
  | .ok a st => f a st
  | .exc x st => .exc x st
  | .bad => .bad
@[simp] theorem R.bind_ok {α β : Type} (a : α) (st : Store) (f : α → Store → R β) : (R.ok a st).bind f = f a st := rfl
@[simp] theorem R.bind_exc {α β : Type} (x : Xc) (st : Store) (f : α → Store → R β) : (R.exc x st : R α).bind f = .exc x st := rfl
@[simp] theorem R.bind_bad {α β : Type} (f : α → Store → R β) : (R.bad : R α).bind f = .bad := rfl
abbrev DE := Env → Store → R D
abbrev DB := Env → Store → R Bool
abbrev DA := Env → Store → R (List D)

/-- the classes by number; the exception that is handled: its address, class, dict -/
structure Ctx where
  K : PySem.W.Frag
  cls : Nat → Value
  hot : Option (Addr × Value × Addr)

/-! ### values by the abstract heap -/
/-- the script: a list of whole numbers that nobody changes -/
def ScrL (K : PySem.W.Frag) (H : Hp) (a : Addr) (ns : List Int) : Prop :=
  (∃ o, H a = some (.frz o (.lst (ns.map V.int)))) ∨
    ∃ (o : Obj) (its : Array Value) (n : Nat), K.lookup a = some o ∧ o.cls = .type "list" ∧ o.dict = none ∧ o.data = .seq its n ∧ its.size ≤ sizeLine ∧ Vals (ns.map V.int) its.toList
theorem ScrL.sq {K : PySem.W.Frag} {H : Hp} {a : Addr} {ns : List Int} (h : ScrL K H a ns) : SqL K H a (ns.map V.int) := h.imp (fun q => .inr q) id
mutual
inductive RV (G : Ctx) (ι : List Addr) (H : Hp) : D → V → Prop
  | non : RV G ι H .non .non
  | bl (b : Bool) : RV G ι H (.bl b) (.bl b)
  | int (i : Int) : RV G ι H (.int i) (.int i)
  | str (x : Str) : RV G ι H (.str x) (.str x)
  | tup {a : Addr} {xs : List D} {vs : List V} : H a = some (.tup vs) → RVs G ι H xs vs → RV G ι H (.tup xs) (.ref a)
  | ref {n : Nat} {a : Addr} : ι[n]? = some a → RV G ι H (.ref n) (.ref a)
  | err {c : Nat} {fs : List (Str × D)} {a d : Addr} {ws : List (Str × V)} : G.hot = some (a, G.cls c, d) → H d = some (.xd ws) → RFs G ι H fs ws → RV G ι H (.err c fs) (.ref a)
  | ty (n : String) : RV G ι H (.ty n) (.ty n)
  | cl {c : Nat} {a : Addr} : G.cls c = .ref a → RV G ι H (.cl c) (.ref a)
  | scr {ns : List Int} {a : Addr} : ScrL G.K H a ns → RV G ι H (.scr ns) (.ref a)
inductive RVs (G : Ctx) (ι : List Addr) (H : Hp) : List D → List V → Prop
  | nil : RVs G ι H [] []
  | cons {x : D} {v : V} {xs : List D} {vs : List V} : RV G ι H x v → RVs G ι H xs vs → RVs G ι H (x :: xs) (v :: vs)
inductive RFs (G : Ctx) (ι : List Addr) (H : Hp) : List (Str × D) → List (Str × V) → Prop
  | nil : RFs G ι H [] []
  | cons {f : Str} {x : D} {v : V} {xs : List (Str × D)} {vs : List (Str × V)} : RV G ι H x v → RFs G ι H xs vs → RFs G ι H ((f, x) :: xs) ((f, v) :: vs)
end
/-- the cells' addresses stay, new ones are fresh; what is no cell stays as it is -/
structure Ext (ι ι' : List Addr) (H H' : Hp) : Prop where
  pre : ∃ more, ι' = ι ++ more ∧ ∀ a ∈ more, H a = none
  keep : ∀ a o, a ∉ ι → H a = some o → H' a = some o
  tup : ∀ a xs, H a = some (.tup xs) → H' a = some (.tup xs)
  frz : ∀ a o u, H a = some (.frz o u) → H' a = some (.frz o u)
  xd : ∀ a fs, H a = some (.xd fs) → H' a = some (.xd fs)
  there : ∀ a, H' a = none → H a = none
theorem Ext.refl (ι : List Addr) (H : Hp) : Ext ι ι H H := ⟨⟨[], by simp, by simp⟩, fun _ _ _ e => e, fun _ _ e => e, fun _ _ _ e => e, fun _ _ e => e, fun _ e => e⟩
theorem Ext.trans {ι ι1 ι2 : List Addr} {H H1 H2 : Hp} (a : Ext ι ι1 H H1) (b : Ext ι1 ι2 H1 H2) : Ext ι ι2 H H2 := by
  obtain ⟨m, e, n1⟩ := a.pre
  obtain ⟨m', e', n2⟩ := b.pre
  refine ⟨⟨m ++ m', by rw [e', e, List.append_assoc], fun c hc => ?_⟩, fun c o h q => ?_, fun _ _ q => b.tup _ _ (a.tup _ _ q), fun _ _ _ q => b.frz _ _ _ (a.frz _ _ _ q), fun _ _ q => b.xd _ _ (a.xd _ _ q), fun c h => a.there c (b.there c h)⟩
  · rcases List.mem_append.mp hc with h | h
    · exact n1 c h
    · exact a.there c (n2 c h)
  · refine b.keep c o ?_ (a.keep c o h q)
    rw [e]
    intro hm
    rcases List.mem_append.mp hm with h' | h'
    · exact h h'
    · rw [n1 c h'] at q; cases q
theorem Ext.ix {ι ι' : List Addr} {H H' : Hp} (e : Ext ι ι' H H') {n : Nat} {a : Addr} (h : ι[n]? = some a) : ι'[n]? = some a := by
  obtain ⟨m, q, _⟩ := e.pre
  rw [q, List.getElem?_append_left (List.getElem?_eq_some_iff.mp h).1, h]
theorem Ext.sqT {ι ι' : List Addr} {H H' : Hp} {K : PySem.W.Frag} {a : Addr} {xs : List V} (e : Ext ι ι' H H') (h : SqT K H a xs) : SqT K H' a xs := by
  rcases h with (h | ⟨o, h⟩) | h
  · exact .inl (.inl (e.tup _ _ h))
  · exact .inl (.inr ⟨o, e.frz _ _ _ h⟩)
  · exact .inr h
/-- what values lean on -/
structure Imm (ι ι' : List Addr) (H H' : Hp) : Prop where
  ix : ∀ (n : Nat) (a : Addr), ι[n]? = some a → ι'[n]? = some a
  tup : ∀ a xs, H a = some (.tup xs) → H' a = some (.tup xs)
  xd : ∀ a fs, H a = some (.xd fs) → H' a = some (.xd fs)
  frz : ∀ a o u, H a = some (.frz o u) → H' a = some (.frz o u)
theorem Ext.imm {ι ι' : List Addr} {H H' : Hp} (e : Ext ι ι' H H') : Imm ι ι' H H' := ⟨fun _ _ => e.ix, e.tup, e.xd, e.frz⟩
section
variable {G : Ctx} {ι ι' : List Addr} {H H' : Hp}
mutual
theorem RV.monoI (e : Imm ι ι' H H') : ∀ {x : D} {v : V}, RV G ι H x v → RV G ι' H' x v
  | _, _, .non => .non
  | _, _, .bl b => .bl b
  | _, _, .int i => .int i
  | _, _, .str x => .str x
  | _, _, .tup s r => .tup (e.tup _ _ s) (RVs.monoI e r)
  | _, _, .ty n => .ty n
  | _, _, .cl h => .cl h
  | _, _, .scr h => .scr (h.imp (fun ⟨o, q⟩ => ⟨o, e.frz _ _ _ q⟩) id)
  | _, _, .ref h => .ref (e.ix _ _ h)
  | _, _, .err h d r => .err h (e.xd _ _ d) (RFs.monoI e r)
theorem RVs.monoI (e : Imm ι ι' H H') : ∀ {xs : List D} {vs : List V}, RVs G ι H xs vs → RVs G ι' H' xs vs
  | _, _, .nil => .nil
  | _, _, .cons r t => .cons (RV.monoI e r) (RVs.monoI e t)
theorem RFs.monoI (e : Imm ι ι' H H') : ∀ {xs : List (Str × D)} {vs : List (Str × V)}, RFs G ι H xs vs → RFs G ι' H' xs vs
  | _, _, .nil => .nil
  | _, _, .cons r t => .cons (RV.monoI e r) (RFs.monoI e t)
end
theorem RV.mono (e : Ext ι ι' H H') {x : D} {v : V} (h : RV G ι H x v) : RV G ι' H' x v := h.monoI e.imm
theorem RVs.mono (e : Ext ι ι' H H') {xs : List D} {vs : List V} (h : RVs G ι H xs vs) : RVs G ι' H' xs vs := h.monoI e.imm
theorem RFs.mono (e : Ext ι ι' H H') {xs : List (Str × D)} {vs : List (Str × V)} (h : RFs G ι H xs vs) : RFs G ι' H' xs vs := h.monoI e.imm
theorem RVs.length : ∀ {xs : List D} {vs : List V}, RVs G ι H xs vs → xs.length = vs.length
  | _, _, .nil => rfl
  | _, _, .cons _ t => by simp [RVs.length t]
theorem RVs.get : ∀ {xs : List D} {vs : List V} {i : Nat} {x : D}, RVs G ι H xs vs → xs[i]? = some x → ∃ v, vs[i]? = some v ∧ RV G ι H x v
  | _, _, _, _, .nil, e => by simp at e
  | _, _, 0, _, .cons r _, e => by simp at e; subst e; exact ⟨_, rfl, r⟩
  | _, _, i + 1, x, .cons _ t, e => by
    obtain ⟨v, h1, h2⟩ := RVs.get (i := i) t (by simpa using e)
    exact ⟨v, by simpa using h1, h2⟩
theorem RVs.get' : ∀ {xs : List D} {vs : List V} {i : Nat} {v : V}, RVs G ι H xs vs → vs[i]? = some v → ∃ x, xs[i]? = some x ∧ RV G ι H x v
  | _, _, _, _, .nil, e => by simp at e
  | _, _, 0, _, .cons r _, e => by simp at e; subst e; exact ⟨_, rfl, r⟩
  | _, _, i + 1, v, .cons _ t, e => by
    obtain ⟨x, h1, h2⟩ := RVs.get' (i := i) t (by simpa using e)
    exact ⟨x, by simpa using h1, h2⟩
theorem RVs.append : ∀ {xs ys : List D} {vs ws : List V}, RVs G ι H xs vs → RVs G ι H ys ws → RVs G ι H (xs ++ ys) (vs ++ ws)
  | _, _, _, _, .nil, s => s
  | _, _, _, _, .cons r t, s => .cons r (RVs.append t s)
theorem RVs.take : ∀ {xs : List D} {vs : List V} (n : Nat), RVs G ι H xs vs → RVs G ι H (xs.take n) (vs.take n)
  | _, _, 0, _ => .nil
  | _, _, _ + 1, .nil => .nil
  | _, _, n + 1, .cons r t => .cons r (RVs.take n t)
theorem RVs.drop : ∀ {xs : List D} {vs : List V} (n : Nat), RVs G ι H xs vs → RVs G ι H (xs.drop n) (vs.drop n)
  | _, _, 0, r => r
  | _, _, _ + 1, .nil => .nil
  | _, _, n + 1, .cons _ t => RVs.drop n t
theorem RVs.set {x : D} {v : V} (r : RV G ι H x v) : ∀ {xs : List D} {vs : List V} (i : Nat), RVs G ι H xs vs → RVs G ι H (xs.set i x) (vs.set i v)
  | _, _, _, .nil => .nil
  | _, _, 0, .cons _ t => .cons r t
  | _, _, i + 1, .cons q t => .cons q (RVs.set r i t)
theorem RVs.eraseIdx : ∀ {xs : List D} {vs : List V} (i : Nat), RVs G ι H xs vs → RVs G ι H (xs.eraseIdx i) (vs.eraseIdx i)
  | _, _, _, .nil => .nil
  | _, _, 0, .cons _ t => t
  | _, _, i + 1, .cons q t => .cons q (RVs.eraseIdx i t)
theorem RVs.reverse {xs : List D} {vs : List V} (h : RVs G ι H xs vs) : RVs G ι H xs.reverse vs.reverse := by
  induction xs generalizing vs with
  | nil => cases h; exact .nil
  | cons x xs ih =>
    cases h with
    | cons r t => rw [List.reverse_cons, List.reverse_cons]; exact (ih t).append (.cons r .nil)
theorem RVs.dropLast : ∀ {xs : List D} {vs : List V}, RVs G ι H xs vs → RVs G ι H xs.dropLast vs.dropLast
  | _, _, .nil => .nil
  | _, _, .cons _ .nil => .nil
  | _, _, .cons r (.cons r' t) => .cons r (RVs.dropLast (.cons r' t))
theorem RVs.ints : ∀ {ns : List Int} {vs : List V}, RVs G ι H (ns.map D.int) vs → vs = ns.map V.int
  | [], _, .nil => rfl
  | n :: ns, _, .cons r t => by
    cases r
    rw [RVs.ints t]; rfl
theorem RVs.of_ints : ∀ (ns : List Int), RVs G ι H (ns.map D.int) (ns.map V.int)
  | [] => .nil
  | n :: ns => .cons (.int n) (RVs.of_ints ns)
end

/-! ### cells, stores, slots -/
inductive RKV {κ : Type} (G : Ctx) (ι : List Addr) (H : Hp) : List (κ × D) → List (κ × V) → Prop
  | nil : RKV G ι H [] []
  | cons {k : κ} {x : D} {v : V} {xs : List (κ × D)} {vs : List (κ × V)} : RV G ι H x v → RKV G ι H xs vs → RKV G ι H ((k, x) :: xs) ((k, v) :: vs)
theorem RKV.monoI {κ : Type} {G : Ctx} {ι ι' : List Addr} {H H' : Hp} (e : Imm ι ι' H H') {xs : List (κ × D)} {vs : List (κ × V)} (h : RKV G ι H xs vs) : RKV G ι' H' xs vs := by
  induction h with
  | nil => exact .nil
  | cons r _ ih => exact .cons (r.monoI e) ih
theorem RKV.mono {κ : Type} {G : Ctx} {ι ι' : List Addr} {H H' : Hp} (e : Ext ι ι' H H') {xs : List (κ × D)} {vs : List (κ × V)} (h : RKV G ι H xs vs) : RKV G ι' H' xs vs := h.monoI e.imm
def CellOk (G : Ctx) (ι : List Addr) (H : Hp) (a : Addr) : Cell → Prop
  | .lst xs => ∃ vs, H a = some (.lst vs) ∧ RVs G ι H xs vs
  | .frz xs => ∃ o vs, H a = some (.frz o (.lst vs)) ∧ RVs G ι H xs vs
  | .dK kvs => ∃ ws, H a = some (.dK ws) ∧ RKV G ι H kvs ws
  | .dT kvs => ∃ ws, H a = some (.dT ws) ∧ RKV G ι H kvs ws
  | .ins c fs => ∃ C dx ws, G.cls c = .ref C ∧ H a = some (.ins C dx ws) ∧ RFs G ι H fs ws
structure Rep (G : Ctx) (ι : List Addr) (st : Store) (H : Hp) : Prop where
  len : ι.length = st.length
  nd : ι.Nodup
  cell : ∀ (i : Nat) (c : Cell) (a : Addr), st[i]? = some c → ι[i]? = some a → CellOk G ι H a c
structure REnv (G : Ctx) (ι : List Addr) (H : Hp) (env : Env) (σ : St) : Prop where
  len : env.length = σ.length
  at_ : ∀ (i : Nat) (d : D), env[i]? = some (some d) → ∃ v, σ[i]? = some (some v) ∧ RV G ι H d v
section
variable {G : Ctx} {ι ι' : List Addr} {H H' : Hp} {st : Store} {env : Env} {σ : St} {a p : Addr} {n : Nat} {c c' : Cell} {o : HO}
theorem REnv.mono (r : REnv G ι H env σ) (e : Ext ι ι' H H') : REnv G ι' H' env σ := ⟨r.len, fun i d h => let ⟨v, h1, h2⟩ := r.at_ i d h; ⟨v, h1, h2.mono e⟩⟩
theorem REnv.set (r : REnv G ι H env σ) {i : Nat} {d : D} {v : V} (rv : RV G ι H d v) : REnv G ι H (env.set i (some d)) (σ.set i (some v)) := by
  refine ⟨by rw [List.length_set, List.length_set, r.len], fun j e h => ?_⟩
  by_cases hj : i = j
  · subst hj
    have hl : i < env.length := by
      have := (List.getElem?_eq_some_iff.mp h).1
      simpa using this
    rw [List.getElem?_set_self hl] at h
    cases h
    exact ⟨v, List.getElem?_set_self (by rw [← r.len]; exact hl), rv⟩
  · rw [List.getElem?_set_ne hj] at h
    obtain ⟨w, h1, h2⟩ := r.at_ j e h
    exact ⟨w, by rw [List.getElem?_set_ne hj]; exact h1, h2⟩
theorem REnv.unset (r : REnv G ι H env σ) (i : Nat) : REnv G ι H (env.set i none) (σ.set i none) := by
  refine ⟨by rw [List.length_set, List.length_set, r.len], fun j e h => ?_⟩
  by_cases hj : i = j
  · subst hj
    have hl : i < env.length := by
      have := (List.getElem?_eq_some_iff.mp h).1
      simpa using this
    rw [List.getElem?_set_self hl] at h
    cases h
  · rw [List.getElem?_set_ne hj] at h
    obtain ⟨w, h1, h2⟩ := r.at_ j e h
    exact ⟨w, by rw [List.getElem?_set_ne hj]; exact h1, h2⟩
def dWipe (env : Env) : List Nat → Env
  | [] => env
  | v :: vs => (dWipe env vs).set v none
theorem REnv.wipe (r : REnv G ι H env σ) : ∀ vs : List Nat, REnv G ι H (dWipe env vs) (L2.wipe σ vs)
  | [] => r
  | v :: vs => (REnv.wipe r vs).unset v
theorem CellOk.mono_ofI (k : CellOk G ι H a c) (e : Imm ι ι' H H') (h : H' a = H a) : CellOk G ι' H' a c := by
  cases c with
  | lst xs => obtain ⟨vs, h1, h2⟩ := k; exact ⟨vs, h.trans h1, h2.monoI e⟩
  | frz xs => obtain ⟨q, vs, h1, h2⟩ := k; exact ⟨q, vs, h.trans h1, h2.monoI e⟩
  | dK kvs => obtain ⟨ws, h1, h2⟩ := k; exact ⟨ws, h.trans h1, h2.monoI e⟩
  | dT kvs => obtain ⟨ws, h1, h2⟩ := k; exact ⟨ws, h.trans h1, h2.monoI e⟩
  | ins q fs => obtain ⟨C, dx, ws, h0, h1, h2⟩ := k; exact ⟨C, dx, ws, h0, h.trans h1, h2.monoI e⟩
theorem CellOk.mono_of (k : CellOk G ι H a c) (e : Ext ι ι' H H') (h : H' a = H a) : CellOk G ι' H' a c := k.mono_ofI e.imm h
theorem CellOk.there (k : CellOk G ι H a c) : ∃ o, H a = some o := by
  cases c with
  | lst xs => obtain ⟨vs, h1, h2⟩ := k; exact ⟨_, h1⟩
  | frz xs => obtain ⟨q, vs, h1, h2⟩ := k; exact ⟨_, h1⟩
  | dK kvs => obtain ⟨ws, h1, h2⟩ := k; exact ⟨_, h1⟩
  | dT kvs => obtain ⟨ws, h1, h2⟩ := k; exact ⟨_, h1⟩
  | ins q fs => obtain ⟨C, dx, ws, h0, h1, h2⟩ := k; exact ⟨_, h1⟩
theorem Rep.addr (r : Rep G ι st H) (h : st[n]? = some c) : ∃ a, ι[n]? = some a ∧ CellOk G ι H a c := by
  have hn : n < ι.length := by rw [r.len]; exact (List.getElem?_eq_some_iff.mp h).1
  exact ⟨ι[n], by simp [hn], r.cell n c _ h (by simp [hn])⟩
theorem Rep.free (r : Rep G ι st H) (h : H p = none) : p ∉ ι := fun hm => by
  obtain ⟨i, hi, e⟩ := List.getElem_of_mem hm
  have hs : i < st.length := by rw [← r.len]; exact hi
  obtain ⟨o, q⟩ := (r.cell i st[i] p (by simp [hs]) (by rw [← e]; simp [hi])).there
  rw [h] at q; cases q
/-- a fresh object -/
theorem there_upd {a : Addr} : upd H p o a = none → H a = none := fun e => by
  by_cases h : a = p
  · subst h; rw [upd_same] at e; cases e
  · rw [upd_ne h] at e; exact e
theorem Ext.fresh (h : H p = none) : Ext ι ι H (upd H p o) :=
  ⟨⟨[], by simp, by simp⟩, fun a q _ e => by rw [upd_ne (ne_of_none e h)]; exact e, fun a xs e => by rw [upd_ne (ne_of_none e h)]; exact e, fun a q u e => by rw [upd_ne (ne_of_none e h)]; exact e, fun a fs e => by rw [upd_ne (ne_of_none e h)]; exact e, fun _ => there_upd⟩
theorem Ext.push (h : H p = none) : Ext ι (ι ++ [p]) H (upd H p o) := ⟨⟨[p], rfl, by simpa using h⟩, (Ext.fresh (ι := ι) h).keep, (Ext.fresh (ι := ι) h).tup, (Ext.fresh (ι := ι) h).frz, (Ext.fresh (ι := ι) h).xd, fun _ => there_upd⟩
theorem Rep.fresh (r : Rep G ι st H) (h : H p = none) : Rep G ι st (upd H p o) :=
  ⟨r.len, r.nd, fun i c a h1 h2 => by
    have k := r.cell i c a h1 h2
    obtain ⟨u, q⟩ := k.there
    exact k.mono_of (Ext.fresh h) (upd_ne (ne_of_none q h))⟩
/-- .. that is a new cell -/
theorem Rep.alloc (r : Rep G ι st H) (h : H p = none) (k : CellOk G (ι ++ [p]) (upd H p o) p c) : Rep G (ι ++ [p]) (st ++ [c]) (upd H p o) := by
  refine ⟨by simp [r.len], ?_, fun i c' a h1 h2 => ?_⟩
  · rw [List.nodup_append]
    refine ⟨r.nd, by simp, fun x hx y hy e => ?_⟩
    have : y = p := by simpa using hy
    subst this; subst e
    exact r.free h hx
  · by_cases hi : i < st.length
    · rw [List.getElem?_append_left hi] at h1
      rw [List.getElem?_append_left (by rw [r.len]; exact hi)] at h2
      have k' := r.cell i c' a h1 h2
      obtain ⟨u, q⟩ := k'.there
      exact k'.mono_of (Ext.push h) (upd_ne (ne_of_none q h))
    · have hi' : i = st.length := by
        have := (List.getElem?_eq_some_iff.mp h1).1
        simp at this
        omega
      subst hi'
      rw [List.getElem?_append_right (Nat.le_refl _), Nat.sub_self] at h1
      rw [List.getElem?_append_right (by rw [r.len]; exact Nat.le_refl _), r.len, Nat.sub_self] at h2
      cases h1; cases h2
      exact k
/-- an object that stands becomes a cell -/
theorem Rep.adopt (r : Rep G ι st H) (hp : p ∉ ι) (k : CellOk G (ι ++ [p]) H p c) : Rep G (ι ++ [p]) (st ++ [c]) H := by
  have e : Imm ι (ι ++ [p]) H H := ⟨fun n a h => by rw [List.getElem?_append_left (List.getElem?_eq_some_iff.mp h).1, h], fun _ _ h => h, fun _ _ h => h, fun _ _ _ h => h⟩
  refine ⟨by simp [r.len], ?_, fun i c' a h1 h2 => ?_⟩
  · rw [List.nodup_append]
    refine ⟨r.nd, by simp, fun x hx y hy exy => ?_⟩
    have hyp : y = p := by simpa using hy
    rw [exy, hyp] at hx
    exact hp hx
  · by_cases hi : i < st.length
    · rw [List.getElem?_append_left hi] at h1
      rw [List.getElem?_append_left (by rw [r.len]; exact hi)] at h2
      exact (r.cell i c' a h1 h2).mono_ofI e rfl
    · have hi' : i = st.length := by
        have := (List.getElem?_eq_some_iff.mp h1).1
        simp at this
        omega
      subst hi'
      rw [List.getElem?_append_right (Nat.le_refl _), Nat.sub_self] at h1
      rw [List.getElem?_append_right (by rw [r.len]; exact Nat.le_refl _), r.len, Nat.sub_self] at h2
      cases h1; cases h2
      exact k
theorem Ext.adopt (e : Ext ι ι' H H') (h : H p = none) : Ext ι (ι' ++ [p]) H H' := by
  obtain ⟨m, q1, q2⟩ := e.pre
  exact ⟨⟨m ++ [p], by rw [q1, List.append_assoc], fun a ha => (List.mem_append.mp ha).elim (q2 a) fun z => by rw [List.mem_singleton.mp z]; exact h⟩, e.keep, e.tup, e.frz, e.xd, e.there⟩
/-- a thing that is no cell is changed -/
theorem Imm.poke {xs : List V} {u : HO} (h : H p = some u) (hu : (∀ xs, u ≠ .tup xs) ∧ (∀ fs, u ≠ .xd fs) ∧ ∀ o w, u ≠ .frz o w) : Imm ι ι H (upd H p o) :=
  ⟨fun _ _ z => z, fun a ys e => by rw [upd_ne (fun z => by subst z; rw [h] at e; cases e; exact hu.1 _ rfl)]; exact e, fun a ys e => by rw [upd_ne (fun z => by subst z; rw [h] at e; cases e; exact hu.2.1 _ rfl)]; exact e, fun a o ys e => by rw [upd_ne (fun z => by subst z; rw [h] at e; cases e; exact hu.2.2 _ _ rfl)]; exact e⟩
theorem Rep.poke {u : HO} (r : Rep G ι st H) (hp : p ∉ ι) (h : H p = some u) (hu : (∀ xs, u ≠ .tup xs) ∧ (∀ fs, u ≠ .xd fs) ∧ ∀ o w, u ≠ .frz o w) : Rep G ι st (upd H p o) :=
  ⟨r.len, r.nd, fun i c a h1 h2 => (r.cell i c a h1 h2).mono_ofI (Imm.poke (xs := []) h hu) (upd_ne fun z => hp (z ▸ List.mem_of_getElem? h2))⟩
theorem Ext.poke (e : Ext ι ι' H H') (h : H p = none) : Ext ι ι' H (upd H' p o) := by
  have ne : ∀ {a : Addr} {u : HO}, H a = some u → a ≠ p := fun {a u} q z => by subst z; rw [h] at q; cases q
  exact ⟨e.pre, fun a u hn q => by rw [upd_ne (ne q)]; exact e.keep a u hn q, fun a xs q => by rw [upd_ne (ne q)]; exact e.tup _ _ q, fun a u v q => by rw [upd_ne (ne q)]; exact e.frz _ _ _ q, fun a fs q => by rw [upd_ne (ne q)]; exact e.xd _ _ q,
    fun a q => by
      by_cases z : a = p
      · rw [z]; exact h
      · rw [upd_ne z] at q; exact e.there a q⟩
theorem Ext.stay (e : Ext ι ι' H H') {u : HO} (hn : p ∉ ι) (h : H p = some u) : p ∉ ι' ∧ H' p = some u := by
  refine ⟨?_, e.keep p _ hn h⟩
  obtain ⟨more, q1, q2⟩ := e.pre
  rw [q1]
  intro hm
  rcases List.mem_append.mp hm with z | z
  · exact hn z
  · rw [q2 p z] at h; cases h
/-- a cell that may be written -/
def mutO : HO → Bool
  | .lst _ | .dK _ | .dT _ | .ins _ _ _ => true
  | _ => false
theorem Ext.write {q : HO} (hn : ι[n]? = some a) (h : H a = some q) (m : mutO q = true) : Ext ι ι H (upd H a o) := by
  have ne : ∀ b u, H b = some u → mutO u = false → b ≠ a := fun b u e f z => by
    subst z; rw [h] at e; cases e; rw [m] at f; cases f
  exact ⟨⟨[], by simp, by simp⟩, fun b q hb e => by rw [upd_ne (fun z => hb (by rw [z]; exact List.mem_of_getElem? hn))]; exact e, fun b xs e => by rw [upd_ne (ne b _ e rfl)]; exact e, fun b q u e => by rw [upd_ne (ne b _ e rfl)]; exact e, fun b fs e => by rw [upd_ne (ne b _ e rfl)]; exact e, fun _ => there_upd⟩
theorem Rep.write {q : HO} (r : Rep G ι st H) (hn : ι[n]? = some a) (h : H a = some q) (m : mutO q = true) (k : CellOk G ι (upd H a o) a c) : Rep G ι (st.set n c) (upd H a o) := by
  refine ⟨by simp [r.len], r.nd, fun i c' b h1 h2 => ?_⟩
  by_cases hi : n = i
  · subst hi
    have hl : n < st.length := by rw [← r.len]; exact (List.getElem?_eq_some_iff.mp hn).1
    rw [List.getElem?_set_self hl] at h1
    rw [hn] at h2
    cases h1; cases h2
    exact k
  · rw [List.getElem?_set_ne hi] at h1
    have k' := r.cell i c' b h1 h2
    have hb : b ≠ a := fun z => by
      subst z
      exact hi (nd_ix r.nd hn h2)
    exact k'.mono_of (Ext.write hn h m) (upd_ne hb)
end

/-! ### results -/
section
variable {α β γ : Type}
def okR (G : Ctx) (W : WX) (ι : List Addr) (H : Hp) (σ : St) (rel : List Addr → Hp → α → β → Prop) (Q : β → Hp → Prop) : R α → Prop
  | .ok d st => ∀ ι' H' v, Ext ι ι' H H' → Rep G ι' st H' → rel ι' H' d v → Q v H'
  | .exc x st => ∀ ι' H' dd ws, Ext ι ι' H H' → Rep G ι' st H' → H' dd = some (.xd ws) → RFs G ι' H' x.fs ws → W (G.cls x.c) (some dd) σ H'
  | .bad => False
variable {G : Ctx} {W : WX} {ι ι' : List Addr} {H H' : Hp} {σ : St} {rel : List Addr → Hp → α → β → Prop} {Q : β → Hp → Prop}
theorem okR.mono {r : R α} (h : okR G W ι H σ rel Q r) (e : Ext ι ι' H H') : okR G W ι' H' σ rel Q r := by
  cases r with
  | ok d st => exact fun ι1 H1 v e1 => h ι1 H1 v (e.trans e1)
  | exc x st => exact fun ι1 H1 dd ws e1 => h ι1 H1 dd ws (e.trans e1)
  | bad => exact h
theorem okR.ok {d : α} {v : β} {st : Store} (h : okR G W ι H σ rel Q (.ok d st)) (r : Rep G ι st H) (rv : rel ι H d v) : Q v H := h ι H v (Ext.refl _ _) r rv
theorem okR.bind {γ δ : Type} {rel2 : List Addr → Hp → γ → δ → Prop} {Q2 : δ → Hp → Prop} {m : R α} {f : α → Store → R γ} (h : okR G W ι H σ rel2 Q2 (m.bind f))
    (k : ∀ d st1 ι1 H1 v, Ext ι ι1 H H1 → Rep G ι1 st1 H1 → rel ι1 H1 d v → okR G W ι1 H1 σ rel2 Q2 (f d st1) → Q v H1) : okR G W ι H σ rel Q m := by
  cases m with
  | ok d st => exact fun ι1 H1 v e r rv => k d st ι1 H1 v e r rv (okR.mono h e)
  | exc x st => exact h
  | bad => exact h
end
abbrev relB (_ : List Addr) (_ : Hp) (b c : Bool) : Prop := b = c
/-- the readings of denotations -/
def sE (G : Ctx) (W : WX) (m : DE) : TE := fun σ H Q => ∃ ι st env, Rep G ι st H ∧ REnv G ι H env σ ∧ okR G W ι H σ (RV G) Q (m env st)
def sT (G : Ctx) (W : WX) (m : DB) : TT := fun σ H Q => ∃ ι st env, Rep G ι st H ∧ REnv G ι H env σ ∧ okR G W ι H σ relB Q (m env st)
def sA (G : Ctx) (W : WX) (m : DA) : TA := fun σ H Q => ∃ ι st env, Rep G ι st H ∧ REnv G ι H env σ ∧ okR G W ι H σ (RVs G) Q (m env st)
theorem _root_.L2.PE.imp {X : Cx} {e : Expr} {t t' : TE} (h : PE X e t) (k : ∀ σ H Q, t' σ H Q → t σ H Q) : PE X e t' := ⟨fun pins s σ H Q I q => h.run pins s σ H Q I (k σ H Q q)⟩
theorem _root_.L2.PT.imp {X : Cx} {e : Expr} {t t' : TT} (h : PT X e t) (k : ∀ σ H Q, t' σ H Q → t σ H Q) : PT X e t' := ⟨fun pins s σ H Q I q => h.run pins s σ H Q I (k σ H Q q)⟩
theorem _root_.L2.PW.imp {X : Cx} {e : Expr} {t t' : TT} (h : PW X e t) (k : ∀ σ H Q, t' σ H Q → t σ H Q) : PW X e t' := ⟨fun whole pins s σ H Q I q => h.run whole pins s σ H Q I (k σ H Q q)⟩
theorem _root_.L2.PA.imp {X : Cx} {e : List Expr} {t t' : TA} (h : PA X e t) (k : ∀ σ H Q, t' σ H Q → t σ H Q) : PA X e t' := ⟨fun p pins s σ H Q I q => h.run p pins s σ H Q I (k σ H Q q)⟩
theorem _root_.L2.PS.imp {X : Cx} {e : Stmt} {t t' : TS} (h : PS X e t) (k : ∀ D σ H, t' D σ H → t D σ H) : PS X e t' := ⟨fun pins s σ H D I q => h.run pins s σ H D I (k D σ H q)⟩
theorem _root_.L2.PSs.imp {X : Cx} {e : List Stmt} {t t' : TS} (h : PSs X e t) (k : ∀ D σ H, t' D σ H → t D σ H) : PSs X e t' := ⟨fun pins s σ H D I q => h.run pins s σ H D I (k D σ H q)⟩

/-! ### expressions -/
section
variable {X : Cx} {G : Ctx} {W : WX} {a b c e : Expr} {ma mb mc : DE} {pos : Pos}
def dVar (i : Nat) : DE := fun env st => match env[i]? with
  | some (some d) => .ok d st
  | _ => .bad
def dC (d : D) : DE := fun _ st => .ok d st
theorem r_var (i : Nat) (h : PE X e (tVar i)) : PE X e (sE G W (dVar i)) := h.imp fun σ H Q ⟨ι, st, env, r, re, q⟩ => by
  unfold dVar at q
  cases h1 : env[i]? with
  | none => rw [h1] at q; exact q.elim
  | some z =>
    cases z with
    | none => rw [h1] at q; exact q.elim
    | some d =>
      rw [h1] at q
      obtain ⟨v, h2, h3⟩ := re.at_ i d h1
      exact ⟨v, h2, okR.ok q r h3⟩
theorem r_const {v : V} {d : D} (h : PE X e (tC v)) (rv : ∀ ι H, RV G ι H d v) : PE X e (sE G W (dC d)) := h.imp fun σ H Q ⟨ι, st, env, r, re, q⟩ => okR.ok (v := v) q r (rv ι H)
theorem r_int {i j pos} : PE X (.Constant (.int i) j pos) (sE G W (dC (.int i))) := r_const pe_int fun _ _ => .int i
theorem r_bl {i j pos} : PE X (.Constant (.bool i) j pos) (sE G W (dC (.bl i))) := r_const pe_bl fun _ _ => .bl i
theorem r_non {j pos} : PE X (.Constant .none j pos) (sE G W (dC .non)) := r_const pe_non fun _ _ => .non
theorem r_str {x j pos} : PE X (.Constant (.str x) j pos) (sE G W (dC (.str x))) := r_const pe_str fun _ _ => .str x
def dBin (f : D → D → Store → R D) (ma mb : DE) : DE := fun env st => (ma env st).bind fun x st1 => (mb env st1).bind fun y st2 => f x y st2
def dUn (f : D → Store → R D) (ma : DE) : DE := fun env st => (ma env st).bind f
/-- what a rule on two values must do for a denotation on two values -/
def Fits2 (G : Ctx) (r : R2) (f : D → D → Store → R D) : Prop := ∀ (W : WX) (ι : List Addr) (st : Store) (H : Hp) (σ : St) (x y : D) (v w : V) (Q : VK), Rep G ι st H → RV G ι H x v → RV G ι H y w → okR G W ι H σ (RV G) Q (f x y st) → r v w H Q
def Fits1 (G : Ctx) (r : V → Hp → VK → Prop) (f : D → Store → R D) : Prop := ∀ (W : WX) (ι : List Addr) (st : Store) (H : Hp) (σ : St) (x : D) (v : V) (Q : VK), Rep G ι st H → RV G ι H x v → okR G W ι H σ (RV G) Q (f x st) → r v H Q
def FitsL (G : Ctx) (r : List V → Hp → VK → Prop) (f : List D → Store → R D) : Prop := ∀ (W : WX) (ι : List Addr) (st : Store) (H : Hp) (σ : St) (xs : List D) (vs : List V) (Q : VK), Rep G ι st H → RVs G ι H xs vs → okR G W ι H σ (RV G) Q (f xs st) → r vs H Q
theorem fit_op {r : R2} {f : D → D → Store → R D} (hf : Fits2 G r f) {σ : St} {H : Hp} {Q : VK} (h : sE G W (dBin f ma mb) σ H Q) : tOp r (sE G W ma) (sE G W mb) σ H Q := by
  obtain ⟨ι, st, env, rp, re, q⟩ := h
  exact ⟨ι, st, env, rp, re, okR.bind q fun x st1 ι1 H1 v e1 rp1 rv q1 => ⟨ι1, st1, env, rp1, re.mono e1, okR.bind q1 fun y st2 ι2 H2 w e2 rp2 rw' q2 => hf W ι2 st2 H2 σ x y v w Q rp2 (rv.mono e2) rw' q2⟩⟩
theorem r_op {op : Operator} {r : R2} {f : D → D → Store → R D} (ho : OpR X (binaryOp op) r) (hf : Fits2 G r f) (ha : PE X a (sE G W ma)) (hb : PE X b (sE G W mb)) : PE X (.BinOp a op b pos) (sE G W (dBin f ma mb)) :=
  (pe_op ho ha hb).imp fun _ _ _ h => fit_op hf h
theorem r_cmp {op : CmpOp} {r : R2} {f : D → D → Store → R D} (ho : OpR X (compareOp op) r) (hf : Fits2 G r f) (ha : PE X a (sE G W ma)) (hb : PE X b (sE G W mb)) (hm : behindInMarks op b = false) : PE X (.Compare a [op] [b] pos) (sE G W (dBin f ma mb)) :=
  (pe_cmpR ho ha hb hm).imp fun _ _ _ h => fit_op hf h
theorem r_ix {r : R2} {f : D → D → Store → R D} (ho : IxR X r) (hf : Fits2 G r f) (ha : PE X a (sE G W ma)) (hb : PE X b (sE G W mb)) (hs : PlainIx b) : PE X (.Subscript a b pos) (sE G W (dBin f ma mb)) :=
  (pe_ix ho ha hb hs).imp fun _ _ _ h => fit_op hf h
theorem r_un {op : UnaryOp} {r : V → Hp → VK → Prop} {f : D → Store → R D} (ho : UnR X (unaryOp op) r) (hf : Fits1 G r f) (ha : PE X a (sE G W ma)) : PE X (.UnaryOp op a pos) (sE G W (dUn f ma)) :=
  (pe_un ho ha).imp fun σ H Q ⟨ι, st, env, rp, re, q⟩ => ⟨ι, st, env, rp, re, okR.bind q fun x st1 ι1 H1 v e1 rp1 rv q1 => hf W ι1 st1 H1 σ x v Q rp1 rv q1⟩
/-! ### tests -/
/-- a value that is True or False, as a test -/
def dTest (m : DE) : DB := fun env st => (m env st).bind fun x st1 => match x with
  | .bl b => .ok b st1
  | _ => .bad
theorem fit_test {t : TE} {σ : St} {H : Hp} {Q : Bool → Hp → Prop} (h : sT G W (dTest ma) σ H Q) : sE G W ma σ H fun x H1 => ∃ k, x = .bl k ∧ Q k H1 := by
  obtain ⟨ι, st, env, rp, re, q⟩ := h
  refine ⟨ι, st, env, rp, re, okR.bind q fun x st1 ι1 H1 v e1 rp1 rv q1 => ?_⟩
  cases rv with
  | bl b => exact ⟨b, rfl, okR.ok q1 rp1 rfl⟩
  | _ => exact q1.elim
theorem r_test (h : PE X e (sE G W ma)) (he : ∀ whole, isTrue e X.env whole = (do let v ← whole; standAt e.pos; holding [v] (truthy v)) := by intro _; rfl) : PT X e (sT G W (dTest ma)) :=
  (pt_val h he).imp fun _ _ _ q => fit_test (t := sE G W ma) q
theorem r_tcmp {op : CmpOp} {r : R2} {f : D → D → Store → R D} (ho : OpR X (compareOp op) r) (hf : Fits2 G r f) (ha : PE X a (sE G W ma)) (hb : PE X b (sE G W mb)) (hm : behindInMarks op b = false) : PT X (.Compare a [op] [b] pos) (sT G W (dTest (dBin f ma mb))) :=
  (pt_cmpR ho ha hb hm).imp fun _ _ _ q => fit_op hf (fit_test (t := sE G W ma) q)
/-- a op b op' c -/
def dChain (f g : D → D → Store → R D) (ma mb mc : DE) : DE := fun env st => (ma env st).bind fun x st1 => (mb env st1).bind fun y st2 => (f x y st2).bind fun z st3 => match z with
  | .bl true => (mc env st3).bind fun w st4 => g y w st4
  | .bl false => .ok (.bl false) st3
  | _ => .bad
theorem fit_chain {r r' : R2} {f g : D → D → Store → R D} (hf : Fits2 G r f) (hg : Fits2 G r' g) {σ : St} {H : Hp} {Q : VK} (h : sE G W (dChain f g ma mb mc) σ H Q) : tChain r r' (sE G W ma) (sE G W mb) (sE G W mc) σ H Q := by
  obtain ⟨ι, st, env, rp, re, q⟩ := h
  refine ⟨ι, st, env, rp, re, okR.bind q fun x st1 ι1 H1 v e1 rp1 rv q1 => ⟨ι1, st1, env, rp1, re.mono e1, okR.bind q1 fun y st2 ι2 H2 w e2 rp2 rw' q2 => ?_⟩⟩
  refine hf W ι2 st2 H2 σ x y v w _ rp2 (rv.mono e2) rw' (okR.bind q2 fun z st3 ι3 H3 u e3 rp3 ru q3 => ?_)
  cases ru with
  | bl k =>
    refine ⟨k, rfl, ?_⟩
    cases k with
    | true =>
      refine iteT ⟨ι3, st3, env, rp3, (re.mono (e1.trans e2)).mono e3, okR.bind q3 fun w2 st4 ι4 H4 u2 e4 rp4 ru2 q4 => ?_⟩
      exact hg W ι4 st4 H4 σ y w2 w u2 Q rp4 ((rw'.mono e3).mono e4) ru2 q4
    | false => exact iteF (okR.ok q3 rp3 (.bl false))
  | _ => exact q3.elim
theorem r_chain {op op' : CmpOp} {r r' : R2} {f g : D → D → Store → R D} (ho : OpR X (compareOp op) r) (ho' : OpR X (compareOp op') r') (hf : Fits2 G r f) (hg : Fits2 G r' g) (ha : PE X a (sE G W ma)) (hb : PE X b (sE G W mb)) (hc : PE X c (sE G W mc))
    (hm : lastMarks [op, op'] [b, c] = false := by with_unfolding_all rfl) : PE X (.Compare a [op, op'] [b, c] pos) (sE G W (dChain f g ma mb mc)) := (pe_chain ho ho' ha hb hc hm).imp fun _ _ _ h => fit_chain hf hg h
theorem r_tchain {op op' : CmpOp} {r r' : R2} {f g : D → D → Store → R D} (ho : OpR X (compareOp op) r) (ho' : OpR X (compareOp op') r') (hf : Fits2 G r f) (hg : Fits2 G r' g) (ha : PE X a (sE G W ma)) (hb : PE X b (sE G W mb)) (hc : PE X c (sE G W mc))
    (hm : lastMarks [op, op'] [b, c] = false := by with_unfolding_all rfl) : PT X (.Compare a [op, op'] [b, c] pos) (sT G W (dTest (dChain f g ma mb mc))) := (pt_chain ho ho' ha hb hc hm).imp fun _ _ _ h => fit_chain hf hg (fit_test (t := sE G W ma) h)
variable {na nb : DB} {rest : List Expr}
def dTAnd (na nb : DB) : DB := fun env st => (na env st).bind fun k st1 => if k then nb env st1 else .ok false st1
def dTOr (na nb : DB) : DB := fun env st => (na env st).bind fun k st1 => if k then .ok true st1 else nb env st1
def dTNot (na : DB) : DB := fun env st => (na env st).bind fun k st1 => .ok (!k) st1
theorem r_wand1 (ha : PT X a (sT G W na)) : PW X (.BoolOp .And [a] pos) (sT G W na) := pw_and1 ha
theorem r_wor1 (ha : PT X a (sT G W na)) : PW X (.BoolOp .Or [a] pos) (sT G W na) := pw_or1 ha
theorem r_wand (ha : PT X a (sT G W na)) (hb : PW X (.BoolOp .And (b :: rest) pos) (sT G W nb)) : PW X (.BoolOp .And (a :: b :: rest) pos) (sT G W (dTAnd na nb)) :=
  (pw_and ha hb).imp fun σ H Q ⟨ι, st, env, rp, re, q⟩ => ⟨ι, st, env, rp, re, okR.bind q fun k st1 ι1 H1 k' e1 rp1 rk q1 => by
    obtain rfl : k = k' := rk
    cases k with
    | true => exact iteT ⟨ι1, st1, env, rp1, re.mono e1, q1⟩
    | false => exact iteF (okR.ok q1 rp1 rfl)⟩
theorem r_wor (ha : PT X a (sT G W na)) (hb : PW X (.BoolOp .Or (b :: rest) pos) (sT G W nb)) : PW X (.BoolOp .Or (a :: b :: rest) pos) (sT G W (dTOr na nb)) :=
  (pw_or ha hb).imp fun σ H Q ⟨ι, st, env, rp, re, q⟩ => ⟨ι, st, env, rp, re, okR.bind q fun k st1 ι1 H1 k' e1 rp1 rk q1 => by
    obtain rfl : k = k' := rk
    cases k with
    | false => exact iteF ⟨ι1, st1, env, rp1, re.mono e1, q1⟩
    | true => exact iteT (okR.ok q1 rp1 rfl)⟩
theorem r_tnot (ha : PT X a (sT G W na)) : PT X (.UnaryOp .Not a pos) (sT G W (dTNot na)) :=
  (pt_not ha).imp fun σ H Q ⟨ι, st, env, rp, re, q⟩ => ⟨ι, st, env, rp, re, okR.bind q fun k st1 ι1 H1 k' e1 rp1 rk q1 => by
    obtain rfl : k = k' := rk
    exact okR.ok q1 rp1 rfl⟩
/-- and, or, not as values: all but the last True or False -/
def dAnd (ma mb : DE) : DE := fun env st => (ma env st).bind fun x st1 => match x with
  | .bl true => mb env st1
  | .bl false => .ok (.bl false) st1
  | _ => .bad
def dOr (ma mb : DE) : DE := fun env st => (ma env st).bind fun x st1 => match x with
  | .bl true => .ok (.bl true) st1
  | .bl false => mb env st1
  | _ => .bad
def dNot (ma : DE) : DE := fun env st => (ma env st).bind fun x st1 => match x with
  | .bl k => .ok (.bl !k) st1
  | _ => .bad
theorem r_one {op : BoolOp} (h : PE X a (sE G W ma)) : PE X (.BoolOp op [a] pos) (sE G W ma) := pe_one h
theorem r_and (ha : PE X a (sE G W ma)) (hb : PE X (.BoolOp .And (b :: rest) pos) (sE G W mb)) : PE X (.BoolOp .And (a :: b :: rest) pos) (sE G W (dAnd ma mb)) :=
  (pe_and ha hb).imp fun σ H Q ⟨ι, st, env, rp, re, q⟩ => ⟨ι, st, env, rp, re, okR.bind q fun x st1 ι1 H1 v e1 rp1 rv q1 => by
    cases rv with
    | bl k =>
      refine ⟨k, rfl, ?_⟩
      cases k with
      | true => exact iteT ⟨ι1, st1, env, rp1, re.mono e1, q1⟩
      | false => exact iteF (okR.ok q1 rp1 (.bl false))
    | _ => exact q1.elim⟩
theorem r_or (ha : PE X a (sE G W ma)) (hb : PE X (.BoolOp .Or (b :: rest) pos) (sE G W mb)) : PE X (.BoolOp .Or (a :: b :: rest) pos) (sE G W (dOr ma mb)) :=
  (pe_or ha hb).imp fun σ H Q ⟨ι, st, env, rp, re, q⟩ => ⟨ι, st, env, rp, re, okR.bind q fun x st1 ι1 H1 v e1 rp1 rv q1 => by
    cases rv with
    | bl k =>
      refine ⟨k, rfl, ?_⟩
      cases k with
      | false => exact iteF ⟨ι1, st1, env, rp1, re.mono e1, q1⟩
      | true => exact iteT (okR.ok q1 rp1 (.bl true))
    | _ => exact q1.elim⟩
theorem r_not (ha : PE X a (sE G W ma)) : PE X (.UnaryOp .Not a pos) (sE G W (dNot ma)) :=
  (pe_not ha).imp fun σ H Q ⟨ι, st, env, rp, re, q⟩ => ⟨ι, st, env, rp, re, okR.bind q fun x st1 ι1 H1 v e1 rp1 rv q1 => by
    cases rv with
    | bl k => exact ⟨k, rfl, okR.ok q1 rp1 (.bl _)⟩
    | _ => exact q1.elim⟩
def dIfE (n : DB) (ma mb : DE) : DE := fun env st => (n env st).bind fun k st1 => if k then ma env st1 else mb env st1
theorem r_ifE {t : Expr} (ht : PT X t (sT G W na)) (ha : PE X a (sE G W ma)) (hb : PE X b (sE G W mb)) : PE X (.IfExp t a b pos) (sE G W (dIfE na ma mb)) :=
  (pe_ifExp ht ha hb).imp fun σ H Q ⟨ι, st, env, rp, re, q⟩ => ⟨ι, st, env, rp, re, okR.bind q fun k st1 ι1 H1 k' e1 rp1 rk q1 => by
    obtain rfl : k = k' := rk
    cases k with
    | true => exact iteT ⟨ι1, st1, env, rp1, re.mono e1, q1⟩
    | false => exact iteF ⟨ι1, st1, env, rp1, re.mono e1, q1⟩⟩
/-! ### argument lists, displays -/
variable {es : List Expr} {mr : DA}
def aNil : DA := fun _ st => .ok [] st
def aCons (m : DE) (mr : DA) : DA := fun env st => (m env st).bind fun x st1 => (mr env st1).bind fun xs st2 => .ok (x :: xs) st2
theorem r_anil : PA X [] (sA G W aNil) := pa_nil.imp fun σ H Q ⟨ι, st, env, rp, re, q⟩ => okR.ok q rp .nil
theorem r_acons (ha : PE X e (sE G W ma)) (hr : PA X es (sA G W mr)) (hs : starEach (e :: es) X.env = (false, eval e X.env) :: starEach es X.env := by rfl) : PA X (e :: es) (sA G W (aCons ma mr)) :=
  (pa_cons ha hr hs).imp fun σ H Q ⟨ι, st, env, rp, re, q⟩ => ⟨ι, st, env, rp, re, okR.bind q fun x st1 ι1 H1 v e1 rp1 rv q1 => ⟨ι1, st1, env, rp1, re.mono e1, okR.bind q1 fun xs st2 ι2 H2 vs e2 rp2 rvs q2 => okR.ok q2 rp2 (.cons (rv.mono e2) rvs)⟩⟩
def alloc (c : Cell) (st : Store) : R D := .ok (.ref st.length) (st ++ [c])
def mkTup (xs : List D) (st : Store) : R D := if xs.length ≤ sizeLine then .ok (.tup xs) st else .bad
def mkLst (xs : List D) (st : Store) : R D := if xs.length ≤ sizeLine then alloc (.lst xs) st else .bad
def dTup (m : DA) : DE := fun env st => (m env st).bind mkTup
def dLst (m : DA) : DE := fun env st => (m env st).bind mkLst
section
variable {ι : List Addr} {st : Store} {H : Hp} {σ : St} {Q : VK} {xs : List D} {vs : List V} {p : Addr}
theorem ok_tup (rp : Rep G ι st H) (r : RVs G ι H xs vs) (q : okR G W ι H σ (RV G) Q (mkTup xs st)) : vs.length ≤ sizeLine ∧ ∀ p, H p = none → Q (.ref p) (upd H p (.tup vs)) := by
  unfold mkTup at q
  split at q
  · rename_i h
    refine ⟨by rw [← r.length]; exact h, fun p hp => ?_⟩
    exact q ι _ _ (Ext.fresh hp) (rp.fresh hp) (.tup upd_same (r.mono (Ext.fresh hp)))
  · exact q.elim
theorem ok_alloc {c : Cell} {o : HO} (rp : Rep G ι st H) (hp : H p = none) (k : CellOk G (ι ++ [p]) (upd H p o) p c) (q : okR G W ι H σ (RV G) Q (alloc c st)) : Q (.ref p) (upd H p o) :=
  q _ _ _ (Ext.push hp) (rp.alloc hp k) (.ref (by rw [← rp.len]; simp))
theorem ok_lst (rp : Rep G ι st H) (r : RVs G ι H xs vs) (q : okR G W ι H σ (RV G) Q (mkLst xs st)) : vs.length ≤ sizeLine ∧ ∀ p, H p = none → Q (.ref p) (upd H p (.lst vs)) := by
  unfold mkLst at q
  split at q
  · rename_i h
    exact ⟨by rw [← r.length]; exact h, fun p hp => ok_alloc (c := .lst xs) rp hp ⟨vs, upd_same, r.mono (Ext.push hp)⟩ q⟩
  · exact q.elim
end
theorem r_tup {x1} (h : PA X es (sA G W mr)) : PE X (.Tuple es x1 pos) (sE G W (dTup mr)) :=
  (pe_tup h).imp fun σ H Q ⟨ι, st, env, rp, re, q⟩ => ⟨ι, st, env, rp, re, okR.bind q fun xs st1 ι1 H1 vs e1 rp1 rvs q1 => ok_tup rp1 rvs q1⟩
theorem r_lst (h : PA X es (sA G W mr)) : PE X (.List es pos) (sE G W (dLst mr)) :=
  (pe_lst h).imp fun σ H Q ⟨ι, st, env, rp, re, q⟩ => ⟨ι, st, env, rp, re, okR.bind q fun xs st1 ι1 H1 vs e1 rp1 rvs q1 => ok_lst rp1 rvs q1⟩
end
end Dn
set_option Elab.async false
set_option linter.all false
set_option maxRecDepth 100000
set_option maxHeartbeats 1000000
/-! Dn1: operations on values -/
namespace Dn
open PySem PySem.Spec L2

/-! ### operators -/
def catTup (xs ys : List D) (st : Store) : R D := if xs.length + ys.length ≤ sizeLine then .ok (.tup (xs ++ ys)) st else .bad
def catLst (m n : Nat) (st : Store) : R D := match st[m]?, st[n]? with
  | some (.lst xs), some (.lst ys) => if xs.length + ys.length ≤ sizeLine then alloc (.lst (xs ++ ys)) st else .bad
  | _, _ => .bad
def vAdd (x y : D) (st : Store) : R D := match x, y with
  | .int i, .int j => .ok (.int (i + j)) st
  | .str a, .str b => if a.length + b.length ≤ sizeLine then .ok (.str (a ++ b)) st else .bad
  | .tup xs, .tup ys => catTup xs ys st
  | .ref m, .ref n => catLst m n st
  | _, _ => .bad
def vSub (x y : D) (st : Store) : R D := match x, y with
  | .int i, .int j => .ok (.int (i - j)) st
  | _, _ => .bad
def small64 (i : Int) : Bool := decide (-(2 ^ 64) < i) && decide (i < 2 ^ 64)
def repLst (n : Nat) (k : Int) (st : Store) : R D := match st[n]? with
  | some (.lst xs) => if -(2 ^ 63) ≤ k ∧ k < 2 ^ 63 ∧ xs.length * k.toNat ≤ sizeLine then alloc (.lst (List.replicate k.toNat xs).flatten) st else .bad
  | _ => .bad
def vMul (x y : D) (st : Store) : R D := match x, y with
  | .int i, .int j => if small64 i || small64 j then .ok (.int (i * j)) st else .bad
  | .ref n, .int k => repLst n k st
  | _, _ => .bad
def vDiv (x y : D) (st : Store) : R D := match x, y with
  | .int i, .int j => if 0 < j ∧ j < 1073741824 then .ok (.int (i / j)) st else .bad
  | _, _ => .bad
def vMod (x y : D) (st : Store) : R D := match x, y with
  | .int i, .int j => if 0 < j then .ok (.int (i % j)) st else .bad
  | _, _ => .bad
def vPow (x y : D) (st : Store) : R D := match x, y with
  | .int i, .int j => if 0 ≤ j ∧ j ≤ 1000000 ∧ i.natAbs < 2 ^ 64 then .ok (.int (i ^ j.toNat)) st else .bad
  | _, _ => .bad
theorem RVs.flat_rep {G : Ctx} {ι : List Addr} {H : Hp} {xs : List D} {vs : List V} (r : RVs G ι H xs vs) : ∀ k : Nat, RVs G ι H (List.replicate k xs).flatten (List.replicate k vs).flatten
  | 0 => .nil
  | k + 1 => by
    rw [List.replicate_succ, List.replicate_succ, List.flatten_cons, List.flatten_cons]
    exact r.append (RVs.flat_rep r k)
def ROr (r r' : R2) : R2 := fun x y H Q => r x y H Q ∨ r' x y H Q
abbrev rAdd1 (K : PySem.W.Frag) : R2 := ROr (rI0 fun i j => .int (i + j)) (ROr (fun x y H Q => ∃ i j, x = .str i ∧ y = .str j ∧ i.length + j.length ≤ sizeLine ∧ Q (.str (i ++ j)) H) (ROr (rCatA K) rCat))
theorem o_add {X : Cx} : OpR X (binaryOp .Add) (rAdd1 X.K) := op_add.or (op_add_str.or (op_catA.or op_cat))
section
variable {G : Ctx} {W : WX} {ι : List Addr} {st : Store} {H : Hp} {σ : L2.St} {Q : VK}
theorem lst_of {n : Nat} {a : Addr} {xs : List D} (rp : Rep G ι st H) (h : ι[n]? = some a) (e : st[n]? = some (.lst xs)) : ∃ vs, H a = some (.lst vs) ∧ RVs G ι H xs vs := rp.cell n _ a e h
theorem f_add : Fits2 G (rAdd1 G.K) vAdd := by
  intro W ι st H σ x y v w Q rp rx ry q
  unfold vAdd at q
  split at q
  · cases rx; cases ry
    exact .inl ⟨_, _, rfl, rfl, okR.ok q rp (.int _)⟩
  · cases rx; cases ry
    split at q
    · rename_i h
      exact .inr (.inl ⟨_, _, rfl, rfl, h, okR.ok q rp (.str _)⟩)
    · exact q.elim
  · cases rx with
    | @tup a xs vs ha hv =>
    cases ry with
    | @tup b ys ws hb hw =>
    unfold catTup at q
    split at q
    · rename_i h
      have hl : vs.length + ws.length ≤ sizeLine := by rw [← hv.length, ← hw.length]; exact h
      refine .inr (.inr (.inl ⟨a, b, vs, ws, rfl, rfl, SqT.of ha, SqT.of hb, hl, fun e => ?_, fun e1 e2 => ?_, fun e1 e2 p hp => ?_⟩))
      · subst e
        cases hv
        exact okR.ok q rp (.tup hb hw)
      · subst e2
        cases hw
        rw [List.append_nil] at q
        exact okR.ok q rp (.tup ha hv)
      · exact q ι _ _ (Ext.fresh hp) (rp.fresh hp) (.tup upd_same ((hv.append hw).mono (Ext.fresh hp)))
    · exact q.elim
  · cases rx with
    | @ref n a hn =>
    cases ry with
    | @ref m b hm =>
    unfold catLst at q
    split at q
    · rename_i xs ys e1 e2
      obtain ⟨vs, ha, hv⟩ := lst_of rp hn e1
      obtain ⟨ws, hb, hw⟩ := lst_of rp hm e2
      split at q
      · rename_i h
        have hl : vs.length + ws.length ≤ sizeLine := by rw [← hv.length, ← hw.length]; exact h
        exact .inr (.inr (.inr ⟨a, b, vs, ws, rfl, rfl, ha, hb, hl, fun p hp => ok_alloc (c := .lst (xs ++ ys)) rp hp ⟨_, upd_same, (hv.append hw).mono (Ext.push hp)⟩ q⟩))
      · exact q.elim
    · exact q.elim
  · exact q.elim
theorem f_sub : Fits2 G (rI0 fun i j => .int (i - j)) vSub := by
  intro W ι st H σ x y v w Q rp rx ry q
  unfold vSub at q
  split at q
  · cases rx; cases ry
    exact ⟨_, _, rfl, rfl, okR.ok q rp (.int _)⟩
  · exact q.elim
abbrev rMul1 : R2 := ROr (rI CMul fun i j => .int (i * j)) rRep
theorem o_mul {X : Cx} : OpR X (binaryOp .Mult) rMul1 := op_mul.or op_rep
theorem f_mul : Fits2 G rMul1 vMul := by
  intro W ι st H σ x y v w Q rp rx ry q
  unfold vMul at q
  split at q
  · cases rx; cases ry
    split at q
    · rename_i i j h
      refine .inl ⟨_, _, rfl, rfl, ?_, okR.ok q rp (.int _)⟩
      simp only [small64, Bool.or_eq_true, Bool.and_eq_true, decide_eq_true_eq] at h
      exact h
    · exact q.elim
  · cases rx with
    | @ref n a hn =>
    cases ry
    unfold repLst at q
    split at q
    · rename_i xs e1
      obtain ⟨vs, ha, hv⟩ := lst_of rp hn e1
      split at q
      · rename_i h
        exact .inr ⟨a, _, vs, rfl, rfl, ha, h.1, h.2.1, by rw [← hv.length]; exact h.2.2, fun p hp => ok_alloc (c := .lst _) rp hp ⟨_, upd_same, (hv.flat_rep _).mono (Ext.push hp)⟩ q⟩
      · exact q.elim
    · exact q.elim
  · exact q.elim
theorem f_div : Fits2 G (rI CDiv fun i j => .int (i / j)) vDiv := by
  intro W ι st H σ x y v w Q rp rx ry q
  unfold vDiv at q
  split at q
  · cases rx; cases ry
    split at q
    · rename_i h
      exact ⟨_, _, rfl, rfl, h, okR.ok q rp (.int _)⟩
    · exact q.elim
  · exact q.elim
theorem f_mod : Fits2 G (rI (fun _ j => 0 < j) fun i j => .int (i % j)) vMod := by
  intro W ι st H σ x y v w Q rp rx ry q
  unfold vMod at q
  split at q
  · cases rx; cases ry
    split at q
    · rename_i h
      exact ⟨_, _, rfl, rfl, h, okR.ok q rp (.int _)⟩
    · exact q.elim
  · exact q.elim
theorem f_pow : Fits2 G (rI CPow fun i j => .int (i ^ j.toNat)) vPow := by
  intro W ι st H σ x y v w Q rp rx ry q
  unfold vPow at q
  split at q
  · cases rx; cases ry
    split at q
    · rename_i h
      exact ⟨_, _, rfl, rfl, h, okR.ok q rp (.int _)⟩
    · exact q.elim
  · exact q.elim
/-! ### comparisons of whole numbers -/
def vCmp (p : Int → Int → Bool) (x y : D) (st : Store) : R D := match x, y with
  | .int i, .int j => .ok (.bl (p i j)) st
  | _, _ => .bad
theorem f_cmp (p : Int → Int → Bool) : Fits2 G (rI0 fun i j => .bl (p i j)) (vCmp p) := by
  intro W ι st H σ x y v w Q rp rx ry q
  unfold vCmp at q
  split at q
  · cases rx; cases ry
    exact ⟨_, _, rfl, rfl, okR.ok q rp (.bl _)⟩
  · exact q.elim
abbrev vLt := vCmp fun i j => decide (i < j)
abbrev vLe := vCmp fun i j => decide (i ≤ j)
abbrev vGt := vCmp fun i j => decide (j < i)
abbrev vGe := vCmp fun i j => decide (j ≤ i)



/-! ### == and != of data -/
mutual
def pyW (rf : Nat → Option PyData) : D → Option PyData
  | .non => some .none
  | .bl b => some (.bool b)
  | .int i => some (.int i)
  | .str x => some (.str x)
  | .tup xs => (pyWs rf xs).map .tuple
  | .ref n => rf n
  | .err _ _ => none
  | .ty _ => none
  | .cl _ => none
  | .scr _ => none
def pyWs (rf : Nat → Option PyData) : List D → Option (List PyData)
  | [] => some []
  | x :: xs => (pyW rf x).bind fun p => (pyWs rf xs).map (p :: ·)
end
def pyN (st : Store) : Nat → Nat → Option PyData
  | 0, _ => none
  | k + 1, n => match st[n]? with
    | some (.lst xs) => (pyWs (pyN st k) xs).map .list
    | some (.frz xs) => (pyWs (pyN st k) xs).map .list
    | _ => none
def toPy (st : Store) (d : D) : Option PyData := pyW (pyN st 3) d
mutual
theorem pyW_ok {rf : Nat → Option PyData} (hr : ∀ n p a, rf n = some p → ι[n]? = some a → Dp G.K H (.ref a) p) : ∀ {d : D} {v : V} {p : PyData}, RV G ι H d v → pyW rf d = some p → Dp G.K H v p
  | _, _, _, .non, e => by simp [pyW] at e; subst e; exact .non
  | _, _, _, .bl b, e => by simp [pyW] at e; subst e; exact .bl b
  | _, _, _, .int i, e => by simp [pyW] at e; subst e; exact .int i
  | _, _, _, .str x, e => by simp [pyW] at e; subst e; exact .str x
  | _, _, _, .tup h r, e => by
    simp only [pyW, Option.map_eq_some_iff] at e
    obtain ⟨ps, e1, e2⟩ := e
    subst e2
    exact .tup (SqT.of h) (pyWs_ok hr r e1)
  | _, _, _, .ref h, e => by simp only [pyW] at e; exact hr _ _ _ e h
  | _, _, _, .err _ _ _, e => by simp [pyW] at e
  | _, _, _, .ty _, e => by simp [pyW] at e
  | _, _, _, .cl _, e => by simp [pyW] at e
  | _, _, _, .scr _, e => by simp [pyW] at e
theorem pyWs_ok {rf : Nat → Option PyData} (hr : ∀ n p a, rf n = some p → ι[n]? = some a → Dp G.K H (.ref a) p) : ∀ {ds : List D} {vs : List V} {ps : List PyData}, RVs G ι H ds vs → pyWs rf ds = some ps → DpAll G.K H vs ps
  | _, _, _, .nil, e => by simp [pyWs] at e; subst e; exact .nil
  | _, _, _, .cons r t, e => by
    simp only [pyWs, Option.bind_eq_some_iff, Option.map_eq_some_iff] at e
    obtain ⟨p, e1, ps, e2, e3⟩ := e
    subst e3
    exact .cons (pyW_ok hr r e1) (pyWs_ok hr t e2)
end
theorem pyN_ok (rp : Rep G ι st H) : ∀ (k n : Nat) (p : PyData) (a : Addr), pyN st k n = some p → ι[n]? = some a → Dp G.K H (.ref a) p
  | 0, _, _, _, e, _ => by simp [pyN] at e
  | k + 1, n, p, a, e, h => by
    unfold pyN at e
    split at e
    · rename_i xs e1
      obtain ⟨vs, ha, hv⟩ := lst_of rp h e1
      obtain ⟨ps, e2, e3⟩ := Option.map_eq_some_iff.mp e
      subst e3
      exact .lst (SqL.of ha) (pyWs_ok (pyN_ok rp k) hv e2)
    · rename_i xs e1
      obtain ⟨o, vs, ha, hv⟩ := rp.cell n _ a e1 h
      obtain ⟨ps, e2, e3⟩ := Option.map_eq_some_iff.mp e
      subst e3
      exact .lst (.inl (.inr ⟨o, ha⟩)) (pyWs_ok (pyN_ok rp k) hv e2)
    · cases e
theorem toPy_ok (rp : Rep G ι st H) {d : D} {v : V} {p : PyData} (r : RV G ι H d v) (e : toPy st d = some p) : Dp G.K H v p := pyW_ok (pyN_ok rp 3) r e
def vEq (x y : D) (st : Store) : R D := match toPy st x, toPy st y with
  | some p, some q => if SeqAt.shaped p && SeqAt.shaped q then .ok (.bl (PyData.eqv p q)) st else .bad
  | _, _ => .bad
def vNe (x y : D) (st : Store) : R D := match toPy st x, toPy st y with
  | some p, some q => if SeqAt.shaped p && SeqAt.shaped q then .ok (.bl (!PyData.eqv p q)) st else .bad
  | _, _ => .bad
theorem f_eq : Fits2 G (rEqD G.K) vEq := by
  intro W ι st H σ x y v w Q rp rx ry q
  unfold vEq at q
  split at q
  · rename_i p p' e1 e2
    split at q
    · rename_i h
      simp only [Bool.and_eq_true] at h
      exact ⟨p, p', toPy_ok rp rx e1, toPy_ok rp ry e2, h.1, h.2, okR.ok q rp (.bl _)⟩
    · exact q.elim
  · exact q.elim
theorem f_ne : Fits2 G (rNeD G.K) vNe := by
  intro W ι st H σ x y v w Q rp rx ry q
  unfold vNe at q
  split at q
  · rename_i p p' e1 e2
    split at q
    · rename_i h
      simp only [Bool.and_eq_true] at h
      exact ⟨p, p', toPy_ok rp rx e1, toPy_ok rp ry e2, h.1, h.2, okR.ok q rp (.bl _)⟩
    · exact q.elim
  · exact q.elim
/-- is, is not: of None, of two truths -/
def isNon : D → Bool
  | .non => true
  | _ => false
def vIs (x y : D) (st : Store) : R D := match y, x with
  | .non, x => .ok (.bl (isNon x)) st
  | .bl b, .bl a => .ok (.bl (decide (a = b))) st
  | _, _ => .bad
def vIsNot (x y : D) (st : Store) : R D := match y, x with
  | .non, x => .ok (.bl (!isNon x)) st
  | .bl b, .bl a => .ok (.bl (!decide (a = b))) st
  | _, _ => .bad
abbrev rIs1 : R2 := ROr (fun x y H Q => y = .non ∧ Q (.bl (decide (x = .non))) H) rIsB
abbrev rIsNot1 : R2 := ROr (fun x y H Q => y = .non ∧ Q (.bl (!decide (x = .non))) H) rNotB
theorem o_is {X : Cx} : OpR X (compareOp .Is) rIs1 := op_isN.or op_isBl
theorem o_isnot {X : Cx} : OpR X (compareOp .IsNot) rIsNot1 := op_notN.or op_notBl
theorem isNon_ok {d : D} {v : V} (r : RV G ι H d v) : decide (v = .non) = isNon d := by cases r <;> simp [isNon]
theorem f_is : Fits2 G rIs1 vIs := by
  intro W ι st H σ x y v w Q rp rx ry q
  unfold vIs at q
  split at q
  · cases ry
    refine .inl ⟨rfl, ?_⟩
    rw [isNon_ok rx]
    exact okR.ok q rp (.bl _)
  · cases ry; cases rx
    exact .inr ⟨_, _, rfl, rfl, okR.ok q rp (.bl _)⟩
  · exact q.elim
theorem f_isnot : Fits2 G rIsNot1 vIsNot := by
  intro W ι st H σ x y v w Q rp rx ry q
  unfold vIsNot at q
  split at q
  · cases ry
    refine .inl ⟨rfl, ?_⟩
    rw [isNon_ok rx]
    exact okR.ok q rp (.bl _)
  · cases ry; cases rx
    exact .inr ⟨_, _, rfl, rfl, okR.ok q rp (.bl _)⟩
  · exact q.elim
end
end Dn
set_option Elab.async false
set_option linter.all false
set_option maxRecDepth 100000
set_option maxHeartbeats 1000000
/-! Dn2: subscripts, dicts, in, stores -/
namespace Dn
open PySem PySem.Spec L2

/-! ### dicts -/
section
variable {κ : Type} [DecidableEq κ]
def valD (kvs : List (κ × D)) (k : κ) : Option D := (kvs.find? fun kv => decide (kv.1 = k)).map (·.2)
def putD (kvs : List (κ × D)) (k : κ) (v : D) : List (κ × D) :=
  if (kvs.any fun kv => decide (kv.1 = k)) = true then kvs.map fun kv => if kv.1 = k then (kv.1, v) else kv else kvs ++ [(k, v)]
def dropD (kvs : List (κ × D)) (k : κ) : List (κ × D) := kvs.filter fun kv => decide (kv.1 ≠ k)
variable {G : Ctx} {ι : List Addr} {H : Hp}
theorem RKV.length {kvs : List (κ × D)} {ws : List (κ × V)} (r : RKV G ι H kvs ws) : kvs.length = ws.length := by
  induction r with
  | nil => rfl
  | cons _ _ ih => simp [ih]
theorem RKV.val {kvs : List (κ × D)} {ws : List (κ × V)} (r : RKV G ι H kvs ws) (k : κ) : (valD kvs k = none ∧ valV ws k = none) ∨ ∃ d v, valD kvs k = some d ∧ valV ws k = some v ∧ RV G ι H d v := by
  induction r with
  | nil => exact .inl ⟨rfl, rfl⟩
  | @cons k' x v xs vs r t ih =>
    by_cases e : k' = k
    · exact .inr ⟨x, v, by simp [valD, List.find?_cons, e], by simp [valV, List.find?_cons, e], r⟩
    · have e1 : valD ((k', x) :: xs) k = valD xs k := by simp [valD, List.find?_cons, e]
      have e2 : valV ((k', v) :: vs) k = valV vs k := by simp [valV, List.find?_cons, e]
      rw [e1, e2]
      exact ih
theorem RKV.any {kvs : List (κ × D)} {ws : List (κ × V)} (r : RKV G ι H kvs ws) (k : κ) : (kvs.any fun kv => decide (kv.1 = k)) = ws.any fun kv => decide (kv.1 = k) := by
  induction r with
  | nil => rfl
  | cons _ _ ih => simp [ih]
theorem RKV.repl {kvs : List (κ × D)} {ws : List (κ × V)} (r : RKV G ι H kvs ws) (k : κ) {d : D} {v : V} (rv : RV G ι H d v) :
    RKV G ι H (kvs.map fun kv => if kv.1 = k then (kv.1, d) else kv) (ws.map fun kv => if kv.1 = k then (kv.1, v) else kv) := by
  induction r with
  | nil => exact .nil
  | @cons k' x v' xs vs r t ih =>
    by_cases e : k' = k
    · simp only [List.map_cons, e, if_true]
      exact .cons rv ih
    · simp only [List.map_cons, e, if_false]
      exact .cons r ih
theorem RKV.append {kvs kvs' : List (κ × D)} {ws ws' : List (κ × V)} (r : RKV G ι H kvs ws) (r' : RKV G ι H kvs' ws') : RKV G ι H (kvs ++ kvs') (ws ++ ws') := by
  induction r with
  | nil => exact r'
  | cons r t ih => exact .cons r ih
theorem RKV.put {kvs : List (κ × D)} {ws : List (κ × V)} (r : RKV G ι H kvs ws) (k : κ) {d : D} {v : V} (rv : RV G ι H d v) : RKV G ι H (putD kvs k d) (putK ws k v) := by
  unfold putD putK
  rw [r.any k]
  split
  · exact r.repl k rv
  · exact r.append (.cons rv .nil)
theorem RKV.drop {kvs : List (κ × D)} {ws : List (κ × V)} (r : RKV G ι H kvs ws) (k : κ) : RKV G ι H (dropD kvs k) (dropK ws k) := by
  unfold dropD dropK
  induction r with
  | nil => exact .nil
  | @cons k' x v' xs vs r t ih =>
    by_cases e : k' = k
    · simp only [List.filter_cons, e]
      simpa using ih
    · simp only [List.filter_cons, e]
      simp only [ne_eq, not_false_eq_true, decide_true, if_true]
      simp [e]
      exact .cons r (by simpa using ih)
end
/-- a key: an int or a text; a tuple of such -/
def keyOf : D → Option Key
  | .int i => some (.inl i)
  | .str x => some (.inr x)
  | _ => none
def keysOf : List D → Option (List Key)
  | [] => some []
  | x :: xs => (keyOf x).bind fun k => (keysOf xs).map (k :: ·)
def kD : Key → D
  | .inl i => .int i
  | .inr x => .str x
theorem keyOf_kD (k : Key) : keyOf (kD k) = some k := by cases k <;> rfl
section
variable {G : Ctx} {W : WX} {ι : List Addr} {st : Store} {H : Hp} {σ : L2.St} {Q : VK}
theorem key_ok {d : D} {v : V} {k : Key} (r : RV G ι H d v) (e : keyOf d = some k) : v = kV k := by
  cases r <;> simp [keyOf] at e <;> subst e <;> rfl
theorem keys_ok : ∀ {ds : List D} {vs : List V} {ks : List Key}, RVs G ι H ds vs → keysOf ds = some ks → vs = ks.map kV
  | _, _, _, .nil, e => by simp [keysOf] at e; subst e; rfl
  | _, _, _, .cons r t, e => by
    simp only [keysOf, Option.bind_eq_some_iff, Option.map_eq_some_iff] at e
    obtain ⟨k, e1, ks, e2, e3⟩ := e
    subst e3
    rw [key_ok r e1, keys_ok t e2]; rfl
theorem kV_RV (k : Key) : RV G ι H (kD k) (kV k) := by cases k <;> constructor
/-- what the dict c holds at d: none where d is no key of its kind -/
def look (c : Cell) (d : D) : Option (Option D) := match c with
  | .dK kvs => (keyOf d).map (valD kvs)
  | .dT kvs => (match d with
    | .tup ds => (keysOf ds).map (valD kvs)
    | _ => none)
  | _ => none
theorem look_ok {c : Cell} {d : D} {v : V} {a : Addr} {o : Option D} (k : CellOk G ι H a c) (r : RV G ι H d v) (e : look c d = some o) : ∃ w, DGet H a v w ∧ ((o = none ∧ w = none) ∨ ∃ x y, o = some x ∧ w = some y ∧ RV G ι H x y) := by
  unfold look at e
  split at e
  · rename_i kvs
    obtain ⟨ws, h1, h2⟩ := k
    obtain ⟨kk, e1, e2⟩ := Option.map_eq_some_iff.mp e
    refine ⟨valV ws kk, .inl ⟨ws, kk, .inl h1, key_ok r e1, rfl⟩, ?_⟩
    rcases h2.val kk with ⟨q1, q2⟩ | ⟨x, y, q1, q2, q3⟩
    · exact .inl ⟨by rw [← e2]; exact q1, q2⟩
    · exact .inr ⟨x, y, by rw [← e2]; exact q1, q2, q3⟩
  · rename_i kvs
    obtain ⟨ws, h1, h2⟩ := k
    split at e
    · obtain ⟨kk, e1, e2⟩ := Option.map_eq_some_iff.mp e
      cases r with
      | @tup b xs vs hb hv =>
      refine ⟨valV ws kk, .inr ⟨ws, kk, b, .inl h1, rfl, by rw [hb, keys_ok hv e1], rfl⟩, ?_⟩
      rcases h2.val kk with ⟨q1, q2⟩ | ⟨x, y, q1, q2, q3⟩
      · exact .inl ⟨by rw [← e2]; exact q1, q2⟩
      · exact .inr ⟨x, y, by rw [← e2]; exact q1, q2, q3⟩
    · cases e
  · cases e
/-- the dict c with x at d -/
def putC (c : Cell) (d x : D) : Option Cell := match c with
  | .dK kvs => if kvs.length < sizeLine then (keyOf d).map fun k => .dK (putD kvs k x) else none
  | .dT kvs => (match d with
    | .tup ds => if kvs.length < sizeLine then (keysOf ds).map fun k => .dT (putD kvs k x) else none
    | _ => none)
  | _ => none
theorem putC_ok {c c' : Cell} {d x : D} {v y : V} {a : Addr} {n : Nat} (hn : ι[n]? = some a) (k : CellOk G ι H a c) (r : RV G ι H d v) (rx : RV G ι H x y) (e : putC c d x = some c') :
    ∃ o o', H a = some o ∧ mutO o = true ∧ DPut H a v y (upd H a o') ∧ CellOk G ι (upd H a o') a c' := by
  unfold putC at e
  split at e
  · rename_i kvs
    obtain ⟨ws, h1, h2⟩ := k
    split at e
    · rename_i hl
      obtain ⟨kk, e1, e2⟩ := Option.map_eq_some_iff.mp e
      subst e2
      refine ⟨_, .dK (putK ws kk y), h1, rfl, .inl ⟨ws, kk, h1, key_ok r e1, by rw [← h2.length]; exact hl, rfl⟩, ⟨_, upd_same, (h2.put kk rx).mono (Ext.write hn h1 rfl)⟩⟩
    · cases e
  · rename_i kvs
    obtain ⟨ws, h1, h2⟩ := k
    split at e
    · split at e
      · rename_i hl
        obtain ⟨kk, e1, e2⟩ := Option.map_eq_some_iff.mp e
        subst e2
        cases r with
        | @tup b xs vs hb hv =>
        refine ⟨_, .dT (putK ws kk y), h1, rfl, .inr ⟨ws, kk, b, h1, rfl, by rw [hb, keys_ok hv e1], by rw [← h2.length]; exact hl, rfl⟩, ⟨_, upd_same, (h2.put kk rx).mono (Ext.write hn h1 rfl)⟩⟩
      · cases e
    · cases e
  · cases e
/-! ### subscripts -/
def ixD (xs : List D) (i : Int) (st : Store) : R D := match atI xs i with
  | some x => .ok x st
  | none => .bad
theorem atI_RV {xs : List D} {vs : List V} {i : Int} {x : D} (r : RVs G ι H xs vs) (e : atI xs i = some x) : ∃ v, atI vs i = some v ∧ RV G ι H x v := by
  unfold atI at e ⊢
  rw [← r.length]
  cases h : ixN xs.length i with
  | none => rw [h] at e; cases e
  | some j =>
    rw [h] at e
    exact r.get e
def vIx (x y : D) (st : Store) : R D := match x with
  | .scr ns => (match y with
    | .int i => (match atI ns i with
      | some j => .ok (.int j) st
      | none => .bad)
    | _ => .bad)
  | .tup xs => (match y with
    | .int i => ixD xs i st
    | _ => .bad)
  | .str z => (match y with
    | .int i => if z.length ≤ sizeLine then (match atI z.cps.toList i with
      | some c => .ok (.str ⟨#[c]⟩) st
      | none => .bad) else .bad
    | _ => .bad)
  | .ref n => (match st[n]? with
    | some (.lst xs) => (match y with
      | .int i => ixD xs i st
      | _ => .bad)
    | some (.frz xs) => (match y with
      | .int i => ixD xs i st
      | _ => .bad)
    | some c => (match look c y with
      | some (some z) => .ok z st
      | _ => .bad)
    | none => .bad)
  | _ => .bad
def rIxD : R2 := fun x y H Q => ∃ a v, x = .ref a ∧ DGet H a y (some v) ∧ Q v H
theorem ix_dict {X : Cx} (hu : X.A.units + 1 < cLine) : IxR X rIxD := by
  intro value slice pins s σ H x y v u Q I rx ry h hs
  obtain ⟨a, w, ex, g, q⟩ := h
  subst ex
  obtain rfl : v = Value.ref a := rx
  have hT := dict_typeIs I g
  unfold PyProof.Rows.subscriptTail
  refine wpAny_bind ?_
  rw [getitemInPython_of_ne hT.not_modules]
  refine wpAny_bind (wpAny_specialOf hT PySem.F.slot_dict_getitem.lookup ?_)
  have fin : wpAny (model X.prog X.w) X.A (subscripted slice false (.ref a) u) (fun r s₃ => wpAny (model X.prog X.w) X.A (letTemporaryGo value (.ref a) r >>= fun _ => pure r) (EP X pins σ Q) X.xe s₃) X.xe s := by
    rw [hs]
    exact wpAny_operating (d_getItem hu I g ry fun w' s3 I3 rw' => wpAny_bind (wpAny_letTemporaryGo (wpAny_pure ⟨w, H, I3, rw', q⟩)))
  first
    | exact wpAny_pure (wpAny_bind fin)
    | exact wpAny_bind (wpAny_pure (wpAny_bind fin))
    | exact wpAny_bind fin
abbrev rIx1 (K : PySem.W.Frag) : R2 := ROr (rIx K) rIxD
theorem o_ix {X : Cx} (hu : X.A.units + 1 < cLine) : IxR X (rIx1 X.K) := ix_seq.or (ix_dict hu)
theorem f_ix : Fits2 G (rIx1 G.K) vIx := by
  intro W ι st H σ x y v w Q rp rx ry q
  unfold vIx at q
  split at q
  · cases rx with
    | scr h =>
    rename_i ns a
    split at q
    · cases ry
      split at q
      · rename_i i0 _ j e
        have e2 : atI (ns.map V.int) i0 = some (.int j) := by
          unfold atI at e ⊢
          rw [List.length_map]
          obtain ⟨k, e3, e4⟩ := Option.bind_eq_some_iff.mp e
          rw [e3, Option.bind_some, List.getElem?_map, e4]
          rfl
        exact .inl (.inl ⟨a, ns.map V.int, _, .int j, rfl, rfl, h.sq, e2, okR.ok q rp (.int _)⟩)
      · exact q.elim
    · exact q.elim
  · cases rx with
    | @tup a xs vs ha hv =>
    split at q
    · cases ry
      unfold ixD at q
      split at q
      · rename_i z e
        obtain ⟨u, h1, h2⟩ := atI_RV hv e
        exact .inl (.inr (.inl ⟨a, vs, _, u, rfl, rfl, SqT.of ha, h1, okR.ok q rp h2⟩))
      · exact q.elim
    · exact q.elim
  · cases rx
    split at q
    · cases ry
      split at q
      · rename_i h
        split at q
        · rename_i c e
          exact .inl (.inr (.inr ⟨_, _, c, rfl, rfl, h, e, okR.ok q rp (.str _)⟩))
        · exact q.elim
      · exact q.elim
    · exact q.elim
  · cases rx with
    | @ref n a hn =>
    split at q
    · rename_i xs e0
      obtain ⟨vs, ha, hv⟩ := lst_of rp hn e0
      split at q
      · cases ry
        unfold ixD at q
        split at q
        · rename_i z e
          obtain ⟨u, h1, h2⟩ := atI_RV hv e
          exact .inl (.inl ⟨a, vs, _, u, rfl, rfl, SqL.of ha, h1, okR.ok q rp h2⟩)
        · exact q.elim
      · exact q.elim
    · rename_i xs e0
      obtain ⟨o, vs, ha, hv⟩ := rp.cell _ _ a e0 hn
      split at q
      · cases ry
        unfold ixD at q
        split at q
        · rename_i z e
          obtain ⟨u, h1, h2⟩ := atI_RV hv e
          exact .inl (.inl ⟨a, vs, _, u, rfl, rfl, .inl (.inr ⟨o, ha⟩), h1, okR.ok q rp h2⟩)
        · exact q.elim
      · exact q.elim
    · rename_i c _ _ e0
      split at q
      · rename_i z e
        obtain ⟨u, g, h⟩ := look_ok (rp.cell _ _ a e0 hn) ry e
        rcases h with ⟨h1, h2⟩ | ⟨z', u', h1, h2, h3⟩
        · cases h1
        · cases h1
          subst h2
          exact .inr ⟨a, u', rfl, g, okR.ok q rp h3⟩
      · exact q.elim
    · exact q.elim
  · exact q.elim
/-! ### in -/
def anyEq (ps : List PyData) (p : PyData) : Bool := ps.any fun z => PyData.eqv z p
def vInSeq (neg : Bool) (x : D) (mk : List PyData → PyData) (ps : Option (List PyData)) (st : Store) : R D := match toPy st x, ps with
  | some p, some ps => if SeqAt.shaped p && SeqAt.shaped (mk ps) then .ok (.bl (if neg then !anyEq ps p else anyEq ps p)) st else .bad
  | _, _ => .bad
def inSign (neg : Bool) (x y : Str) (st : Store) : R D := match x.cps.toList with
  | [c] => .ok (.bl (if neg then !decide (c ∈ y.cps.toList) else decide (c ∈ y.cps.toList))) st
  | _ => .bad
def vIn (neg : Bool) (x y : D) (st : Store) : R D := match y with
  | .tup ys => vInSeq neg x .tuple (pyWs (pyN st 3) ys) st
  | .str z => (match x with
    | .str w => inSign neg w z st
    | _ => .bad)
  | .ref n => (match st[n]? with
    | some (.lst xs) => vInSeq neg x .list (pyWs (pyN st 3) xs) st
    | some (.frz xs) => vInSeq neg x .list (pyWs (pyN st 3) xs) st
    | some c => (match look c x with
      | some o => .ok (.bl (if neg then !o.isSome else o.isSome)) st
      | none => .bad)
    | none => .bad)
  | _ => .bad
def rInT (K : PySem.W.Frag) (neg : Bool) : R2 := fun x y H Q => ∃ d ds, Dp K H x d ∧ Dp K H y (.tuple ds) ∧ SeqAt.shaped d = true ∧ SeqAt.shaped (.tuple ds) = true ∧ Q (.bl (if neg then !ds.any fun z => PyData.eqv z d else ds.any fun z => PyData.eqv z d)) H
theorem op_inT {X : Cx} (hu : X.A.units + 65 < cLine) : OpR X (compareOp .In) (rInT X.K false) := by
  intro pins s σ H x y v u Q I rx ry h
  obtain ⟨d, ds, hd, he, sd, se, q⟩ := h
  obtain ⟨as, r1⟩ := Dp.reads I d x v hd rx
  obtain ⟨bs, r2⟩ := Dp.reads I (.tuple ds) y u he ry
  exact SeqAt.in_tuple_reads r2 r1 (SeqAt.canLay_of_shaped se) (SeqAt.canLay_of_shaped sd) (PyProof.Rows.room_in_shaped sd hu) ⟨.bl _, H, I, rfl, q⟩
theorem op_notInT {X : Cx} (hu : X.A.units + 65 < cLine) : OpR X (compareOp .NotIn) (rInT X.K true) := by
  intro pins s σ H x y v u Q I rx ry h
  obtain ⟨d, ds, hd, he, sd, se, q⟩ := h
  obtain ⟨as, r1⟩ := Dp.reads I d x v hd rx
  obtain ⟨bs, r2⟩ := Dp.reads I (.tuple ds) y u he ry
  exact SeqAt.notIn_tuple_reads r2 r1 (SeqAt.canLay_of_shaped se) (SeqAt.canLay_of_shaped sd) (PyProof.Rows.room_in_shaped sd hu) ⟨.bl _, H, I, rfl, q⟩
def rInDct (neg : Bool) : R2 := fun y x H Q => ∃ a o, x = .ref a ∧ DGet H a y o ∧ Q (.bl (if neg then !o.isSome else o.isSome)) H
theorem op_inDct {X : Cx} (hu : X.A.units + 1 < cLine) : OpR X (compareOp .In) (rInDct false) := by
  intro pins s σ H x y v u Q I rx ry h
  obtain ⟨a, o, ex, g, q⟩ := h
  subst ex
  obtain rfl : u = Value.ref a := ry
  exact d_in hu I g rx fun s' I' => ⟨.bl o.isSome, H, I', rfl, q⟩
theorem op_notInDct {X : Cx} (hu : X.A.units + 1 < cLine) : OpR X (compareOp .NotIn) (rInDct true) := by
  intro pins s σ H x y v u Q I rx ry h
  obtain ⟨a, o, ex, g, q⟩ := h
  subst ex
  obtain rfl : u = Value.ref a := ry
  exact d_notIn hu I g rx fun s' I' => ⟨.bl (!o.isSome), H, I', rfl, q⟩
abbrev rInL (K : PySem.W.Frag) (neg : Bool) : R2 := if neg then rNotInD K else rInD K
def rSign (neg : Bool) : R2 := fun x y H Q => ∃ (c : Nat) (z : Str), x = .str ⟨#[c]⟩ ∧ y = .str z ∧ Q (.bl (if neg then !decide (c ∈ z.cps.toList) else decide (c ∈ z.cps.toList))) H
abbrev rIn1 (K : PySem.W.Frag) (neg : Bool) : R2 := ROr (rInL K neg) (ROr (rInT K neg) (ROr (rInDct neg) (rSign neg)))
theorem o_in {X : Cx} (hu : X.A.units + 65 < cLine) : OpR X (compareOp .In) (rIn1 X.K false) := (op_inD hu).or ((op_inT hu).or ((op_inDct (by omega)).or op_in_sign))
theorem o_notin {X : Cx} (hu : X.A.units + 65 < cLine) : OpR X (compareOp .NotIn) (rIn1 X.K true) := (op_notInD hu).or ((op_notInT hu).or ((op_notInDct (by omega)).or op_notIn_sign))
theorem inL_ok {neg : Bool} {x y : V} {p : PyData} {ps : List PyData} (h1 : Dp G.K H x p) (h2 : Dp G.K H y (.list ps)) (h : (SeqAt.shaped p && SeqAt.shaped (.list ps)) = true) (q : Q (.bl (if neg then !anyEq ps p else anyEq ps p)) H) : rInL G.K neg x y H Q := by
  simp only [Bool.and_eq_true] at h
  cases neg with
  | true => exact ⟨p, ps, h1, h2, h.1, h.2, q⟩
  | false => exact ⟨p, ps, h1, h2, h.1, h.2, q⟩
theorem f_in (neg : Bool) : Fits2 G (rIn1 G.K neg) (vIn neg) := by
  intro W ι st H σ x y v w Q rp rx ry q
  unfold vIn at q
  split at q
  · unfold vInSeq at q
    split at q
    · rename_i p ps e1 e2
      split at q
      · rename_i h
        cases ry with
        | @tup a ys vs ha hv =>
        simp only [Bool.and_eq_true] at h
        exact .inr (.inl ⟨p, ps, toPy_ok rp rx e1, .tup (SqT.of ha) (pyWs_ok (pyN_ok rp 3) hv e2), h.1, h.2, okR.ok q rp (.bl _)⟩)
      · exact q.elim
    · exact q.elim
  · rename_i z1
    split at q
    · rename_i w1
      cases rx
      cases ry
      unfold inSign at q
      split at q
      · rename_i c e
        refine .inr (.inr (.inr ⟨c, z1, ?_, rfl, okR.ok q rp (.bl _)⟩))
        obtain ⟨cps⟩ := w1
        have e' : cps = #[c] := by
          apply Array.ext'
          simpa using e
        rw [e']
      · exact q.elim
    · exact q.elim
  · cases ry with
    | @ref n a hn =>
    split at q
    · rename_i xs e0
      obtain ⟨vs, ha, hv⟩ := lst_of rp hn e0
      unfold vInSeq at q
      split at q
      · rename_i p ps e1 e2
        split at q
        · rename_i h
          exact .inl (inL_ok (toPy_ok rp rx e1) (.lst (SqL.of ha) (pyWs_ok (pyN_ok rp 3) hv e2)) h (okR.ok q rp (.bl _)))
        · exact q.elim
      · exact q.elim
    · rename_i xs e0
      obtain ⟨o, vs, ha, hv⟩ := rp.cell _ _ a e0 hn
      unfold vInSeq at q
      split at q
      · rename_i p ps e1 e2
        split at q
        · rename_i h
          exact .inl (inL_ok (toPy_ok rp rx e1) (.lst (.inl (.inr ⟨o, ha⟩)) (pyWs_ok (pyN_ok rp 3) hv e2)) h (okR.ok q rp (.bl _)))
        · exact q.elim
      · exact q.elim
    · rename_i c _ _ e0
      split at q
      · rename_i o e
        obtain ⟨u, g, h⟩ := look_ok (rp.cell _ _ a e0 hn) rx e
        refine .inr (.inr (.inl ⟨a, u, rfl, g, ?_⟩))
        have eo : u.isSome = o.isSome := by
          rcases h with ⟨h1, h2⟩ | ⟨z', u', h1, h2, h3⟩
          · rw [h1, h2]; rfl
          · rw [h1, h2]; rfl
        rw [eo]
        exact okR.ok q rp (.bl _)
      · exact q.elim
    · exact q.elim
  · exact q.elim
/-! ### o[i] = e -/
def vSet (o i x : D) (st : Store) : R Unit := match o with
  | .ref n => (match st[n]? with
    | some (.lst xs) => (match i with
      | .int k => (match ixN xs.length k with
        | some j => .ok () (st.set n (.lst (xs.set j x)))
        | none => .bad)
      | _ => .bad)
    | some c => (match putC c i x with
      | some c' => .ok () (st.set n c')
      | none => .bad)
    | none => .bad)
  | _ => .bad
def rSet1 : TSet := fun o i v H Q => rSetL o i v H Q ∨ ∃ a H', o = .ref a ∧ DPut H a i v H' ∧ Q H'
theorem s_set {X : Cx} (hu : X.A.units + 1 < cLine) : PSet X rSet1 := by
  intro pins s σ H o i v ov iv u Q I ro ri rv h
  rcases h with h | ⟨a, H', eo, g, q⟩
  · exact set_list pins s σ H o i v ov iv u Q I ro ri rv h
  · subst eo
    obtain rfl : ov = Value.ref a := ro
    exact d_setItem hu I g ri rv fun s' I' => ⟨H', I', q⟩
abbrev relU (_ : List Addr) (_ : Hp) (_ _ : Unit) : Prop := True
theorem f_set {o i x : D} {ov iv v : V} {Q : Hp → Prop} (rp : Rep G ι st H) (ro : RV G ι H o ov) (ri : RV G ι H i iv) (rx : RV G ι H x v) (q : okR G W ι H σ relU (fun _ => Q) (vSet o i x st)) : rSet1 ov iv v H Q := by
  unfold vSet at q
  split at q
  · cases ro with
    | @ref n a hn =>
    split at q
    · rename_i xs e0
      obtain ⟨vs, ha, hv⟩ := lst_of rp hn e0
      split at q
      · rename_i k
        cases ri
        split at q
        · rename_i j ej
          refine .inl ⟨a, vs, k, j, rfl, rfl, ha, by rw [← hv.length]; exact ej, ?_⟩
          exact q ι _ () (Ext.write hn ha rfl) (rp.write hn ha rfl ⟨_, upd_same, ((RVs.set rx j hv)).mono (Ext.write hn ha rfl)⟩) trivial
        · exact q.elim
      · exact q.elim
    · rename_i c _ e0
      split at q
      · rename_i c' e
        obtain ⟨o1, o2, h1, h2, h3, h4⟩ := putC_ok hn (rp.cell _ _ a e0 hn) ri rx e
        exact .inr ⟨a, _, rfl, h3, q ι _ () (Ext.write hn h1 h2) (rp.write hn h1 h2 h4) trivial⟩
      · exact q.elim
    · exact q.elim
  · exact q.elim
end
end Dn
set_option Elab.async false
set_option linter.all false
set_option maxRecDepth 100000
set_option maxHeartbeats 1000000
/-! Dn3: built-ins, methods, slices -/
namespace Dn
open PySem PySem.Spec L2

section
variable {X : Cx} {G : Ctx} {W : WX} {x : Str} {p pos : Pos} {e : Expr} {es : List Expr} {ma : DA} {m : DE} {id T : String} {r : List V → Hp → VK → Prop} {f : List D → Store → R D}
def dCall (f : List D → Store → R D) (ma : DA) : DE := fun env st => (ma env st).bind f
theorem fit_call (hf : FitsL G r f) {σ : L2.St} {H : Hp} {Q : VK} (h : sE G W (dCall f ma) σ H Q) : tCB r (sA G W ma) σ H Q := by
  obtain ⟨ι, st, env, rp, re, q⟩ := h
  exact ⟨ι, st, env, rp, re, okR.bind q fun xs st1 ι1 H1 vs e1 rp1 rvs q1 => hf W ι1 st1 H1 σ xs vs Q rp1 rvs q1⟩
theorem r_callB (hc : CallR X (.builtin id) r) (hf : FitsL G r f) (hg : Gl X x) (hm : X.mg x = none) (hv : bootBuiltins x = some (.builtin id)) (ha : PA X (e :: es) (sA G W ma)) (hn : x ≠ "__name__" := by decide) (hdb : (x == ("__debug__" : Str)) = false := by decide)
    (he : starEach (e :: es) X.env = (false, eval e X.env) :: starEach es X.env := by rfl) (hpl : (backTo pos (starEach es X.env)).any (·.1) = false := by rfl) : PE X (.Call (.Name x p) (e :: es) [] pos) (sE G W (dCall f ma)) :=
  (pe_callB hc hg hm hv ha hn hdb he hpl).imp fun _ _ _ h => fit_call hf h
theorem r_callTy (hc : CallR X (.type T) r) (hf : FitsL G r f) (hg : Gl X x) (hm : X.mg x = none) (hv : bootBuiltins x = some (.type T)) (ha : PA X (e :: es) (sA G W ma)) (hn : x ≠ "__name__" := by decide) (hdb : (x == ("__debug__" : Str)) = false := by decide)
    (he : starEach (e :: es) X.env = (false, eval e X.env) :: starEach es X.env := by rfl) (hpl : (backTo pos (starEach es X.env)).any (·.1) = false := by rfl) : PE X (.Call (.Name x p) (e :: es) [] pos) (sE G W (dCall f ma)) :=
  (pe_callTy hc hg hm hv ha hn hdb he hpl).imp fun _ _ _ h => fit_call hf h
/-! ### methods of built-in values -/
def recv (T : String) (o : D) (st : Store) : Bool := match o with
  | .str _ => decide (T = "str")
  | .ref n => (match st[n]? with
    | some (.lst _) => decide (T = "list")
    | some (.frz _) => decide (T = "list")
    | some (.dK _) => decide (T = "dict")
    | some (.dT _) => decide (T = "dict")
    | _ => false)
  | _ => false
def FitsM (G : Ctx) (r : V → List V → Hp → VK → Prop) (f : D → List D → Store → R D) : Prop := ∀ (W : WX) (ι : List Addr) (st : Store) (H : Hp) (σ : L2.St) (o : D) (ov : V) (xs : List D) (vs : List V) (Q : VK), Rep G ι st H → RV G ι H o ov → RVs G ι H xs vs → okR G W ι H σ (RV G) Q (f o xs st) → r ov vs H Q
def dMeth (T : String) (f : D → List D → Store → R D) (m : DE) (ma : DA) : DE := fun env st => (m env st).bind fun o st1 => if recv T o st1 then (ma env st1).bind fun xs st2 => f o xs st2 else .bad
theorem recv_ok {ι : List Addr} {st : Store} {H : Hp} {o : D} {v : V} (rp : Rep G ι st H) (rv : RV G ι H o v) (h : recv T o st = true) : tyV G.K T v H := by
  unfold recv at h
  split at h
  · cases rv
    exact (of_decide_eq_true h : T = "str")
  · cases rv with
    | @ref n a hn =>
    split at h
    · rename_i xs e
      obtain ⟨vs, ha, hv⟩ := rp.cell _ _ a e hn
      exact .inl ⟨of_decide_eq_true h, vs, SqL.of ha⟩
    · rename_i xs e
      obtain ⟨o, vs, ha, hv⟩ := rp.cell _ _ a e hn
      exact .inl ⟨of_decide_eq_true h, vs, .inl (.inr ⟨o, ha⟩)⟩
    · rename_i xs e
      obtain ⟨vs, ha, hv⟩ := rp.cell _ _ a e hn
      exact .inr (.inr (.inl ⟨of_decide_eq_true h, .inl ⟨vs, ha⟩⟩))
    · rename_i xs e
      obtain ⟨vs, ha, hv⟩ := rp.cell _ _ a e hn
      exact .inr (.inr (.inl ⟨of_decide_eq_true h, .inr ⟨vs, ha⟩⟩))
    · cases h
  · cases h
theorem r_bm {name : Str} {apos cpos : Pos} {o : Expr} {r : V → List V → Hp → VK → Prop} {f : D → List D → Store → R D} (hf : FitsM G r f) (pa : PlainAttrs T) (slot : Slot T name id) (hty : typeOf (.builtin id) = pure (.type "method_descriptor")) (hm : MtR X id r) (ho : PE X o (sE G W m)) (ha : PA X (e :: es) (sA G W ma)) (hK : X.K = G.K := by rfl)
    (hbase : attributeBase o name X.env (eval o X.env) = eval o X.env := by rfl)
    (hfew : ((backTo cpos (starEach (e :: es) X.env)).all (fun x => !x.1) && (backToKw cpos (keywordEach [] X.env)).all (fun x => x.1.isSome)
      && decide ((e :: es).length + ([] : List Keyword).length + (if ([] : List Keyword).isEmpty then 0 else 1) < 30)) = true := by rfl)
    (hline : (apos.endLine == cpos.line) = true := by rfl) (hs : starEach (e :: es) X.env = (false, eval e X.env) :: starEach es X.env := by rfl) (hplain : (backTo cpos (starEach es X.env)).any (·.1) = false := by rfl) :
    PE X (.Call (.Attribute o name apos) (e :: es) [] cpos) (sE G W (dMeth T f m ma)) :=
  (pe_bm pa slot hty hm ho ha hbase hfew hline hs hplain).imp fun σ H Q ⟨ι, st, env, rp, re, q⟩ => ⟨ι, st, env, rp, re, okR.bind q fun o st1 ι1 H1 ov e1 rp1 rv q1 => by
    split at q1
    · rename_i h
      refine ⟨by rw [hK]; exact recv_ok rp1 rv h, ι1, st1, env, rp1, re.mono e1, okR.bind q1 fun xs st2 ι2 H2 vs e2 rp2 rvs q2 => ?_⟩
      exact hf W ι2 st2 H2 σ o ov xs vs Q rp2 (rv.mono e2) rvs q2
    · exact q1.elim⟩
theorem r_bm0 {name : Str} {apos cpos : Pos} {o : Expr} {r : V → List V → Hp → VK → Prop} {f : D → List D → Store → R D} (hf : FitsM G r f) (pa : PlainAttrs T) (slot : Slot T name id) (hty : typeOf (.builtin id) = pure (.type "method_descriptor")) (hm : MtR X id r) (ho : PE X o (sE G W m)) (hK : X.K = G.K := by rfl)
    (hbase : attributeBase o name X.env (eval o X.env) = eval o X.env := by rfl) (hline : (apos.endLine == cpos.line) = true := by rfl) : PE X (.Call (.Attribute o name apos) [] [] cpos) (sE G W (dMeth T f m aNil)) :=
  (pe_bm0 pa slot hty hm ho hbase hline).imp fun σ H Q ⟨ι, st, env, rp, re, q⟩ => ⟨ι, st, env, rp, re, okR.bind q fun o st1 ι1 H1 ov e1 rp1 rv q1 => by
    split at q1
    · rename_i h
      exact ⟨by rw [hK]; exact recv_ok rp1 rv h, hf W ι1 st1 H1 σ o ov [] [] Q rp1 rv .nil q1⟩
    · exact q1.elim⟩
end
section
variable {G : Ctx} {W : WX} {ι : List Addr} {st : Store} {H : Hp} {σ : L2.St} {Q : VK}
/-! ### list methods -/
def mAppend (o : D) (xs : List D) (st : Store) : R D := match o, xs with
  | .ref n, [x] => (match st[n]? with
    | some (.lst ys) => if ys.length < sizeLine then .ok .non (st.set n (.lst (ys ++ [x]))) else .bad
    | _ => .bad)
  | _, _ => .bad
theorem f_append : FitsM G rAppend mAppend := by
  intro W ι st H σ o ov xs vs Q rp ro rx q
  unfold mAppend at q
  split at q
  · cases ro with
    | @ref n a hn =>
    cases rx with
    | cons r1 r2 =>
    cases r2
    split at q
    · rename_i ys e0
      obtain ⟨ws, ha, hw⟩ := lst_of rp hn e0
      split at q
      · rename_i h
        exact ⟨a, ws, _, rfl, rfl, ha, by rw [← hw.length]; exact h, q ι _ _ (Ext.write hn ha rfl) (rp.write hn ha rfl ⟨_, upd_same, (hw.append (.cons r1 .nil)).mono (Ext.write hn ha rfl)⟩) .non⟩
      · exact q.elim
    · exact q.elim
  · exact q.elim
def mExtend (o : D) (xs : List D) (st : Store) : R D := match o, xs with
  | .ref n, [.ref m] => (match st[n]?, st[m]? with
    | some (.lst ys), some (.lst zs) => if ys.length + zs.length ≤ sizeLine then .ok .non (st.set n (.lst (ys ++ zs))) else .bad
    | _, _ => .bad)
  | _, _ => .bad
theorem f_extend : FitsM G rExtend mExtend := by
  intro W ι st H σ o ov xs vs Q rp ro rx q
  unfold mExtend at q
  split at q
  · cases ro with
    | @ref n a hn =>
    cases rx with
    | cons r1 r2 =>
    cases r2
    cases r1 with
    | @ref m b hm =>
    split at q
    · rename_i ys zs e0 e1
      obtain ⟨ws, ha, hw⟩ := lst_of rp hn e0
      obtain ⟨us, hb, hu⟩ := lst_of rp hm e1
      split at q
      · rename_i h
        exact ⟨a, b, ws, us, rfl, rfl, ha, hb, by rw [← hw.length, ← hu.length]; exact h, q ι _ _ (Ext.write hn ha rfl) (rp.write hn ha rfl ⟨_, upd_same, (hw.append hu).mono (Ext.write hn ha rfl)⟩) .non⟩
      · exact q.elim
    · exact q.elim
  · exact q.elim
def mPop (o : D) (xs : List D) (st : Store) : R D := match o, xs with
  | .ref n, [] => (match st[n]? with
    | some (.lst ys) => (match ys[ys.length - 1]? with
      | some y => .ok y (st.set n (.lst ys.dropLast))
      | none => .bad)
    | _ => .bad)
  | _, _ => .bad
theorem f_pop : FitsM G rPop mPop := by
  intro W ι st H σ o ov xs vs Q rp ro rx q
  unfold mPop at q
  split at q
  · cases ro with
    | @ref n a hn =>
    cases rx
    split at q
    · rename_i ys e0
      obtain ⟨ws, ha, hw⟩ := lst_of rp hn e0
      split at q
      · rename_i y ey
        obtain ⟨v, h1, h2⟩ := hw.get ey
        exact ⟨a, ws, v, rfl, rfl, ha, by rw [← hw.length]; exact h1, q ι _ _ (Ext.write hn ha rfl) (rp.write hn ha rfl ⟨_, upd_same, hw.dropLast.mono (Ext.write hn ha rfl)⟩) (h2.mono (Ext.write hn ha rfl))⟩
      · exact q.elim
    · exact q.elim
  · exact q.elim
def mPopAt (o : D) (xs : List D) (st : Store) : R D := match o, xs with
  | .ref n, [.int i] => (match st[n]? with
    | some (.lst ys) => if -(2 ^ 63) ≤ i ∧ i < 2 ^ 63 then (match seqIndex? i ys.length with
      | some k => (match ys[k]? with
        | some y => .ok y (st.set n (.lst (ys.eraseIdx k)))
        | none => .bad)
      | none => .bad) else .bad
    | _ => .bad)
  | _, _ => .bad
theorem f_popAt : FitsM G rPopAt mPopAt := by
  intro W ι st H σ o ov xs vs Q rp ro rx q
  unfold mPopAt at q
  split at q
  · cases ro with
    | @ref n a hn =>
    cases rx with
    | cons r1 r2 =>
    cases r2
    cases r1
    split at q
    · rename_i ys e0
      obtain ⟨ws, ha, hw⟩ := lst_of rp hn e0
      split at q
      · rename_i hb
        split at q
        · rename_i k ek
          split at q
          · rename_i y ey
            obtain ⟨v, h1, h2⟩ := hw.get ey
            exact ⟨a, ws, _, k, v, rfl, rfl, ha, hb.1, hb.2, by rw [← hw.length]; exact ek, h1, q ι _ _ (Ext.write hn ha rfl) (rp.write hn ha rfl ⟨_, upd_same, (hw.eraseIdx k).mono (Ext.write hn ha rfl)⟩) (h2.mono (Ext.write hn ha rfl))⟩
          · exact q.elim
        · exact q.elim
      · exact q.elim
    · exact q.elim
  · exact q.elim
/-- the first place of an equal one -/
def firstEq (ps : List PyData) (p : PyData) : Option Nat := ps.findIdx? fun z => PyData.eqv z p
def mIndex (o : D) (xs : List D) (st : Store) : R D := match o, xs with
  | .ref n, [x] => (match st[n]?, toPy st x with
    | some (.lst ys), some p => (match pyWs (pyN st 3) ys with
      | some ps => if SeqAt.shaped p && SeqAt.shaped (.list ps) then (match firstEq ps p with
        | some j => .ok (.int j) st
        | none => .bad) else .bad
      | none => .bad)
    | _, _ => .bad)
  | _, _ => .bad
theorem f_index : FitsM G (rIndexD G.K) mIndex := by
  intro W ι st H σ o ov xs vs Q rp ro rx q
  unfold mIndex at q
  split at q
  · cases ro with
    | @ref n a hn =>
    cases rx with
    | cons r1 r2 =>
    cases r2
    split at q
    · rename_i ys p e0 ep
      obtain ⟨ws, ha, hw⟩ := lst_of rp hn e0
      split at q
      · rename_i ps eps
        split at q
        · rename_i hs
          simp only [Bool.and_eq_true] at hs
          split at q
          · rename_i j ej
            unfold firstEq at ej
            have hj := List.findIdx?_eq_some_iff_getElem.mp ej
            obtain ⟨hlt, h1, h2⟩ := hj
            refine ⟨a, _, p, ps, j, ps[j], rfl, rfl, .lst (SqL.of ha) (pyWs_ok (pyN_ok rp 3) hw eps), toPy_ok rp r1 ep, hs.2, hs.1, by simp [hlt], h1, fun m z hm hz => ?_, okR.ok q rp (.int _)⟩
            have := h2 m hm
            obtain ⟨hml, rfl⟩ := List.getElem?_eq_some_iff.mp hz
            simpa using this
          · exact q.elim
        · exact q.elim
      · exact q.elim
    · exact q.elim
  · exact q.elim
/-! ### built-ins -/
def bLen (xs : List D) (st : Store) : R D := match xs with
  | [.tup ys] => .ok (.int ys.length) st
  | [.scr ns] => .ok (.int ns.length) st
  | [.str z] => if z.length ≤ sizeLine then .ok (.int z.length) st else .bad
  | [.ref n] => (match st[n]? with
    | some (.lst ys) => .ok (.int ys.length) st
    | some (.frz ys) => .ok (.int ys.length) st
    | some (.dK kvs) => .ok (.int kvs.length) st
    | _ => .bad)
  | _ => .bad
def rLen1 (K : PySem.W.Frag) : List V → Hp → VK → Prop := fun xs H Q => (∃ x n, xs = [x] ∧ LenV K x H n ∧ Q (.int n) H) ∨ ∃ a kvs, xs = [V.ref a] ∧ H a = some (.dK kvs) ∧ Q (.int kvs.length) H
theorem c_len {X : Cx} : CallR X (.builtin "len") (rLen1 X.K) := call_len.or call_lenD
theorem f_len : FitsL G (rLen1 G.K) bLen := by
  intro W ι st H σ xs vs Q rp rx q
  unfold bLen at q
  split at q
  · cases rx with
    | cons r1 r2 =>
    cases r2
    cases r1 with
    | @tup a xs vs ha hv =>
    exact .inl ⟨_, vs.length, rfl, .inr ⟨vs, SqT.of ha, rfl⟩, by rw [← hv.length]; exact okR.ok q rp (.int _)⟩
  · cases rx with
    | cons r1 r2 =>
    cases r2
    cases r1 with
    | scr h => exact .inl ⟨_, _, rfl, .inl ⟨_, h.sq, rfl⟩, by rw [List.length_map]; exact okR.ok q rp (.int _)⟩
  · cases rx with
    | cons r1 r2 =>
    cases r2
    cases r1
    split at q
    · rename_i h
      exact .inl ⟨_, _, rfl, ⟨h, rfl⟩, okR.ok q rp (.int _)⟩
    · exact q.elim
  · cases rx with
    | cons r1 r2 =>
    cases r2
    cases r1 with
    | @ref n a hn =>
    split at q
    · rename_i ys e0
      obtain ⟨ws, ha, hw⟩ := lst_of rp hn e0
      exact .inl ⟨_, ws.length, rfl, .inl ⟨ws, SqL.of ha, rfl⟩, by rw [← hw.length]; exact okR.ok q rp (.int _)⟩
    · rename_i ys e0
      obtain ⟨o, ws, ha, hw⟩ := rp.cell _ _ a e0 hn
      exact .inl ⟨_, ws.length, rfl, .inl ⟨ws, .inl (.inr ⟨o, ha⟩), rfl⟩, by rw [← hw.length]; exact okR.ok q rp (.int _)⟩
    · rename_i kvs e0
      obtain ⟨ws, ha, hw⟩ := rp.cell _ _ a e0 hn
      exact .inr ⟨a, ws, rfl, ha, by rw [← hw.length]; exact okR.ok q rp (.int _)⟩
    · exact q.elim
  · exact q.elim
def bInt (xs : List D) (st : Store) : R D := match xs with
  | [.int i] => .ok (.int i) st
  | [.bl k] => .ok (.int (if k then 1 else 0)) st
  | _ => .bad
theorem f_int : FitsL G (fun xs H Q => (∃ i, xs = [.int i] ∧ Q (.int i) H) ∨ ∃ k, xs = [.bl k] ∧ Q (.int (if k then 1 else 0)) H) bInt := by
  intro W ι st H σ xs vs Q rp rx q
  unfold bInt at q
  split at q
  · cases rx with
    | cons r1 r2 =>
    cases r2
    cases r1
    exact .inl ⟨_, rfl, okR.ok q rp (.int _)⟩
  · cases rx with
    | cons r1 r2 =>
    cases r2
    cases r1
    exact .inr ⟨_, rfl, okR.ok q rp (.int _)⟩
  · exact q.elim
def bMax (xs : List D) (st : Store) : R D := match xs with
  | [.int i, .int j] => .ok (.int (if j > i then j else i)) st
  | _ => .bad
def bMin (xs : List D) (st : Store) : R D := match xs with
  | [.int i, .int j] => .ok (.int (if j < i then j else i)) st
  | _ => .bad
theorem f_max : FitsL G (fun xs H Q => ∃ i j, xs = [.int i, .int j] ∧ Q (.int (if j > i then j else i)) H) bMax := by
  intro W ι st H σ xs vs Q rp rx q
  unfold bMax at q
  split at q
  · cases rx with
    | cons r1 r2 =>
    cases r2 with
    | cons r2 r3 =>
    cases r3
    cases r1
    cases r2
    exact ⟨_, _, rfl, okR.ok q rp (.int _)⟩
  · exact q.elim
theorem f_min : FitsL G (fun xs H Q => ∃ i j, xs = [.int i, .int j] ∧ Q (.int (if j < i then j else i)) H) bMin := by
  intro W ι st H σ xs vs Q rp rx q
  unfold bMin at q
  split at q
  · cases rx with
    | cons r1 r2 =>
    cases r2 with
    | cons r2 r3 =>
    cases r3
    cases r1
    cases r2
    exact ⟨_, _, rfl, okR.ok q rp (.int _)⟩
  · exact q.elim
def bAbs (xs : List D) (st : Store) : R D := match xs with
  | [.int i] => .ok (.int (if i < 0 then -i else i)) st
  | _ => .bad
theorem f_abs : FitsL G (fun xs H Q => ∃ i, xs = [.int i] ∧ Q (.int (if i < 0 then -i else i)) H) bAbs := by
  intro W ι st H σ xs vs Q rp rx q
  unfold bAbs at q
  split at q
  · cases rx with
    | cons r1 r2 =>
    cases r2
    cases r1
    exact ⟨_, rfl, okR.ok q rp (.int _)⟩
  · exact q.elim
def bList (xs : List D) (st : Store) : R D := match xs with
  | [.tup ys] => alloc (.lst ys) st
  | [.ref n] => (match st[n]? with
    | some (.lst ys) => alloc (.lst ys) st
    | some (.frz ys) => alloc (.lst ys) st
    | _ => .bad)
  | _ => .bad
theorem f_list : FitsL G (fun xs H Q => ∃ p ys, xs = [.ref p] ∧ (SqL G.K H p ys ∨ SqT G.K H p ys) ∧ ∀ l, H l = none → Q (.ref l) (upd H l (.lst ys))) bList := by
  intro W ι st H σ xs vs Q rp rx q
  unfold bList at q
  split at q
  · cases rx with
    | cons r1 r2 =>
    cases r2
    cases r1 with
    | @tup a ys vs ha hv =>
    exact ⟨a, vs, rfl, .inr (SqT.of ha), fun l hl => ok_alloc (c := .lst _) rp hl ⟨_, upd_same, hv.mono (Ext.push hl)⟩ q⟩
  · cases rx with
    | cons r1 r2 =>
    cases r2
    cases r1 with
    | @ref n a hn =>
    split at q
    · rename_i ys e0
      obtain ⟨ws, ha, hw⟩ := lst_of rp hn e0
      exact ⟨a, ws, rfl, .inl (SqL.of ha), fun l hl => ok_alloc (c := .lst ys) rp hl ⟨_, upd_same, hw.mono (Ext.push hl)⟩ q⟩
    · rename_i ys e0
      obtain ⟨o, ws, ha, hw⟩ := rp.cell _ _ a e0 hn
      exact ⟨a, ws, rfl, .inl (.inl (.inr ⟨o, ha⟩)), fun l hl => ok_alloc (c := .lst ys) rp hl ⟨_, upd_same, hw.mono (Ext.push hl)⟩ q⟩
    · exact q.elim
  · exact q.elim
def bTuple (xs : List D) (st : Store) : R D := match xs with
  | [.tup ys] => .ok (.tup ys) st
  | [.ref n] => (match st[n]? with
    | some (.lst ys) => .ok (.tup ys) st
    | some (.frz ys) => .ok (.tup ys) st
    | _ => .bad)
  | _ => .bad
theorem f_tuple : FitsL G (fun xs H Q => ∃ p ys, xs = [.ref p] ∧ ((SqL G.K H p ys ∧ ∀ l, H l = none → Q (.ref l) (upd H l (.tup ys))) ∨ (SqT G.K H p ys ∧ Q (.ref p) H))) bTuple := by
  intro W ι st H σ xs vs Q rp rx q
  unfold bTuple at q
  split at q
  · cases rx with
    | cons r1 r2 =>
    cases r2
    cases r1 with
    | @tup a ys vs ha hv =>
    exact ⟨a, vs, rfl, .inr ⟨SqT.of ha, okR.ok q rp (.tup ha hv)⟩⟩
  · cases rx with
    | cons r1 r2 =>
    cases r2
    cases r1 with
    | @ref n a hn =>
    split at q
    · rename_i ys e0
      obtain ⟨ws, ha, hw⟩ := lst_of rp hn e0
      exact ⟨a, ws, rfl, .inl ⟨SqL.of ha, fun l hl => q ι _ _ (Ext.fresh hl) (rp.fresh hl) (.tup upd_same (hw.mono (Ext.fresh hl)))⟩⟩
    · rename_i ys e0
      obtain ⟨o, ws, ha, hw⟩ := rp.cell _ _ a e0 hn
      exact ⟨a, ws, rfl, .inl ⟨.inl (.inr ⟨o, ha⟩), fun l hl => q ι _ _ (Ext.fresh hl) (rp.fresh hl) (.tup upd_same (hw.mono (Ext.fresh hl)))⟩⟩
    · exact q.elim
  · exact q.elim
/-- truths, whole numbers, texts of a list -/
def blsOf : List D → Option (List Bool)
  | [] => some []
  | .bl b :: xs => (blsOf xs).map (b :: ·)
  | _ :: _ => none
def intsOf : List D → Option (List Int)
  | [] => some []
  | .int i :: xs => (intsOf xs).map (i :: ·)
  | _ :: _ => none
def strsOf : List D → Option (List Str)
  | [] => some []
  | .str i :: xs => (strsOf xs).map (i :: ·)
  | _ :: _ => none
theorem bls_ok : ∀ {xs : List D} {bs : List Bool} {vs : List V}, RVs G ι H xs vs → blsOf xs = some bs → vs = bs.map V.bl
  | [], _, _, .nil, e => by simp [blsOf] at e; subst e; rfl
  | .bl b :: xs, _, _, .cons r t, e => by
    simp only [blsOf, Option.map_eq_some_iff] at e
    obtain ⟨bs, e1, e2⟩ := e
    subst e2
    cases r
    rw [bls_ok t e1]; rfl
  | .non :: _, _, _, _, e => by simp [blsOf] at e
  | .int _ :: _, _, _, _, e => by simp [blsOf] at e
  | .str _ :: _, _, _, _, e => by simp [blsOf] at e
  | .tup _ :: _, _, _, _, e => by simp [blsOf] at e
  | .ref _ :: _, _, _, _, e => by simp [blsOf] at e
  | .err _ _ :: _, _, _, _, e => by simp [blsOf] at e
  | .ty _ :: _, _, _, _, e => by simp [blsOf] at e
  | .cl _ :: _, _, _, _, e => by simp [blsOf] at e
  | .scr _ :: _, _, _, _, e => by simp [blsOf] at e
theorem ints_ok : ∀ {xs : List D} {bs : List Int} {vs : List V}, RVs G ι H xs vs → intsOf xs = some bs → vs = bs.map V.int
  | [], _, _, .nil, e => by simp [intsOf] at e; subst e; rfl
  | .int b :: xs, _, _, .cons r t, e => by
    simp only [intsOf, Option.map_eq_some_iff] at e
    obtain ⟨bs, e1, e2⟩ := e
    subst e2
    cases r
    rw [ints_ok t e1]; rfl
  | .non :: _, _, _, _, e => by simp [intsOf] at e
  | .bl _ :: _, _, _, _, e => by simp [intsOf] at e
  | .str _ :: _, _, _, _, e => by simp [intsOf] at e
  | .tup _ :: _, _, _, _, e => by simp [intsOf] at e
  | .ref _ :: _, _, _, _, e => by simp [intsOf] at e
  | .err _ _ :: _, _, _, _, e => by simp [intsOf] at e
  | .ty _ :: _, _, _, _, e => by simp [intsOf] at e
  | .cl _ :: _, _, _, _, e => by simp [intsOf] at e
  | .scr _ :: _, _, _, _, e => by simp [intsOf] at e
theorem strs_ok : ∀ {xs : List D} {bs : List Str} {vs : List V}, RVs G ι H xs vs → strsOf xs = some bs → vs = bs.map V.str
  | [], _, _, .nil, e => by simp [strsOf] at e; subst e; rfl
  | .str b :: xs, _, _, .cons r t, e => by
    simp only [strsOf, Option.map_eq_some_iff] at e
    obtain ⟨bs, e1, e2⟩ := e
    subst e2
    cases r
    rw [strs_ok t e1]; rfl
  | .non :: _, _, _, _, e => by simp [strsOf] at e
  | .bl _ :: _, _, _, _, e => by simp [strsOf] at e
  | .int _ :: _, _, _, _, e => by simp [strsOf] at e
  | .tup _ :: _, _, _, _, e => by simp [strsOf] at e
  | .ref _ :: _, _, _, _, e => by simp [strsOf] at e
  | .err _ _ :: _, _, _, _, e => by simp [strsOf] at e
  | .ty _ :: _, _, _, _, e => by simp [strsOf] at e
  | .cl _ :: _, _, _, _, e => by simp [strsOf] at e
  | .scr _ :: _, _, _, _, e => by simp [strsOf] at e
/-- the items of a list that stands (or the script) -/
def lstAt (o : D) (st : Store) : Option (List D) := match o with
  | .ref n => (match st[n]? with
    | some (.lst ys) => some ys
    | some (.frz ys) => some ys
    | _ => none)
  | _ => none
theorem lstAt_ok {o : D} {v : V} {ys : List D} (rp : Rep G ι st H) (r : RV G ι H o v) (e : lstAt o st = some ys) : ∃ a ws, v = .ref a ∧ SqL G.K H a ws ∧ RVs G ι H ys ws := by
  unfold lstAt at e
  split at e
  · cases r with
    | @ref n a hn =>
    split at e
    · rename_i e0
      cases e
      obtain ⟨ws, ha, hw⟩ := lst_of rp hn e0
      exact ⟨a, ws, rfl, SqL.of ha, hw⟩
    · rename_i e0
      cases e
      obtain ⟨o, ws, ha, hw⟩ := rp.cell _ _ a e0 hn
      exact ⟨a, ws, rfl, .inl (.inr ⟨o, ha⟩), hw⟩
    · cases e
  · cases e
def bAll (xs : List D) (st : Store) : R D := match xs with
  | [o] => (match (lstAt o st).bind blsOf with
    | some bs => .ok (.bl (bs.all id)) st
    | none => .bad)
  | _ => .bad
def bAny (xs : List D) (st : Store) : R D := match xs with
  | [o] => (match (lstAt o st).bind blsOf with
    | some bs => .ok (.bl (bs.any id)) st
    | none => .bad)
  | _ => .bad
theorem f_all : FitsL G (rAll G.K) bAll := by
  intro W ι st H σ xs vs Q rp rx q
  unfold bAll at q
  split at q
  · cases rx with
    | cons r1 r2 =>
    cases r2
    split at q
    · rename_i bs e
      obtain ⟨ys, e1, e2⟩ := Option.bind_eq_some_iff.mp e
      obtain ⟨a, ws, rfl, hs, hw⟩ := lstAt_ok rp r1 e1
      obtain rfl := bls_ok hw e2
      exact ⟨a, bs, rfl, hs, okR.ok q rp (.bl _)⟩
    · exact q.elim
  · exact q.elim
theorem f_any : FitsL G (rAny G.K) bAny := by
  intro W ι st H σ xs vs Q rp rx q
  unfold bAny at q
  split at q
  · cases rx with
    | cons r1 r2 =>
    cases r2
    split at q
    · rename_i bs e
      obtain ⟨ys, e1, e2⟩ := Option.bind_eq_some_iff.mp e
      obtain ⟨a, ws, rfl, hs, hw⟩ := lstAt_ok rp r1 e1
      obtain rfl := bls_ok hw e2
      exact ⟨a, bs, rfl, hs, okR.ok q rp (.bl _)⟩
    · exact q.elim
  · exact q.elim
/-! ### isinstance of values that are no instances -/
def tyN (o : D) (st : Store) : Option String := match o with
  | .non => some "NoneType"
  | .bl _ => some "bool"
  | .int _ => some "int"
  | .str _ => some "str"
  | .tup _ => some "tuple"
  | .ref n => (match st[n]? with
    | some (.lst _) => some "list"
    | some (.frz _) => some "list"
    | some (.dK _) => some "dict"
    | some (.dT _) => some "dict"
    | _ => none)
  | _ => none
theorem tyN_ok {o : D} {v : V} {T : String} (rp : Rep G ι st H) (r : RV G ι H o v) (e : tyN o st = some T) : TyOf G.K H v (.type T) := by
  unfold tyN at e
  split at e
  · cases e; cases r; exact .non
  · cases e; cases r; exact .bl _
  · cases e; cases r; exact .int _
  · cases e; cases r; exact .str _
  · cases e
    cases r with
    | @tup a ys vs ha hv => exact .tup ha
  · cases r with
    | @ref n a hn =>
    split at e
    · rename_i e0
      cases e
      obtain ⟨ws, ha, hw⟩ := lst_of rp hn e0
      exact .lst ha
    · rename_i e0
      cases e
      obtain ⟨o, ws, ha, hw⟩ := rp.cell _ _ a e0 hn
      exact .frz ha
    · rename_i e0
      cases e
      obtain ⟨ws, ha, hw⟩ := rp.cell _ _ a e0 hn
      exact .dK ha
    · rename_i e0
      cases e
      obtain ⟨ws, ha, hw⟩ := rp.cell _ _ a e0 hn
      exact .dT ha
    · cases e
  · cases e
def tysOf : List D → Option (List String)
  | [] => some []
  | .ty n :: xs => (tysOf xs).map (n :: ·)
  | _ :: _ => none
def kitAnyB (a : String) : List String → Option Bool
  | [] => some false
  | n :: xs => (match kitB a n with
    | some true => some true
    | some false => kitAnyB a xs
    | none => none)
theorem tys_ok : ∀ {cs : List D} {ns : List String} {vs : List V}, RVs G ι H cs vs → tysOf cs = some ns → Paired ClsV vs (ns.map Value.type)
  | [], _, _, .nil, e => by simp [tysOf] at e; subst e; exact .nil
  | .ty n :: cs, _, _, .cons r t, e => by
    simp only [tysOf, Option.map_eq_some_iff] at e
    obtain ⟨ns, e1, e2⟩ := e
    subst e2
    cases r
    exact .cons (.ty n) (tys_ok t e1)
  | .non :: _, _, _, _, e => by simp [tysOf] at e
  | .int _ :: _, _, _, _, e => by simp [tysOf] at e
  | .bl _ :: _, _, _, _, e => by simp [tysOf] at e
  | .str _ :: _, _, _, _, e => by simp [tysOf] at e
  | .tup _ :: _, _, _, _, e => by simp [tysOf] at e
  | .ref _ :: _, _, _, _, e => by simp [tysOf] at e
  | .err _ _ :: _, _, _, _, e => by simp [tysOf] at e
  | .cl _ :: _, _, _, _, e => by simp [tysOf] at e
  | .scr _ :: _, _, _, _, e => by simp [tysOf] at e
theorem kitAnyB_ok {K : PySem.W.Frag} {T : String} : ∀ {ns : List String} {b : Bool}, kitAnyB T ns = some b → PySem.W.kitAny K (.type T) (ns.map Value.type) = some b
  | [], _, e => by simp [kitAnyB] at e; subst e; exact kitAny_nil
  | n :: ns, b, e => by
    unfold kitAnyB at e
    split at e
    · rename_i k
      cases e
      exact kitAny_cons (kit_ty k) (fun z => by cases z) (fun _ => rfl)
    · rename_i k
      exact kitAny_cons (kit_ty k) (fun _ => kitAnyB_ok e) (fun z => by cases z)
    · cases e
def bIsi (xs : List D) (st : Store) : R D := match xs with
  | [o, .ty n] => (match (tyN o st).bind fun T => kitB T n with
    | some b => .ok (.bl b) st
    | none => .bad)
  | [o, .tup cs] => (match (tyN o st).bind fun T => (tysOf cs).bind fun ns => kitAnyB T ns with
    | some b => .ok (.bl b) st
    | none => .bad)
  | _ => .bad
def rIsi1 (K : PySem.W.Frag) : List V → Hp → VK → Prop := fun xs H Q => rIsi K xs H Q ∨ rIsiT K xs H Q
theorem c_isi {X : Cx} : CallR X (.builtin "isinstance") (rIsi1 X.K) := call_isi.or call_isiT
theorem f_isi : FitsL G (rIsi1 G.K) bIsi := by
  intro W ι st H σ xs vs Q rp rx q
  unfold bIsi at q
  split at q
  · cases rx with
    | cons r1 r2 =>
    cases r2 with
    | cons r2 r3 =>
    cases r3
    cases r2
    split at q
    · rename_i b e
      obtain ⟨T, e1, e2⟩ := Option.bind_eq_some_iff.mp e
      exact .inl ⟨_, _, _, _, b, rfl, .ty _, .base (tyN_ok rp r1 e1), kit_ty e2, okR.ok q rp (.bl _)⟩
    · exact q.elim
  · cases rx with
    | cons r1 r2 =>
    cases r2 with
    | cons r2 r3 =>
    cases r3
    cases r2 with
    | @tup a ys vs ha hv =>
    split at q
    · rename_i b e
      obtain ⟨T, e1, e2⟩ := Option.bind_eq_some_iff.mp e
      obtain ⟨ns, e3, e4⟩ := Option.bind_eq_some_iff.mp e2
      exact .inr ⟨_, a, vs, _, _, b, rfl, ha, tys_ok hv e3, .base (tyN_ok rp r1 e1), kitAnyB_ok e4, okR.ok q rp (.bl _)⟩
    · exact q.elim
  · exact q.elim
/-! ### slices -/
end
section
variable {X : Cx} {G : Ctx} {W : WX} {e : Expr} {lo hi : Option Expr} {m : DE} {p2 pos : Pos}
abbrev DO := Env → Store → R (Option Int)
def dNoPart : DO := fun _ st => .ok none st
def dPart (m : DE) : DO := fun env st => (m env st).bind fun x st1 => match x with
  | .int i => .ok (some i) st1
  | _ => .bad
abbrev relO (_ : List Addr) (_ : Hp) (a b : Option Int) : Prop := a = b
def sO (G : Ctx) (W : WX) (m : DO) : TO := fun σ H Q => ∃ ι st env, Rep G ι st H ∧ REnv G ι H env σ ∧ okR G W ι H σ relO Q (m env st)
theorem _root_.L2.PO.imp {X : Cx} {e : Option Expr} {t t' : TO} (h : PO X e t) (k : ∀ σ H Q, t' σ H Q → t σ H Q) : PO X e t' := ⟨fun pins s σ H Q I q => h.run pins s σ H Q I (k σ H Q q)⟩
theorem r_noPart : PO X none (sO G W dNoPart) := po_none.imp fun σ H Q ⟨ι, st, env, rp, re, q⟩ => okR.ok q rp rfl
theorem r_part (h : PE X e (sE G W m)) : PO X (some e) (sO G W (dPart m)) := (po_some h).imp fun σ H Q ⟨ι, st, env, rp, re, q⟩ => ⟨ι, st, env, rp, re, okR.bind q fun x st1 ι1 H1 v e1 rp1 rv q1 => by
  cases rv with
  | int i => exact ⟨i, rfl, okR.ok q1 rp1 rfl⟩
  | _ => exact q1.elim⟩
def cutD (xs : List D) (lo hi : Option Int) : List D := (xs.drop (HT.sIx xs.length 0 lo)).take (HT.sIx xs.length xs.length hi - HT.sIx xs.length 0 lo)
theorem cut_RV {ι : List Addr} {H : Hp} {xs : List D} {vs : List V} (r : RVs G ι H xs vs) (lo hi : Option Int) : RVs G ι H (cutD xs lo hi) (cutV vs lo hi) := by
  unfold cutD cutV
  rw [r.length]
  exact (r.drop _).take _
def vSl (x : D) (lo hi : Option Int) (st : Store) : R D := match x with
  | .tup xs => .ok (.tup (cutD xs lo hi)) st
  | .str z => if z.length ≤ sizeLine then .ok (.str (cutS z lo hi)) st else .bad
  | .ref n => (match st[n]? with
    | some (.lst xs) => alloc (.lst (cutD xs lo hi)) st
    | some (.frz xs) => alloc (.lst (cutD xs lo hi)) st
    | _ => .bad)
  | _ => .bad
abbrev rSl1 (K : PySem.W.Frag) : V → Option Int → Option Int → Hp → VK → Prop := fun x lo hi H Q => rSlL K x lo hi H Q ∨ (rSlA K x lo hi H Q ∨ rSlS x lo hi H Q)
theorem s_sl : SlR X (rSl1 X.K) := sl_list.or (sl_tupA.or sl_str)
theorem cutV_whole {xs : List V} {lo hi : Option Int} (h : HT.sIx xs.length 0 lo = 0 ∧ HT.sIx xs.length xs.length hi = xs.length) : cutV xs lo hi = xs := by
  unfold cutV
  rw [h.1, h.2]
  simp
theorem f_sl {ι : List Addr} {st : Store} {H : Hp} {σ : L2.St} {Q : VK} {x : D} {v : V} {lo hi : Option Int} (rp : Rep G ι st H) (rx : RV G ι H x v) (q : okR G W ι H σ (RV G) Q (vSl x lo hi st)) : rSl1 G.K v lo hi H Q := by
  unfold vSl at q
  split at q
  · cases rx with
    | @tup a xs vs ha hv =>
    refine .inr (.inl ⟨a, vs, rfl, SqT.of ha, fun h => ?_, fun h p hp => ?_⟩)
    · refine okR.ok q rp (.tup ha ?_)
      have := cut_RV hv lo hi
      rw [cutV_whole h] at this
      exact this
    · exact q ι _ _ (Ext.fresh hp) (rp.fresh hp) (.tup upd_same ((cut_RV hv lo hi).mono (Ext.fresh hp)))
  · cases rx
    split at q
    · rename_i h
      exact .inr (.inr ⟨_, rfl, h, okR.ok q rp (.str _)⟩)
    · exact q.elim
  · cases rx with
    | @ref n a hn =>
    split at q
    · rename_i ys e0
      obtain ⟨ws, ha, hw⟩ := lst_of rp hn e0
      exact .inl ⟨a, ws, rfl, SqL.of ha, fun p hp => ok_alloc (c := .lst _) rp hp ⟨_, upd_same, (cut_RV hw lo hi).mono (Ext.push hp)⟩ q⟩
    · rename_i ys e0
      obtain ⟨o, ws, ha, hw⟩ := rp.cell _ _ a e0 hn
      exact .inl ⟨a, ws, rfl, .inl (.inr ⟨o, ha⟩), fun p hp => ok_alloc (c := .lst _) rp hp ⟨_, upd_same, (cut_RV hw lo hi).mono (Ext.push hp)⟩ q⟩
    · exact q.elim
  · exact q.elim
def dSl (m : DE) (ml mh : DO) : DE := fun env st => (m env st).bind fun x st1 => (ml env st1).bind fun lo st2 => (mh env st2).bind fun hi st3 => vSl x lo hi st3
theorem r_sl {ml mh : DO} (he : PE X e (sE G W m)) (hl : PO X lo (sO G W ml)) (hu : PO X hi (sO G W mh)) (hK : X.K = G.K := by rfl) : PE X (.Subscript e (.Slice lo hi none p2) pos) (sE G W (dSl m ml mh)) :=
  (pe_slice s_sl he hl hu).imp fun σ H Q ⟨ι, st, env, rp, re, q⟩ => ⟨ι, st, env, rp, re, okR.bind q fun x st1 ι1 H1 v e1 rp1 rv q1 => ⟨ι1, st1, env, rp1, re.mono e1, okR.bind q1 fun l st2 ι2 H2 l' e2 rp2 rl q2 =>
    ⟨ι2, st2, env, rp2, (re.mono e1).mono e2, okR.bind q2 fun h st3 ι3 H3 h' e3 rp3 rh q3 => by
      obtain rfl : l = l' := rl
      obtain rfl : h = h' := rh
      rw [hK]
      exact f_sl rp3 ((rv.mono e2).mono e3) q3⟩⟩⟩
/-- xs[::-1] of a list -/
def vRev (x : D) (st : Store) : R D := match lstAt x st with
  | some xs => alloc (.lst xs.reverse) st
  | none => .bad
theorem r_rev {k : Nat} {p1 p2 p3 : Pos} (he : PE X e (sE G W m)) (hK : X.K = G.K := by rfl) : PE X (.Subscript e (.Slice none none (some (.UnaryOp .USub (.Constant (.int 1) k p1) p2)) p3) pos) (sE G W (dUn vRev m)) :=
  (pe_revL he).imp fun σ H Q ⟨ι, st, env, rp, re, q⟩ => ⟨ι, st, env, rp, re, okR.bind q fun x st1 ι1 H1 v e1 rp1 rv q1 => by
    unfold vRev at q1
    split at q1
    · rename_i xs e
      obtain ⟨a, ws, rfl, hs, hw⟩ := lstAt_ok rp1 rv e
      exact ⟨a, ws, rfl, by rw [hK]; exact hs, fun p hp => ok_alloc (c := .lst _) rp1 hp ⟨_, upd_same, (hw.reverse).mono (Ext.push hp)⟩ q1⟩
    · exact q1.elim⟩
/-- {} -/
def dNewK : DE := fun _ st => alloc (.dK []) st
def dNewT : DE := fun _ st => alloc (.dT []) st
theorem r_dnewK : PE X (.Dict [] [] pos) (sE G W dNewK) := pe_dnewK.imp fun σ H Q ⟨ι, st, env, rp, re, q⟩ => fun p hp => ok_alloc (c := .dK []) rp hp ⟨_, upd_same, .nil⟩ q
theorem r_dnewT : PE X (.Dict [] [] pos) (sE G W dNewT) := pe_dnewT.imp fun σ H Q ⟨ι, st, env, rp, re, q⟩ => fun p hp => ok_alloc (c := .dT []) rp hp ⟨_, upd_same, .nil⟩ q
end
end Dn
set_option Elab.async false
set_option linter.all false
set_option maxRecDepth 100000
set_option maxHeartbeats 1000000
/-! Dn4: statements, loops, comprehensions -/
namespace Dn
open PySem PySem.Spec L2

inductive RS where
  | nx (env : Env) (st : Store) | rt (d : D) (st : Store) | bk (env : Env) (st : Store) | ct (env : Env) (st : Store) | ex (x : Xc) (env : Env) (st : Store) | bad
abbrev DS := Env → Store → RS
def okS (G : Ctx) (W : WX) (ι : List Addr) (H : Hp) (D : Ends) : RS → Prop
  | .nx env st => ∀ ι' H' σ', Ext ι ι' H H' → Rep G ι' st H' → REnv G ι' H' env σ' → D.nx σ' H'
  | .bk env st => ∀ ι' H' σ', Ext ι ι' H H' → Rep G ι' st H' → REnv G ι' H' env σ' → D.bk σ' H'
  | .ct env st => ∀ ι' H' σ', Ext ι ι' H H' → Rep G ι' st H' → REnv G ι' H' env σ' → D.ct σ' H'
  | .rt d st => ∀ ι' H' v, Ext ι ι' H H' → Rep G ι' st H' → RV G ι' H' d v → D.rt v H'
  | .ex x env st => ∀ ι' H' σ' dd ws, Ext ι ι' H H' → Rep G ι' st H' → REnv G ι' H' env σ' → H' dd = some (.xd ws) → RFs G ι' H' x.fs ws → W (G.cls x.c) (some dd) σ' H'
  | .bad => False
theorem okS.mono {G : Ctx} {W : WX} {ι ι' : List Addr} {H H' : Hp} {D : Ends} {r : RS} (h : okS G W ι H D r) (e : Ext ι ι' H H') : okS G W ι' H' D r := by
  cases r with
  | nx env st => exact fun ι1 H1 σ1 e1 => h ι1 H1 σ1 (e.trans e1)
  | bk env st => exact fun ι1 H1 σ1 e1 => h ι1 H1 σ1 (e.trans e1)
  | ct env st => exact fun ι1 H1 σ1 e1 => h ι1 H1 σ1 (e.trans e1)
  | rt d st => exact fun ι1 H1 σ1 e1 => h ι1 H1 σ1 (e.trans e1)
  | ex x env st => exact fun ι1 H1 σ1 dd ws e1 => h ι1 H1 σ1 dd ws (e.trans e1)
  | bad => exact h
def sS (G : Ctx) (W : WX) (m : DS) : TS := fun D σ H => ∃ ι st env, Rep G ι st H ∧ REnv G ι H env σ ∧ okS G W ι H D (m env st)
def R.toS {α : Type} (m : R α) (env : Env) (f : α → Store → RS) : RS := match m with
  | .ok a st => f a st
  | .exc x st => .ex x env st
  | .bad => .bad
@[simp] theorem R.toS_ok {α : Type} (a : α) (st : Store) (env : Env) (f : α → Store → RS) : (R.ok a st).toS env f = f a st := rfl
@[simp] theorem R.toS_exc {α : Type} (x : Xc) (st : Store) (env : Env) (f : α → Store → RS) : (R.exc x st : R α).toS env f = .ex x env st := rfl
@[simp] theorem R.toS_bad {α : Type} (env : Env) (f : α → Store → RS) : (R.bad : R α).toS env f = .bad := rfl
theorem okS.lift {G : Ctx} {W : WX} {ι : List Addr} {H : Hp} {D : Ends} {α β : Type} {rel : List Addr → Hp → α → β → Prop} {P : β → Hp → Prop} {σ : L2.St} {env : Env} {m : R α} {f : α → Store → RS} (h : okS G W ι H D (m.toS env f)) (re : REnv G ι H env σ)
    (k : ∀ d st1 ι1 H1 v, Ext ι ι1 H H1 → Rep G ι1 st1 H1 → rel ι1 H1 d v → okS G W ι1 H1 D (f d st1) → P v H1) : okR G W ι H σ rel P m := by
  cases m with
  | ok d st => exact fun ι1 H1 v e r rv => k d st ι1 H1 v e r rv (okS.mono h e)
  | exc x st => exact fun ι1 H1 dd ws e r hx hf => h ι1 H1 σ dd ws e r (re.mono e) hx hf
  | bad => exact h

section
variable {X : Cx} {G : Ctx} {W : WX} {a b c e : Expr} {st : Stmt} {sts sts' rest : List Stmt} {m m' : DE} {n : DB} {ds ds' : DS} {pos : Pos}
def dNext : DS := fun env st => .nx env st
def dSeq (m m' : DS) : DS := fun env st => match m env st with
  | .nx env1 st1 => m' env1 st1
  | r => r
theorem r_nil : PSs X [] (sS G W dNext) := pss_nil.imp fun D σ H ⟨ι, st, env, rp, re, q⟩ => q ι H σ (Ext.refl _ _) rp re
theorem r_seq (h1 : PS X st (sS G W ds)) (h2 : PSs X rest (sS G W ds')) : PSs X (st :: rest) (sS G W (dSeq ds ds')) := (pss_cons h1 h2).imp fun D σ H ⟨ι, st, env, rp, re, q⟩ => by
  refine ⟨ι, st, env, rp, re, ?_⟩
  unfold dSeq at q
  cases h : ds env st with
  | nx env1 st1 =>
    rw [h] at q
    exact fun ι' H' σ' e r re' => ⟨ι', st1, env1, r, re', okS.mono q e⟩
  | bk env st => rw [h] at q; exact q
  | ct env st => rw [h] at q; exact q
  | rt d st => rw [h] at q; exact q
  | ex x env st => rw [h] at q; exact q
  | bad => rw [h] at q; exact q.elim
theorem r_last (h1 : PS X st (sS G W ds)) : PSs X [st] (sS G W ds) := pss_one h1
def dBreak : DS := fun env st => .bk env st
def dCont : DS := fun env st => .ct env st
theorem r_pass : PS X (.Pass pos) (sS G W dNext) := ps_pass.imp fun D σ H ⟨ι, st, env, rp, re, q⟩ => q ι H σ (Ext.refl _ _) rp re
theorem r_break : PS X (.Break pos) (sS G W dBreak) := ps_break.imp fun D σ H ⟨ι, st, env, rp, re, q⟩ => q ι H σ (Ext.refl _ _) rp re
theorem r_cont : PS X (.Continue pos) (sS G W dCont) := ps_continue.imp fun D σ H ⟨ι, st, env, rp, re, q⟩ => q ι H σ (Ext.refl _ _) rp re
def dDrop (m : DE) : DS := fun env st => (m env st).toS env fun _ st1 => .nx env st1
theorem r_expr (he : PE X e (sE G W m)) (hs : swapsWith e none pos.line X.env = pure false := by rfl) : PS X (.Expr e pos) (sS G W (dDrop m)) := (ps_expr he hs).imp fun D σ H ⟨ι, st, env, rp, re, q⟩ =>
  ⟨ι, st, env, rp, re, okS.lift q re fun d st1 ι1 H1 v e1 rp1 rv q1 => q1 ι1 H1 σ (Ext.refl _ _) rp1 (re.mono e1)⟩
def dRet (m : DE) : DS := fun env st => (m env st).toS env fun d st1 => .rt d st1
theorem r_ret (he : PE X e (sE G W m)) : PS X (.Return (some e) pos) (sS G W (dRet m)) := (ps_ret he).imp fun D σ H ⟨ι, st, env, rp, re, q⟩ =>
  ⟨ι, st, env, rp, re, okS.lift q re fun d st1 ι1 H1 v e1 rp1 rv q1 => q1 ι1 H1 v (Ext.refl _ _) rp1 rv⟩
def dRetN : DS := fun env st => .rt .non st
theorem r_retN : PS X (.Return none pos) (sS G W dRetN) := ps_retN.imp fun D σ H ⟨ι, st, env, rp, re, q⟩ => q ι H _ (Ext.refl _ _) rp .non
def dIf (n : DB) (m m' : DS) : DS := fun env st => (n env st).toS env fun k st1 => if k then m env st1 else m' env st1
theorem r_if (hc : PT X c (sT G W n)) (ha : PSs X sts (sS G W ds)) (hb : PSs X sts' (sS G W ds')) : PS X (.If c sts sts' pos) (sS G W (dIf n ds ds')) := (ps_if hc ha hb).imp fun D σ H ⟨ι, st, env, rp, re, q⟩ =>
  ⟨ι, st, env, rp, re, okS.lift q re fun k st1 ι1 H1 k' e1 rp1 rk q1 => by
    obtain rfl : k = k' := rk
    cases k with
    | true => exact iteT ⟨ι1, st1, env, rp1, re.mono e1, q1⟩
    | false => exact iteF ⟨ι1, st1, env, rp1, re.mono e1, q1⟩⟩
/-! ### targets -/
abbrev DG := D → Env → Store → R Env
abbrev DGs := List D → Env → Store → R Env
def okG (G : Ctx) (ws : List Nat) (σ : L2.St) (ι : List Addr) (H : Hp) (Q : L2.St → Hp → Prop) : R Env → Prop
  | .ok env st => ∀ ι' H' σ', Ext ι ι' H H' → Rep G ι' st H' → REnv G ι' H' env σ' → σ'.length = σ.length → (∀ i, i ∉ ws → σ'[i]? = σ[i]?) → Q σ' H'
  | _ => False
def sG (G : Ctx) (ws : List Nat) (g : DG) : TG := fun v σ H Q => ∃ ι st env d, Rep G ι st H ∧ REnv G ι H env σ ∧ RV G ι H d v ∧ okG G ws σ ι H Q (g d env st)
def sGs (G : Ctx) (ws : List Nat) (g : DGs) : TGs := fun vs σ H Q => ∃ ι st env ds, Rep G ι st H ∧ REnv G ι H env σ ∧ RVs G ι H ds vs ∧ okG G ws σ ι H Q (g ds env st)
theorem _root_.L2.PG.imp {X : Cx} {e : Expr} {t t' : TG} (h : PG X e t) (k : ∀ v σ H Q, t' v σ H Q → t v σ H Q) : PG X e t' := ⟨fun pins s σ H v u Q I r q => h.run pins s σ H v u Q I r (k v σ H Q q)⟩
theorem _root_.L2.PGs.imp {X : Cx} {e : List Expr} {t t' : TGs} (h : PGs X e t) (k : ∀ v σ H Q, t' v σ H Q → t v σ H Q) : PGs X e t' := ⟨fun pins s σ H v u Q I r q => h.run pins s σ H v u Q I r (k v σ H Q q)⟩
def gNm (i : Nat) : DG := fun d env st => .ok (env.set i (some d)) st
theorem t_name {i : Nat} (h : PG X e (gName i)) : PG X e (sG G [i] (gNm i)) := h.imp fun v σ H Q ⟨ι, st, env, d, rp, re, rv, q⟩ =>
  q ι H _ (Ext.refl _ _) rp (re.set rv) (by simp) (fun j hj => by rw [List.getElem?_set_ne]; intro z; exact hj (by simp [z]))
def gsNil : DGs := fun ds env st => match ds with
  | [] => .ok env st
  | _ => .bad
def gsCons (g : DG) (gs : DGs) : DGs := fun ds env st => match ds with
  | d :: ds => (match g d env st with
    | .ok env1 st1 => gs ds env1 st1
    | _ => .bad)
  | [] => .bad
theorem t_nil : PGs X [] (sGs G [] gsNil) := pgs_nil.imp fun vs σ H Q ⟨ι, st, env, ds, rp, re, rv, q⟩ => by
  unfold gsNil at q
  split at q
  · cases rv
    exact ⟨rfl, q ι H σ (Ext.refl _ _) rp re rfl fun _ _ => rfl⟩
  · exact q.elim
theorem t_cons {es : List Expr} {g : DG} {gs : DGs} {ws ws' : List Nat} (h1 : PG X e (sG G ws g)) (h2 : PGs X es (sGs G ws' gs))
    (hs : (assignEach (e :: es) X.env).map (·.2) = assign e X.env :: (assignEach es X.env).map (·.2) := by rfl) : PGs X (e :: es) (sGs G (ws ++ ws') (gsCons g gs)) := (pgs_cons h1 h2 hs).imp fun vs σ H Q ⟨ι, st, env, ds, rp, re, rv, q⟩ => by
  unfold gsCons at q
  split at q
  · rename_i d ds
    cases rv with
    | cons r1 r2 =>
    refine ⟨_, _, rfl, ι, st, env, _, rp, re, r1, ?_⟩
    split at q
    · rename_i env1 st1 eg
      rw [eg]
      intro ι1 H1 σ1 e1 rp1 re1 hl ha
      refine ⟨ι1, st1, env1, _, rp1, re1, r2.mono e1, ?_⟩
      cases hr : gs ds env1 st1 with
      | ok env2 st2 =>
        rw [hr] at q
        intro ι2 H2 σ2 e2 rp2 re2 hl2 ha2
        exact q ι2 H2 σ2 (e1.trans e2) rp2 re2 (hl2.trans hl) fun i hi => (ha2 i (fun z => hi (List.mem_append_right _ z))).trans (ha i (fun z => hi (List.mem_append_left _ z)))
      | exc x st => rw [hr] at q; exact q.elim
      | bad => rw [hr] at q; exact q.elim
    · exact q.elim
  · exact q.elim
def gTp (n : Nat) (gs : DGs) : DG := fun d env st => match d with
  | .tup xs => if xs.length = n then gs xs env st else .bad
  | _ => .bad
theorem t_tup {es : List Expr} {k : Nat} {gs : DGs} {ws : List Nat} {n : Nat} (hc : X.calm = true) (h : PGs X es (sGs G ws gs)) (hK : X.K = G.K := by rfl)
    (hn : (assignEach es X.env).length = n := by rfl) (hst : (assignEach es X.env).findIdx? (·.1) = none := by rfl) : PG X (.Tuple es k pos) (sG G ws (gTp n gs)) := (pg_tup hc h hn hst).imp fun v σ H Q ⟨ι, st, env, d, rp, re, rv, q⟩ => by
  unfold gTp at q
  split at q
  · split at q
    · rename_i hl
      cases rv with
      | @tup a xs vs ha hv =>
      exact ⟨a, vs, rfl, SqT.of ha, by rw [← hv.length]; exact hl, ι, st, env, _, rp, re, hv, q⟩
    · exact q.elim
  · exact q.elim
def gSb (mo mi : DE) : DG := fun d env st => (mo env st).bind fun o st1 => (mi env st1).bind fun i st2 => (vSet o i d st2).bind fun _ st3 => .ok env st3
theorem t_sub {o i : Expr} {mo mi : DE} (hu : X.A.units + 1 < cLine) (ho : PE X o (sE G W mo)) (hi : PE X i (sE G W mi))
    (ha : ∀ v, assign (.Subscript o i pos) X.env v = (do
      let ov ← holding [v] (eval o X.env)
      let iv ← holding [v, ov] (eval i X.env)
      standAt pos
      holding [v, ov, iv] (setItem ov iv v)
      release [v, ov, iv] []) := by intro _; rfl) : PG X (.Subscript o i pos) (sG G [] (gSb mo mi)) := (pg_sub ho hi (s_set hu) ha).imp fun v σ H Q ⟨ι, st, env, d, rp, re, rv, q⟩ => by
  unfold gSb at q
  refine ⟨ι, st, env, rp, re, ?_⟩
  cases h1 : mo env st with
  | ok o st1 =>
    rw [h1] at q
    intro ι1 H1 ov e1 rp1 ro
    refine ⟨ι1, st1, env, rp1, re.mono e1, ?_⟩
    rw [R.bind_ok] at q
    cases h2 : mi env st1 with
    | ok i st2 =>
      rw [h2] at q
      intro ι2 H2 iv e2 rp2 ri
      rw [R.bind_ok] at q
      refine f_set (W := W) (σ := σ) (x := d) rp2 (ro.mono e2) ri ((rv.mono e1).mono e2) ?_
      cases h3 : vSet o i d st2 with
      | ok u st3 =>
        rw [h3] at q
        intro ι3 H3 _ e3 rp3 _
        exact q ι3 H3 σ ((e1.trans e2).trans e3) rp3 (((re.mono e1).mono e2).mono e3) rfl fun _ _ => rfl
      | exc x st3 => rw [h3] at q; exact q.elim
      | bad => rw [h3] at q; exact q.elim
    | exc x st3 => rw [h2] at q; exact q.elim
    | bad => rw [h2] at q; exact q.elim
  | exc x st3 => rw [h1] at q; exact q.elim
  | bad => rw [h1] at q; exact q.elim
/-! ### assignments -/
def dAsg (m : DE) (g : DG) : DS := fun env st => (m env st).toS env fun d st1 => match g d env st1 with
  | .ok env2 st2 => .nx env2 st2
  | _ => .bad
theorem fit_asg {g : DG} {ws : List Nat} {D : Ends} {σ : L2.St} {H : Hp} (h : sS G W (dAsg m g) D σ H) : tAsg (sE G W m) (sG G ws g) D σ H := by
  obtain ⟨ι, st, env, rp, re, q⟩ := h
  refine ⟨ι, st, env, rp, re, okS.lift q re fun d st1 ι1 H1 v e1 rp1 rv q1 => ⟨ι1, st1, env, d, rp1, re.mono e1, rv, ?_⟩⟩
  split at q1
  · rename_i env2 st2 e
    rw [e]
    exact fun ι2 H2 σ2 e2 rp2 re2 _ _ => q1 ι2 H2 σ2 e2 rp2 re2
  · exact q1.elim
theorem r_asg {tg : Expr} {g : DG} {ws : List Nat} (he : PE X e (sE G W m)) (hg : PG X tg (sG G ws g)) (hs : swapsWithSole [tg] e pos.line X.env = pure false := by rfl) (hw : swappedStores [tg] e X.env = pure none := by rfl)
    (h1 : (assignEach [tg] X.env).map (·.2) = [assign tg X.env] := by rfl) : PS X (.Assign [tg] e pos) (sS G W (dAsg m g)) := (ps_asg he hg hs hw h1).imp fun _ _ _ h => fit_asg h
theorem r_set {i : Nat} {x : Str} {pos' : Pos} (hN : X.N.Nodup) (hi : X.N[i]? = some x) (hx : Loc X.env.scope x) (he : PE X e (sE G W m)) (hs : swapsWith e (some (.Name x pos')) pos.line X.env = pure false := by rfl) (hf : X.fn x = true ∨ X.env.scope.names.lookup x = some .local := by first | exact .inl rfl | exact .inr rfl | assumption) :
    PS X (.Assign [.Name x pos'] e pos) (sS G W (dAsg m (gNm i))) := (ps_set hN hi hx he hs hf).imp fun D σ H h => by
  obtain ⟨ι, st, env, rp, re, q⟩ := h
  exact ⟨ι, st, env, rp, re, okS.lift q re fun d st1 ι1 H1 v e1 rp1 rv q1 => q1 ι1 H1 _ (Ext.refl _ _) rp1 ((re.mono e1).set rv)⟩
def dAug (i : Nat) (f : D → D → Store → R D) (m : DE) : DS := fun env st => match env[i]? with
  | some (some x) => (m env st).toS env fun y st1 => (f x y st1).toS env fun z st2 => .nx (env.set i (some z)) st2
  | _ => .bad
theorem r_aug {i : Nat} {x : Str} {op : Operator} {r : R2} {f : D → D → Store → R D} {pos' : Pos} (hN : X.N.Nodup) (hi : X.N[i]? = some x) (hx : Loc X.env.scope x) (ho : OpR X (inplaceOp op) r) (hf : Fits2 G r f) (he : PE X e (sE G W m)) (hl : X.fn x = true ∨ X.env.scope.names.lookup x = some .local := by first | exact .inl rfl | exact .inr rfl | assumption) :
    PS X (.AugAssign (.Name x pos') op e pos) (sS G W (dAug i f m)) := (ps_aug (ti := r) hN hi hx he ho hl).imp fun D σ H ⟨ι, st, env, rp, re, q⟩ => by
  unfold dAug at q
  split at q
  · rename_i d e0
    obtain ⟨v, h1, h2⟩ := re.at_ i d e0
    refine ⟨v, h1, ι, st, env, rp, re, okS.lift q re fun y st1 ι1 H1 w e1 rp1 rw' q1 => ?_⟩
    exact hf W ι1 st1 H1 σ d y v w _ rp1 (h2.mono e1) rw' (okS.lift q1 (re.mono e1) fun z st2 ι2 H2 u e2 rp2 ru q2 => q2 ι2 H2 _ (Ext.refl _ _) rp2 (((re.mono e1).mono e2).set ru))
  · exact q.elim
/-! ### while -/
def FU : Nat := 1000000000
def whileL (n : DB) (m : DS) : Nat → DS
  | 0, _, _ => .bad
  | k + 1, env, st => (n env st).toS env fun b st1 => if b then (match m env st1 with
    | .nx env2 st2 => whileL n m k env2 st2
    | .ct env2 st2 => whileL n m k env2 st2
    | .bk env2 st2 => .nx env2 st2
    | r => r) else .nx env st1
def dWhile (n : DB) (m : DS) : DS := whileL n m FU
theorem r_while (hp : PassesOwn (model X.prog X.w) X.A X.env X.xe) (hc : PT X c (sT G W n)) (hb : PSs X sts (sS G W ds)) : PS X (.While c sts [] pos) (sS G W (dWhile n ds)) := (ps_while hp hc hb).imp fun D σ H ⟨ι, st, env, rp, re, q⟩ => by
  refine ⟨fun k σ H => ∃ ι st env, Rep G ι st H ∧ REnv G ι H env σ ∧ okS G W ι H D (whileL n ds k env st), ⟨FU, ι, st, env, rp, re, q⟩, ?_⟩
  rintro k σ H ⟨ι, st, env, rp, re, q⟩
  cases k with
  | zero => exact q.elim
  | succ k =>
    unfold whileL at q
    refine ⟨ι, st, env, rp, re, okS.lift q re fun b st1 ι1 H1 b' e1 rp1 rb q1 => ?_⟩
    obtain rfl : b = b' := rb
    cases b with
    | false => exact iteF (q1 ι1 H1 σ (Ext.refl _ _) rp1 (re.mono e1))
    | true =>
      refine iteT ⟨fun σ H => ∃ ι st env, Rep G ι st H ∧ REnv G ι H env σ ∧ okS G W ι H D (whileL n ds k env st), fun σ' H' h => ⟨k, Nat.lt_succ_self _, h⟩, ι1, st1, env, rp1, re.mono e1, ?_⟩
      rw [if_pos rfl] at q1
      cases h : ds env st1 with
      | nx env2 st2 => rw [h] at q1; exact fun ι2 H2 σ2 e2 rp2 re2 => ⟨ι2, st2, env2, rp2, re2, okS.mono q1 e2⟩
      | ct env2 st2 => rw [h] at q1; exact fun ι2 H2 σ2 e2 rp2 re2 => ⟨ι2, st2, env2, rp2, re2, okS.mono q1 e2⟩
      | bk env2 st2 => rw [h] at q1; exact q1
      | rt d st2 => rw [h] at q1; exact q1
      | ex x env2 st2 => rw [h] at q1; exact q1
      | bad => rw [h] at q1; exact q1.elim
/-! ### what is walked -/
structure ItD where
  items : List D
  src : List Nat
/-- the lists that are walked stand as they stood (told by their lengths and items) -/
def isLst (st : Store) (n : Nat) (xs : List D) : Bool := match st[n]? with
  | some (.lst ys) => decide (ys = xs)
  | some (.frz ys) => decide (ys = xs)
  | _ => false
abbrev DI := Env → Store → R (List D × (Store → Bool))
structure Walks (G : Ctx) (ι : List Addr) (H : Hp) (its : List D × (Store → Bool)) (J : It) : Prop where
  goes : ∀ i x ι' st' H', Ext ι ι' H H' → Rep G ι' st' H' → its.2 st' = true → its.1[i]? = some x → J.go i H' ∧ ∀ v H'', J.yld i H' v H'' → Ext ι' ι' H' H'' ∧ Rep G ι' st' H'' ∧ RV G ι' H'' x v
  stops : ∀ ι' st' H', Ext ι ι' H H' → Rep G ι' st' H' → its.2 st' = true → J.stop its.1.length H'
def sI (G : Ctx) (W : WX) (m : DI) : TI := fun σ H Rq => ∃ ι st env, Rep G ι st H ∧ REnv G ι H env σ ∧ okR G W ι H σ (Walks G) Rq (m env st)
theorem _root_.L2.PI.imp {X : Cx} {tg e : Expr} {t t' : TI} (h : PI X tg e t) (k : ∀ σ H Q, t' σ H Q → t σ H Q) : PI X tg e t' := ⟨fun pins s σ H Q I q => h.run pins s σ H Q I (k σ H Q q)⟩
def forL (chk : Store → Bool) (g : DG) (m : DS) : List D → DS
  | [], env, st => if chk st then .nx env st else .bad
  | x :: xs, env, st => if chk st then (match g x env st with
    | .ok env1 st1 => (match m env1 st1 with
      | .nx env2 st2 => forL chk g m xs env2 st2
      | .ct env2 st2 => forL chk g m xs env2 st2
      | .bk env2 st2 => .nx env2 st2
      | r => r)
    | _ => .bad) else .bad
def dFor (it : DI) (g : DG) (m : DS) : DS := fun env st => (it env st).toS env fun its st1 => forL its.2 g m its.1 env st1
theorem r_for {tg iter : Expr} {it : DI} {g : DG} {ws : List Nat} (hp : PassesOwn (model X.prog X.w) X.A X.env X.xe) (hc : X.calm = true) (hi : PI X tg iter (sI G W it)) (hg : PG X tg (sG G ws g)) (hb : PSs X sts (sS G W ds))
    (hs : ∀ x, foldedSetIterable iter X.env x = pure x := by intro _; rfl) : PS X (.For tg iter sts [] pos) (sS G W (dFor it g ds)) := (ps_for hp hc hi hg hb hs).imp fun D σ H ⟨ι, st, env, rp, re, q⟩ => by
  refine ⟨ι, st, env, rp, re, okS.lift q re fun its st1 ι1 H1 J e1 rp1 wk q1 => ?_⟩
  refine ⟨fun i k σ H => ∃ ι' st' env', Ext ι1 ι' H1 H ∧ Rep G ι' st' H ∧ REnv G ι' H env' σ ∧ k = its.1.length - i ∧ i ≤ its.1.length ∧ okS G W ι' H D (forL its.2 g ds (its.1.drop i) env' st'),
    ⟨its.1.length, ι1, st1, env, Ext.refl _ _, rp1, re.mono e1, by simp, Nat.zero_le _, by simpa using q1⟩, ?_⟩
  rintro i k σ' H' ⟨ι', st', env', e', rp', re', rfl, hi', q'⟩
  by_cases hlt : i < its.1.length
  · right
    rw [List.drop_eq_getElem_cons hlt] at q'
    unfold forL at q'
    split at q'
    · rename_i hck
      obtain ⟨hgo, hy⟩ := wk.goes i its.1[i] ι' st' H' e' rp' hck (by simp [hlt])
      refine ⟨hgo, fun σ H => ∃ ι' st' env', Ext ι1 ι' H1 H ∧ Rep G ι' st' H ∧ REnv G ι' H env' σ ∧ okS G W ι' H D (forL its.2 g ds (its.1.drop (i + 1)) env' st'), ?_, ?_⟩
      · rintro σ2 H2 ⟨ι2, st2, env2, e2, rp2, re2, q2⟩
        exact ⟨its.1.length - (i + 1), by omega, ι2, st2, env2, e2, rp2, re2, rfl, hlt, q2⟩
      · intro v H2 hv
        obtain ⟨e2, rp2, rv⟩ := hy v H2 hv
        refine ⟨ι', st', env', its.1[i], rp2, re'.mono e2, rv, ?_⟩
        cases hgv : g its.1[i] env' st' with
        | ok env3 st3 =>
          rw [hgv] at q'
          dsimp only at q'
          intro ι3 H3 σ3 e3 rp3 re3 _ _
          refine ⟨ι3, st3, env3, rp3, re3, ?_⟩
          have e23 := e2.trans e3
          cases hb : ds env3 st3 with
          | nx env4 st4 => rw [hb] at q'; exact fun ι4 H4 σ4 e4 rp4 re4 => ⟨ι4, st4, env4, (e'.trans e23).trans e4, rp4, re4, okS.mono q' (e23.trans e4)⟩
          | ct env4 st4 => rw [hb] at q'; exact fun ι4 H4 σ4 e4 rp4 re4 => ⟨ι4, st4, env4, (e'.trans e23).trans e4, rp4, re4, okS.mono q' (e23.trans e4)⟩
          | bk env4 st4 => rw [hb] at q'; exact okS.mono (W := W) (r := .bk env4 st4) (D := { D with bk := D.nx }) q' e23
          | rt d st4 => rw [hb] at q'; exact okS.mono (r := .rt d st4) q' e23
          | ex x env4 st4 => rw [hb] at q'; exact okS.mono (r := .ex x env4 st4) q' e23
          | bad => rw [hb] at q'; exact q'.elim
        | exc x st3 => rw [hgv] at q'; exact q'.elim
        | bad => rw [hgv] at q'; exact q'.elim
    · exact q'.elim
  · left
    have hi2 : i = its.1.length := by omega
    subst hi2
    rw [List.drop_length] at q'
    unfold forL at q'
    split at q'
    · rename_i hck
      exact ⟨wk.stops ι' st' H' e' rp' hck, q' ι' H' σ' (Ext.refl _ _) rp' re'⟩
    · exact q'.elim
/-! ### comprehensions -/
def lcL (chk : Store → Bool) (g : DG) (tt : DB) (te : DE) (env : Env) : List D → List D → Store → R (List D)
  | [], acc, st => if chk st then .ok acc st else .bad
  | x :: xs, acc, st => if chk st then (match g x env st with
    | .ok env1 st1 => (match tt env1 st1 with
      | .ok true st2 => (match te env1 st2 with
        | .ok y st3 => if acc.length < sizeLine then lcL chk g tt te env xs (acc ++ [y]) st3 else .bad
        | _ => .bad)
      | .ok false st2 => lcL chk g tt te env xs acc st2
      | _ => .bad)
    | _ => .bad) else .bad
def dLc (it : DI) (g : DG) (tt : DB) (te : DE) (vs : List Nat) : DE := fun env st => (it env st).bind fun its st1 => (lcL its.2 g tt te (dWipe env vs) its.1 [] st1).bind fun acc st2 => alloc (.lst acc) st2
theorem wipe_agree {σ σ' : L2.St} {vs : List Nat} (hl : σ'.length = σ.length) (ha : ∀ i, i ∉ vs → σ'[i]? = σ[i]?) : L2.wipe σ' vs = L2.wipe σ vs := by
  apply List.ext_getElem?
  intro i
  by_cases hi : i ∈ vs
  · have key : ∀ (τ : L2.St) (us : List Nat), i ∈ us → (L2.wipe τ us)[i]? = if i < τ.length then some none else none := by
      intro τ us
      induction us with
      | nil => intro h; cases h
      | cons u us ih =>
        intro h
        unfold L2.wipe
        by_cases e : u = i
        · subst e
          rw [List.getElem?_set, if_pos rfl, L2.wipe_length]
        · rw [List.getElem?_set_ne e]
          rcases List.mem_cons.mp h with h | h
          · exact absurd h.symm e
          · exact ih h
    rw [key _ _ hi, key _ _ hi, hl]
  · rw [L2.wipe_out hi, L2.wipe_out hi]
    exact ha i hi
theorem wipe_wipe {σ : L2.St} {vs : List Nat} : L2.wipe (L2.wipe σ vs) vs = L2.wipe σ vs := wipe_agree (L2.wipe_length _ _) fun i hi => L2.wipe_out hi
theorem lst_pl {vs : List V} : (∀ xs, HO.lst vs ≠ .tup xs) ∧ (∀ fs, HO.lst vs ≠ .xd fs) ∧ ∀ o w, HO.lst vs ≠ .frz o w := ⟨fun _ z => (by cases z), fun _ z => (by cases z), fun _ _ z => (by cases z)⟩
abbrev W0 : WX := fun _ _ _ _ => False
def sTs (G : Ctx) (W : WX) (m : DB) : TT := sT G W m
def dYes : DB := fun _ st => .ok true st
theorem r_pts0 : PTs X [] (sT G W dYes) := ⟨fun pins s σ H Q I ⟨ι, st, env, rp, re, q⟩ => (pts_nil (X := X)).run pins s σ H Q I (okR.ok q rp rfl)⟩
theorem r_pts1 (h : PT X c (sT G W n)) : PTs X [c] (sT G W n) := pts_one h
/-- the loop of a comprehension: what its W asks -/
theorem lc_fit {its : List D × (Store → Bool)} {g : DG} {ws vs : List Nat} {tt : DB} {te : DE} {J : It} {ι1 : List Addr} {st1 : Store} {H1 : Hp} {env : Env} {σ : L2.St} {Q : VK} {Dn : Addr} (hws : ∀ i ∈ ws, i ∈ vs)
    (wk : Walks G ι1 H1 its J) (rp1 : Rep G ι1 st1 H1) (re : REnv G ι1 H1 env σ) (hD : H1 Dn = none)
    (q : okR G W ι1 H1 σ (RV G) Q ((lcL its.2 g tt te (dWipe env vs) its.1 [] st1).bind fun acc st2 => alloc (.lst acc) st2)) :
    ∃ Wv : Nat → Nat → Hp → Prop, (∃ m, Wv 0 m (upd H1 Dn (.lst []))) ∧ ∀ i m H, Wv i m H →
      (J.stop i H ∧ Q (.ref Dn) H) ∨ (J.go i H ∧ ∃ Nx : Hp → Prop, (∀ H', Nx H' → ∃ m', m' < m ∧ Wv (i + 1) m' H') ∧ ∀ x H', J.yld i H x H' → sG G ws g x (L2.wipe σ vs) H' fun σ2 H2 => L2.wipe σ2 vs = L2.wipe σ vs ∧ sT G W0 tt σ2 H2 fun b H3 =>
        if b = true then sE G W0 te σ2 H3 fun y H4 => ∃ acc, H4 Dn = some (.lst acc) ∧ acc.length < sizeLine ∧ Nx (upd H4 Dn (.lst (acc ++ [y]))) else Nx H3) := by
  refine ⟨fun i m H => ∃ ι' st' acc accV, Ext ι1 ι' H1 H ∧ Rep G ι' st' H ∧ Dn ∉ ι' ∧ H Dn = some (.lst accV) ∧ RVs G ι' H acc accV ∧ m = its.1.length - i ∧ i ≤ its.1.length ∧
      okR G W ι1 H1 σ (RV G) Q ((lcL its.2 g tt te (dWipe env vs) (its.1.drop i) acc st').bind fun acc st2 => alloc (.lst acc) st2),
    ⟨its.1.length, ι1, st1, [], [], Ext.fresh hD, rp1.fresh hD, rp1.free hD, upd_same, .nil, by simp, Nat.zero_le _, by simpa using q⟩, ?_⟩
  rintro i m H ⟨ι', st', acc, accV, e', rp', hDn, hDv, ra, rfl, hi, q'⟩
  by_cases hlt : i < its.1.length
  · right
    rw [List.drop_eq_getElem_cons hlt] at q'
    unfold lcL at q'
    split at q'
    · rename_i hck
      obtain ⟨hgo, hy⟩ := wk.goes i its.1[i] ι' st' H e' rp' hck (by simp [hlt])
      refine ⟨hgo, fun H => ∃ ι' st' acc accV, Ext ι1 ι' H1 H ∧ Rep G ι' st' H ∧ Dn ∉ ι' ∧ H Dn = some (.lst accV) ∧ RVs G ι' H acc accV ∧ 
        okR G W ι1 H1 σ (RV G) Q ((lcL its.2 g tt te (dWipe env vs) (its.1.drop (i + 1)) acc st').bind fun acc st2 => alloc (.lst acc) st2), ?_, ?_⟩
      · rintro H2 ⟨ι2, st2, acc2, accV2, e2, rp2, hd2, hv2, ra2, q2⟩
        exact ⟨its.1.length - (i + 1), by omega, ι2, st2, acc2, accV2, e2, rp2, hd2, hv2, ra2, rfl, hlt, q2⟩
      · intro v H2 hv
        obtain ⟨e2, rp2, rv⟩ := hy v H2 hv
        obtain ⟨hd2, hv2⟩ := e2.stay hDn hDv
        refine ⟨ι', st', dWipe env vs, its.1[i], rp2, (((re.mono e').mono e2).wipe vs), rv, ?_⟩
        cases hgv : g its.1[i] (dWipe env vs) st' with
        | ok env3 st3 =>
          rw [hgv] at q'
          dsimp only at q'
          intro ι3 H3 σ3 e3 rp3 re3 hl3 ha3
          obtain ⟨hd3, hv3⟩ := e3.stay hd2 hv2
          refine ⟨(wipe_agree hl3 fun j hj => ha3 j fun z => hj (hws j z)).trans wipe_wipe, ι3, st3, env3, rp3, re3, ?_⟩
          cases htt : tt env3 st3 with
          | ok b st4 =>
            rw [htt] at q'
            intro ι4 H4 b' e4 rp4 rb
            obtain rfl : b = b' := rb
            obtain ⟨hd4, hv4⟩ := e4.stay hd3 hv3
            cases b with
            | false =>
              dsimp only at q'
              exact iteF ⟨ι4, st4, acc, accV, ((e'.trans e2).trans e3).trans e4, rp4, hd4, hv4, (ra.mono ((e2.trans e3).trans e4)), q'⟩
            | true =>
              dsimp only at q'
              refine iteT ⟨ι4, st4, env3, rp4, re3.mono e4, ?_⟩
              cases hte : te env3 st4 with
              | ok y st5 =>
                rw [hte] at q'
                dsimp only at q'
                intro ι5 H5 yv e5 rp5 ry
                obtain ⟨hd5, hv5⟩ := e5.stay hd4 hv4
                split at q'
                · rename_i hsz
                  have eall := (((e'.trans e2).trans e3).trans e4).trans e5
                  have ra5 := ra.mono (((e2.trans e3).trans e4).trans e5)
                  have pk : Imm ι5 ι5 H5 (upd H5 Dn (.lst (accV ++ [yv]))) := Imm.poke (xs := []) hv5 lst_pl
                  exact ⟨accV, hv5, by rw [← ra5.length]; exact hsz, ι5, st5, acc ++ [y], accV ++ [yv], eall.poke hD, rp5.poke hd5 hv5 lst_pl, hd5, upd_same, (ra5.append (.cons ry .nil)).monoI pk, q'⟩
                · exact q'.elim
              | exc x st5 => rw [hte] at q'; exact q'.elim
              | bad => rw [hte] at q'; exact q'.elim
          | exc x st4 => rw [htt] at q'; exact q'.elim
          | bad => rw [htt] at q'; exact q'.elim
        | exc x st3 => rw [hgv] at q'; exact q'.elim
        | bad => rw [hgv] at q'; exact q'.elim
    · exact q'.elim
  · left
    have hi2 : i = its.1.length := by omega
    subst hi2
    rw [List.drop_length] at q'
    unfold lcL at q'
    split at q'
    · rename_i hck
      refine ⟨wk.stops ι' st' H e' rp' hck, ?_⟩
      have z := (rp'.adopt (c := .lst acc) hDn ⟨accV, hDv, ra.monoI ⟨fun n a h => by rw [List.getElem?_append_left (List.getElem?_eq_some_iff.mp h).1, h], fun _ _ h => h, fun _ _ h => h, fun _ _ _ h => h⟩⟩)
      exact q' (ι' ++ [Dn]) H (.ref Dn) (e'.adopt hD) z (.ref (by rw [← rp'.len]; simp))
    · exact q'.elim
theorem fit_lc {g : DG} {ws vs : List Nat} {tt : DB} {te : DE} {it : DI} {σ : L2.St} {H : Hp} {Q : VK} (hws : ∀ i ∈ ws, i ∈ vs) (h : sE G W (dLc it g tt te vs) σ H Q) :
    tLc (sI G W it) (sG G ws g) (sT G W0 tt) (sE G W0 te) vs σ H Q := by
  obtain ⟨ι, st, env, rp, re, q⟩ := h
  exact ⟨ι, st, env, rp, re, okR.bind q fun its st1 ι1 H1 J e1 rp1 wk q1 Dn hD => lc_fit hws wk rp1 (re.mono e1) hD q1⟩
theorem r_lc {elt tg iter : Expr} {ifs : List Expr} {scope : Scope} {own : List (Str × Nat)} {it : DI} {g : DG} {ws : List Nat} {tt : DB} {te : DE} (hws : ∀ i ∈ ws, i ∈ own.map (·.2)) (hc : X.calm = true) (hN : X.N.Nodup) (hi : PI X tg iter (sI G W it)) (ok : BlkOk X.N X.env.scope scope own)
    (hg : ∀ (s : Shared) (H : Hp) (C : Addr) (cl : List (Str × Addr)) (fp : List Addr), PG (X.blk s H scope (compEnvC scope cl C X.env) fp) tg (sG G ws g)) (ht : ∀ (s : Shared) (H : Hp) (C : Addr) (cl : List (Str × Addr)) (fp : List Addr), PTs (X.blk s H scope (compEnvC scope cl C X.env) fp) ifs (sT G W0 tt))
    (he : ∀ (s : Shared) (H : Hp) (C : Addr) (cl : List (Str × Addr)) (fp : List Addr), PE (X.blk s H scope (compEnvC scope cl C X.env) fp) elt (sE G W0 te)) (hs : ∀ x, foldedSetIterable iter X.env x = pure x := by intro _; rfl) :
    PE X (.ListComp elt [⟨tg, iter, ifs, 0⟩] scope pos) (sE G W (dLc it g tt te (own.map (·.2)))) := (pe_lc hc hN hi ok hg ht he hs).imp fun _ _ _ h => fit_lc hws h
theorem r_setLc {i : Nat} {y : Str} {py spos : Pos} {elt tg iter : Expr} {ifs : List Expr} {scope : Scope} {own : List (Str × Nat)} {it : DI} {g : DG} {ws : List Nat} {tt : DB} {te : DE} (hws : ∀ i ∈ ws, i ∈ own.map (·.2)) (hc : X.calm = true) (hN : X.N.Nodup) (hy : X.N[i]? = some y) (hyl : X.env.scope.names.lookup y = some .local)
    (hsw : swapsWith (.ListComp elt [⟨tg, iter, ifs, 0⟩] scope pos) (some (.Name y py)) spos.line X.env = pure true) (hi : PI X tg iter (sI G W it)) (ok : BlkOk X.N X.env.scope scope own)
    (hg : ∀ (s : Shared) (H : Hp) (C : Addr) (cl : List (Str × Addr)) (fp : List Addr), PG (X.blk s H scope (compEnvC scope cl C X.env) fp) tg (sG G ws g)) (ht : ∀ (s : Shared) (H : Hp) (C : Addr) (cl : List (Str × Addr)) (fp : List Addr), PTs (X.blk s H scope (compEnvC scope cl C X.env) fp) ifs (sT G W0 tt))
    (he : ∀ (s : Shared) (H : Hp) (C : Addr) (cl : List (Str × Addr)) (fp : List Addr), PE (X.blk s H scope (compEnvC scope cl C X.env) fp) elt (sE G W0 te)) (hs : ∀ x, foldedSetIterable iter X.env x = pure x := by intro _; rfl) :
    PS X (.Assign [.Name y py] (.ListComp elt [⟨tg, iter, ifs, 0⟩] scope pos) spos) (sS G W (dAsg (dLc it g tt te (own.map (·.2))) (gNm i))) := (ps_setLc hc hN hy hyl hsw hi ok hg ht he hs).imp fun D σ H ⟨ι, st, env, rp, re, q⟩ => by
  refine fit_lc hws ⟨ι, st, env, rp, re, okS.lift q re fun d st1 ι1 H1 v e1 rp1 rv q1 => ?_⟩
  exact q1 ι1 H1 _ (Ext.refl _ _) rp1 ((re.mono e1).set rv)
end
end Dn
set_option Elab.async false
set_option linter.all false
set_option maxRecDepth 100000
set_option maxHeartbeats 1000000
/-! Dn5: what is walked -/
namespace Dn
open PySem PySem.Spec PyProof.Rows L2

/-! ### a list, a tuple, a text, by value -/
section
variable {X : Cx} {G : Ctx} {W : WX} {tg e : Expr}
def iAny (K : PySem.W.Frag) (te : TE) : TI := fun σ H R => te σ H fun v H1 => (∃ a, v = .ref a ∧ (∃ xs, SqL K H1 a xs) ∧ R (Itl K a) H1) ∨ (∃ a, v = .ref a ∧ (∃ xs, SqT K H1 a xs) ∧ R (Itt K a) H1) ∨ ∃ x, v = .str x ∧ R (Its x) H1
theorem pi_any {te : TE} (hl : PE X e te) : PI X tg e (iAny X.K te) := by
  refine ⟨fun pins s σ H R I h => ?_⟩
  refine thn (hl.run pins s σ H _ I h) fun v s1 ⟨x, H1, I1, r1, q1⟩ => ?_
  rcases q1 with ⟨a, e, ⟨xs, hq⟩, q⟩ | ⟨a, e, ⟨xs, hq⟩, q⟩ | ⟨x, ex, q⟩
  · subst e
    cases r1
    obtain ⟨its, rv, p, hz⟩ := I1.list hq
    refine wpAny_pyIter_list p.isList ?_
    refine ⟨s1.heap.objs.size, [s1.heap.objs.size], _, _, H1, rfl, I1.kept (t' := s1.toks) fun b o e => Heap.get?_push_of_some _ e, turn_list a _, ⟨_, Heap.get?_push_size _ rfl, rfl, rfl⟩, fun b hb => ?_, q⟩
    have e : b = s1.heap.objs.size := by simpa using hb
    subst e
    exact I1.fpOk (Nat.le_refl _) (I1.hok.fresh (Nat.le_refl _))
  · subst e
    cases r1
    obtain ⟨its, rv, p, hz⟩ := I1.tuple hq
    refine wpAny_pyIter_tuple (show s1.heap.IsTuple a its.toArray from p) ?_
    refine ⟨s1.heap.objs.size, [s1.heap.objs.size], _, _, H1, rfl, I1.kept (t' := s1.toks) fun b o e => Heap.get?_push_of_some _ e, turn_tuple a _, ⟨_, Heap.get?_push_size _ rfl, rfl, rfl⟩, fun b hb => ?_, q⟩
    have e : b = s1.heap.objs.size := by simpa using hb
    subst e
    exact I1.fpOk (Nat.le_refl _) (I1.hok.fresh (Nat.le_refl _))
  · subst ex
    obtain ⟨t, rfl⟩ := r1
    cases ha : x.cps.all (· < 128)
    · exact wpAny_pyIter_wide ha (pi_one (tk := s1.toks) I1 _ (turn_str _ x t "str_iterator" (.inr rfl)) ⟨_, Heap.get?_push_size _ rfl, rfl, rfl⟩ q)
    · exact wpAny_pyIter_ascii ha (pi_one (tk := s1.toks) I1 _ (turn_str _ x t "str_ascii_iterator" (.inl rfl)) ⟨_, Heap.get?_push_size _ rfl, rfl, rfl⟩ q)
end
section
variable {X : Cx} {G : Ctx} {W : WX} {tg e : Expr} {ι : List Addr} {H : Hp} {st : Store}
theorem isLst_at {st : Store} {n : Nat} {xs : List D} (rp : Rep G ι st H) (h : isLst st n xs = true) : ∀ a, ι[n]? = some a → ∃ vs, SqL G.K H a vs ∧ RVs G ι H xs vs := by
  intro a hn
  unfold isLst at h
  split at h
  · rename_i ys e
    obtain ⟨vs, ha, hv⟩ := rp.cell _ _ a e hn
    have : ys = xs := of_decide_eq_true h
    subst this
    exact ⟨vs, SqL.of ha, hv⟩
  · rename_i ys e
    obtain ⟨o, vs, ha, hv⟩ := rp.cell _ _ a e hn
    have : ys = xs := of_decide_eq_true h
    subst this
    exact ⟨vs, .inl (.inr ⟨o, ha⟩), hv⟩
  · cases h
theorem walks_list {n : Nat} {a : Addr} {xs : List D} (hn : ι[n]? = some a) : Walks G ι H (xs, fun st' => isLst st' n xs) (Itl G.K a) where
  goes := fun i x ι' st' H' e rp hck hx => by
    obtain ⟨vs, hq, hv⟩ := isLst_at rp hck a (e.ix hn)
    obtain ⟨v, h1, h2⟩ := hv.get hx
    refine ⟨⟨vs, v, hq, h1⟩, fun w H'' ⟨e1, e2⟩ => ?_⟩
    subst e1
    have e3 := e2 vs hq
    rw [h1] at e3
    cases e3
    exact ⟨Ext.refl _ _, rp, h2⟩
  stops := fun ι' st' H' e rp hck => by
    obtain ⟨vs, hq, hv⟩ := isLst_at rp hck a (e.ix hn)
    exact ⟨vs, hq, by rw [← hv.length]; exact Nat.le_refl _⟩
theorem walks_tup {a : Addr} {xs : List D} {vs : List V} (ha : H a = some (.tup vs)) (hv : RVs G ι H xs vs) : Walks G ι H (xs, fun _ => true) (Itt G.K a) where
  goes := fun i x ι' st' H' e rp hck hx => by
    obtain ⟨v, h1, h2⟩ := (hv.mono e).get hx
    have hq : SqT G.K H' a vs := SqT.of (e.tup _ _ ha)
    refine ⟨⟨vs, v, hq, h1⟩, fun w H'' ⟨e1, e2⟩ => ?_⟩
    subst e1
    have e3 := e2 vs hq
    rw [h1] at e3
    cases e3
    exact ⟨Ext.refl _ _, rp, h2⟩
  stops := fun ι' st' H' e rp hck => ⟨vs, SqT.of (e.tup _ _ ha), by rw [← hv.length]; exact Nat.le_refl _⟩
def strD (x : Str) : List D := x.cps.toList.map fun c => .str ⟨#[c]⟩
theorem walks_str {x : Str} : Walks G ι H (strD x, fun _ => true) (Its x) where
  goes := fun i y ι' st' H' e rp hck hx => by
    unfold strD at hx
    rw [List.getElem?_map] at hx
    cases hc : x.cps.toList[i]? with
    | none => rw [hc] at hx; cases hx
    | some c =>
      rw [hc] at hx
      cases hx
      have hi : i < x.cps.size := by
        have := (List.getElem?_eq_some_iff.mp hc).1
        simpa using this
      refine ⟨hi, fun w H'' ⟨e1, c', hc', e2⟩ => ?_⟩
      subst e1
      subst e2
      have : c' = c := by
        rw [← Array.getElem?_toList, hc] at hc'
        exact (Option.some.inj hc').symm
      subst this
      exact ⟨Ext.refl _ _, rp, .str _⟩
  stops := fun ι' st' H' e rp hck => by
    show x.cps.size ≤ (strD x).length
    unfold strD
    simp
theorem walks_rng (lo : Int) (n : Nat) : Walks G ι H ((List.range n).map fun i : Nat => D.int (lo + (i : Int)), fun _ => true) (Itr lo n) where
  goes := fun i y ι' st' H' e rp hck hx => by
    simp only [List.getElem?_map] at hx
    cases hc : (List.range n)[i]? with
    | none => rw [hc] at hx; cases hx
    | some c =>
      rw [hc] at hx
      have hi : i < n := by
        have := (List.getElem?_eq_some_iff.mp hc).1
        simpa using this
      rw [List.getElem?_range hi] at hc
      cases hc
      simp only [Option.map_some, Option.some.injEq] at hx
      subst hx
      refine ⟨hi, fun w H'' ⟨e1, e2⟩ => ?_⟩
      subst e1 e2
      exact ⟨Ext.refl _ _, rp, .int _⟩
  stops := fun ι' st' H' e rp hck => by
    show n ≤ _
    simp
end
/-! ### the denotations -/
def seqOf (x : D) (st : Store) : R (List D × (Store → Bool)) := match x with
  | .ref n => (match st[n]? with
    | some (.lst xs) => .ok (xs, fun st' => isLst st' n xs) st
    | some (.frz xs) => .ok (xs, fun st' => isLst st' n xs) st
    | _ => .bad)
  | .tup xs => .ok (xs, fun _ => true) st
  | .str x => .ok (strD x, fun _ => true) st
  | _ => .bad
def iVal (m : DE) : DI := fun env st => (m env st).bind seqOf
def rngD (i j : Int) : List D := (List.range (j - i).toNat).map fun k : Nat => D.int (i + (k : Int))
def smallR (i : Int) : Bool := decide (-(2 ^ 62) ≤ i) && decide (i < 2 ^ 62)
def iRange1 (m : DA) : DI := fun env st => (m env st).bind fun xs st1 => match xs with
  | [.int j] => if smallR j then .ok (rngD 0 j, fun _ => true) st1 else .bad
  | _ => .bad
def iRange2 (m : DA) : DI := fun env st => (m env st).bind fun xs st1 => match xs with
  | [.int i, .int j] => if smallR i && smallR j then .ok (rngD i j, fun _ => true) st1 else .bad
  | _ => .bad
def enumD : Nat → List D → List D
  | _, [] => []
  | k, x :: xs => .tup [.int (k : Nat), x] :: enumD (k + 1) xs
theorem enumD_get : ∀ (k : Nat) (xs : List D) (i : Nat), (enumD k xs)[i]? = xs[i]?.map fun x => .tup [.int ((k + i : Nat) : Int), x]
  | _, [], _ => by simp [enumD]
  | k, x :: xs, 0 => by simp [enumD]
  | k, x :: xs, i + 1 => by
    unfold enumD
    rw [List.getElem?_cons_succ, List.getElem?_cons_succ, enumD_get (k + 1) xs i]
    have e : k + 1 + i = k + (i + 1) := by omega
    rw [e]
theorem enumD_length (k : Nat) (xs : List D) : (enumD k xs).length = xs.length := by
  induction xs generalizing k with
  | nil => rfl
  | cons x xs ih => unfold enumD; simp [ih]
def seq2Of (x : D) (st : Store) : R (List D × (Store → Bool)) := match x with
  | .ref n => (match st[n]? with
    | some (.lst xs) => .ok (xs, fun st' => isLst st' n xs) st
    | some (.frz xs) => .ok (xs, fun st' => isLst st' n xs) st
    | _ => .bad)
  | .tup xs => .ok (xs, fun _ => true) st
  | _ => .bad
def iEnumD (m : DA) : DI := fun env st => (m env st).bind fun xs st1 => match xs with
  | [x] => (seq2Of x st1).bind fun its st2 => .ok (enumD 0 its.1, its.2) st2
  | _ => .bad
def zipD : List D → List D → List D
  | x :: xs, y :: ys => .tup [x, y] :: zipD xs ys
  | _, _ => []
def isTupD : D → Bool
  | .tup _ => true
  | _ => false
def iZipD (m : DA) : DI := fun env st => (m env st).bind fun xs st1 => match xs with
  | [x, y] => if isTupD x == isTupD y then (seq2Of x st1).bind fun a st2 => (seq2Of y st2).bind fun b st3 => .ok (zipD a.1 b.1, fun st' => a.2 st' && b.2 st') st3 else .bad
  | _ => .bad
def iRevD (m : DE) : DI := fun env st => (m env st).bind fun x st1 => (seq2Of x st1).bind fun its st2 => .ok (its.1.reverse, its.2) st2
section
variable {X : Cx} {G : Ctx} {W : WX} {tg e : Expr} {m : DE} {ma : DA} {p pos : Pos}
theorem r_iter (h : PE X e (sE G W m)) (hK : X.K = G.K := by rfl) : PI X tg e (sI G W (iVal m)) := (pi_any h).imp fun σ H R ⟨ι, st, env, rp, re, q⟩ => by
  refine ⟨ι, st, env, rp, re, okR.bind q fun x st1 ι1 H1 v e1 rp1 rv q1 => ?_⟩
  rw [hK]
  unfold seqOf at q1
  split at q1
  · cases rv with
    | @ref n a hn =>
    split at q1
    · rename_i xs e0
      obtain ⟨vs, ha, hv⟩ := rp1.cell _ _ a e0 hn
      exact .inl ⟨a, rfl, ⟨vs, SqL.of ha⟩, okR.ok (rel := Walks G) q1 rp1 (walks_list hn)⟩
    · rename_i xs e0
      obtain ⟨o, vs, ha, hv⟩ := rp1.cell _ _ a e0 hn
      exact .inl ⟨a, rfl, ⟨vs, .inl (.inr ⟨o, ha⟩)⟩, okR.ok (rel := Walks G) q1 rp1 (walks_list hn)⟩
    · exact q1.elim
  · cases rv with
    | tup ha hv => exact .inr (.inl ⟨_, rfl, ⟨_, SqT.of ha⟩, okR.ok (rel := Walks G) q1 rp1 (walks_tup ha hv)⟩)
  · cases rv
    exact .inr (.inr ⟨_, rfl, okR.ok (rel := Walks G) q1 rp1 walks_str⟩)
  · exact q1.elim
theorem smallR_ok {i : Int} (h : smallR i = true) : -(2 ^ 62) ≤ i ∧ i < 2 ^ 62 := by
  unfold smallR at h
  simpa using h
theorem rngD_walks {ι : List Addr} {H : Hp} (i j : Int) : Walks G ι H (rngD i j, fun _ => true) (Itr i (j - i).toNat) := walks_rng i (j - i).toNat
theorem r_range1 {a : Expr} (hg : Gl X "range") (hm : X.mg "range" = none) (ha : PA X [a] (sA G W ma)) (hs : starEach [a] X.env = [(false, eval a X.env)] := by rfl) : PI X tg (.Call (.Name "range" p) [a] [] pos) (sI G W (iRange1 ma)) := (pi_range1 hg hm ha hs).imp fun σ H R ⟨ι, st, env, rp, re, q⟩ => by
  refine ⟨ι, st, env, rp, re, okR.bind q fun xs st1 ι1 H1 vs e1 rp1 rvs q1 => ?_⟩
  split at q1
  · rename_i j
    cases rvs with
    | cons r rr =>
    cases rr
    cases r
    split at q1
    · rename_i h
      obtain ⟨h1, h2⟩ := smallR_ok h
      refine ⟨j, rfl, h1, h2, okR.ok (rel := Walks G) q1 rp1 ?_⟩
      have w := rngD_walks (G := G) (ι := ι1) (H := H1) 0 j
      rw [Int.sub_zero] at w
      exact w
    · exact q1.elim
  · exact q1.elim
theorem r_range2 {a b : Expr} (hg : Gl X "range") (hm : X.mg "range" = none) (ha : PA X [a, b] (sA G W ma)) (hs : starEach [a, b] X.env = [(false, eval a X.env), (false, eval b X.env)] := by rfl) (hs2 : starEach [b] X.env = [(false, eval b X.env)] := by rfl) :
    PI X tg (.Call (.Name "range" p) [a, b] [] pos) (sI G W (iRange2 ma)) := (pi_range2 hg hm ha hs hs2).imp fun σ H R ⟨ι, st, env, rp, re, q⟩ => by
  refine ⟨ι, st, env, rp, re, okR.bind q fun xs st1 ι1 H1 vs e1 rp1 rvs q1 => ?_⟩
  split at q1
  · rename_i i j
    cases rvs with
    | cons r rr =>
    cases rr with
    | cons r' rr =>
    cases rr
    cases r
    cases r'
    split at q1
    · rename_i h
      rw [Bool.and_eq_true] at h
      obtain ⟨h1, h2⟩ := smallR_ok h.1
      obtain ⟨h3, h4⟩ := smallR_ok h.2
      exact ⟨i, j, rfl, ⟨h1, h2, h3, h4⟩, okR.ok (rel := Walks G) q1 rp1 (rngD_walks i j)⟩
    · exact q1.elim
  · exact q1.elim
end
/-! ### enumerate -/
set_option maxHeartbeats 4000000 in
theorem meets_enumerate_newT (l : Addr) (items : Array Value) (o : Obj) (n : Nat) (hc : o.cls = .type "tuple") (hd : o.data = .seq items n) :
    Meets (Builtin.«enumerate.__new__» ⟨[.type "enumerate", .ref l], []⟩) (fun _ R s => s.heap.get? l = some o ∧
      R (.ok (.ret (.ref (s.heap.push { cls := .type "tuple_iterator", data := .fields #[.ref l, .int 0 0] }).objs.size)))
        { s with heap := (s.heap.push { cls := .type "tuple_iterator", data := .fields #[.ref l, .int 0 0] }).push { cls := .type "enumerate", data := .fields #[.none, .bool false, .ref s.heap.objs.size, rawInt 0, .none, .none] } }) :=
  .of_wp fun prog w A R s h => by
    obtain ⟨hp, g, d, tk, os⟩ := s; obtain ⟨hl, h⟩ := h
    have hsub := sub_enumerate
    obtain ⟨c, dct, dt, sl⟩ := o
    replace hc : c = .type "tuple" := hc
    replace hd : dt = .seq items n := hd
    subst hc hd
    have hL : Heap.IsTuple (Shared.heap ⟨hp, g, d, tk, os⟩) l items := ⟨_, hl, rfl, n, rfl⟩
    wp_walk using AutoSeq1.wpAny_loadPart' hl
    refine wpAny_stack_any fun st => wpAny_pure ?_
    split
    · rename_i c _ _ _ _ _
      cases (c == Value.type "enumerate")
      · wp_walk using AutoSeq1.wpAny_loadPart' hl, wpAny_pyIter_tuple hL
        exact ⟨_, rfl, h⟩
      · wp_walk using AutoSeq1.wpAny_loadPart' hl, wpAny_pyIter_tuple hL
        exact ⟨_, rfl, h⟩
    · wp_walk using AutoSeq1.wpAny_loadPart' hl, wpAny_pyIter_tuple hL
      exact ⟨_, rfl, h⟩
section
variable {prog : Program} {w : World} {A : Around} {E : Value → Shared → Prop} {s : Shared}
theorem call_enumerate_tup {l : Addr} {items : Array Value} {Q : Value → Shared → Prop} (hL : s.heap.IsTuple l items)
    (h : ∀ h', IsEnum h' (s.heap.objs.size + 1) s.heap.objs.size 0 .none → h'.IsTupleIter s.heap.objs.size l 0 → h'.objs.size = s.heap.objs.size + 2 →
      (∀ b o, s.heap.get? b = some o → h'.get? b = some o) → Q (.ref (s.heap.objs.size + 1)) { s with heap := h' }) :
    wpAny (model prog w) A (call (.type "enumerate") [.ref l]) Q E s := by
  obtain ⟨o, hl, hc, n, hd⟩ := hL
  refine callType_new F.called_enumerate (by decide) (F.typeCall_enumerate_1 _) (F.newCall_enumerate_1 _) (fun obj => F.args_object_init_2 obj _) F.entry_enumerate_new
    (meets_enumerate_newT l items o n hc hd) ⟨hl, ?_⟩
  have hz : (s.heap.push { cls := .type "tuple_iterator", data := .fields #[.ref l, .int 0 0] }).objs.size = s.heap.objs.size + 1 := Heap.size_push ..
  show _ ∧ _
  rw [hz]
  have he : IsEnum ((s.heap.push { cls := .type "tuple_iterator", data := .fields #[.ref l, .int 0 0] }).push
      { cls := .type "enumerate", data := .fields #[.none, .bool false, .ref s.heap.objs.size, rawInt 0, .none, .none] }) (s.heap.objs.size + 1) s.heap.objs.size 0 .none := by
    have := Heap.get?_push_size (s.heap.push { cls := .type "tuple_iterator", data := .fields #[.ref l, .int 0 0] })
      (o := { cls := .type "enumerate", data := .fields #[.none, .bool false, .ref s.heap.objs.size, rawInt 0, .none, .none] }) rfl
    rw [hz] at this; exact this
  refine ⟨⟨_, he, rfl⟩, h _ he ⟨_, Heap.get?_push_of_some _ (Heap.get?_push_size _ rfl), rfl, rfl⟩ (by rw [Heap.size_push, hz]) fun b o x => Heap.get?_push_of_some _ (Heap.get?_push_of_some _ x)⟩
end
def IteT (K : PySem.W.Frag) (a : Addr) : It :=
  ⟨fun i H => ∃ (xs : List V) (x : V), SqT K H a xs ∧ xs[i]? = some x, fun i H v H' => ∃ T x, v = .ref T ∧ H T = none ∧ H' = upd H T (.tup [.int (i : Nat), x]) ∧ ∀ xs, SqT K H a xs → xs[i]? = some x, fun i H => ∃ xs : List V, SqT K H a xs ∧ xs.length ≤ i⟩
theorem turn_enumT {P : Program} {w : World} {K : PySem.W.Frag} {elts : List Expr} {kk : Nat} {tpos : Pos} (a e it : Addr) (hai : a ≠ it) :
    Turn P w K (.Tuple elts kk tpos) (IteT K a) [e, it] e (fun i h => (∃ old, IsEnum h e it ((i : Nat) : Int) old) ∧ h.IsTupleIter it a i ∧ e ≠ it) where
  mem := by simp
  obj := fun i h st b hb => by
    obtain ⟨⟨old, he⟩, ⟨o, ho, hc, hd⟩, _⟩ := st
    have e' : b = e ∨ b = it := by simpa using hb
    rcases e' with z | z
    · rw [z]; exact ⟨_, he, fun v q => nomatch q⟩
    · rw [z]; exact ⟨o, ho, fun v q => by rw [hd] at q; cases q⟩
  keep := fun i h h' st k => let ⟨⟨old, he⟩, hi, hne⟩ := st; ⟨⟨old, k e (by simp) _ he⟩, hi.at fun o q => k it (by simp) o q, hne⟩
  item := by
    intro X hP hw hK hc i pins s σ H E I hf st hg
    subst hP hw hK
    obtain ⟨⟨old, he⟩, hit, hne⟩ := st
    obtain ⟨xs, x, hq, hx⟩ := hg
    obtain ⟨its, rv, p, hz⟩ := I.tuple hq
    obtain ⟨u, hu, ru⟩ := rv.get hx
    have hel : e < s.heap.objs.size := Heap.lt_size he
    have hil : it < s.heap.objs.size := by obtain ⟨_, q, _⟩ := hit; exact Heap.lt_size q
    have hea : e ≠ a := fun z => by
      obtain ⟨o, q, qc, _⟩ := p
      rw [← z, he] at q
      cases q
      exact absurd (Value.type.inj (show Value.type "enumerate" = Value.type "tuple" from qc)) (by decide)
    have hli : i < its.toArray.size := by
      have := (List.getElem?_eq_some_iff.mp hu).1
      simpa using this
    refine wpAny_pyNext_enum_itemC (Draws.tuple (show X.A.in1.handled = none from I.ok.hd hc) it a hai its.toArray) he ⟨hit, p⟩ hli hne (by simp [hne, hea]) fun x' h' tk hP ho hit' hT hsz hk => ?_
    have hx' : x' = u := by
      have hP' : its.toArray[i]? = some x' := hP
      rw [List.getElem?_toArray, hu] at hP'
      exact (Option.some.inj hP').symm
    subst hx'
    refine ⟨_, rfl, wpAny_letOwnedTupleGo_enum (s := { s with heap := h', toks := tk + 1 }) ho fun h'' he' sb => ?_⟩
    have hT2 : h''.get? s.heap.objs.size = some { cls := .type "tuple", data := .seq #[.int i tk, x'] } := (sb.2 _ (Nat.ne_of_gt hel)).trans hT
    have new : ObjOk X.prog X.w (upd H s.heap.objs.size (.tup [.int (i : Nat), x])) h'' s.heap.objs.size (.tup [.int (i : Nat), x]) :=
      ⟨by show 2 ≤ sizeLine; decide, [.int i tk, x'], .cons ⟨_, rfl⟩ (.cons ru .nil), ⟨_, hT2, rfl, _, rfl⟩⟩
    have I1 : Inv X pins σ (upd H s.heap.objs.size (.tup [.int (i : Nat), x])) { s with heap := h'', toks := tk + 1 } :=
      I.turnedNew (ch := [e, it]) (fun b ob hb q => (sb.2 b (fun z => hb (by simp [z]))).trans (hk b ob (fun z => hb (by simp [z])) (fun z => hb (by simp [z])) q)) hf (Nat.le_refl _) new
    refine ⟨.ref s.heap.objs.size, _, I1, rfl, ⟨_, x, rfl, I.hok.fresh (Nat.le_refl _), rfl, fun ys hy => by rw [I.tuple_inj hy hq]; exact hx⟩, ⟨⟨x', ?_⟩, hit'.1.at fun o q => (sb.2 it (Ne.symm hne)).trans q, hne⟩, fun b hb => ?_⟩
    · have e1 : ((i + 1 : Nat) : Int) = (i : Int) + 1 := by omega
      rw [e1]; exact he'
    · have hb' : b < s.heap.objs.size := by
        have e' : b = e ∨ b = it := by simpa using hb
        rcases e' with z | z
        · rw [z]; exact hel
        · rw [z]; exact hil
      rw [upd_ne (Nat.ne_of_lt hb')]
      exact (hf b hb).1
  done := by
    intro X hP hw hK hc i pins s σ H E I hf st hg
    subst hP hw hK
    obtain ⟨⟨old, he⟩, hit, hne⟩ := st
    obtain ⟨xs, hq, hx⟩ := hg
    obtain ⟨its, rv, p, hz⟩ := I.tuple hq
    obtain ⟨f0, f1, f2, f3, f4, f5⟩ := hf it (by simp)
    have hl := rv.length
    unfold pyNext
    refine wpAny_bind (wpAny_attempt (wpAny_callSpecial?_slot (name := Str.ofString "__next__") ⟨_, he, rfl⟩ F.slot_enumerate_next
      (wpAny_call_entry F.slot_enumerate_next ⟨_, he, rfl⟩ F.entry_enumerate_next ?_ (F.args_enumerate_next_1 _))))
    show wpAny _ _ (field (.ref e) 2 >>= _) _ _ _
    refine wpAny_bind (wpAny_field he rfl (x := .ref it) rfl ?_)
    refine wpAny_bind (wpAny_nextOf_tuple_end (I.ok.hd hc) hit p (by simp; omega) fun h' x he' hx' => ?_)
    obtain ⟨o, ho, hcc⟩ := hx'
    refine wpAny_bind (wpAny_isInstance (T := "StopIteration") (b := true) ⟨o, ho, hcc⟩ isSubtype_stop ?_)
    exact wpAny_pure ⟨rfl, I.turned (t' := s.toks) (fun b o hb q => he' b o hb q) f0 f1 f3 f4 f5⟩
  self := fun A i s Q E st h => let ⟨⟨_, he⟩, _⟩ := st; wpAny_pyIter_enum he h
def iEnumA (K : PySem.W.Frag) (ta : TA) : TI := fun σ H R => ta σ H fun vs H1 => ∃ a, vs = [.ref a] ∧ (((∃ xs, SqL K H1 a xs) ∧ R (Ite K a) H1) ∨ ((∃ xs, SqT K H1 a xs) ∧ R (IteT K a) H1))
theorem pi_enumA {X : Cx} {e : Expr} {ta : TA} {p pos tpos : Pos} {elts : List Expr} {kk : Nat} (hg : Gl X "enumerate") (hm : X.mg "enumerate" = none) (ha : PA X [e] ta) (hs : starEach [e] X.env = [(false, eval e X.env)] := by rfl) :
    PI X (.Tuple elts kk tpos) (.Call (.Name "enumerate" p) [e] [] pos) (iEnumA X.K ta) := by
  refine ⟨fun pins s σ H R I h => ?_⟩
  refine Call_ (ld_blt I hg hm boot_enumerate (PyProof.Rows.callWith_type1 (thn (ha.run pos pins s σ H _ I h) fun us s1 ⟨vs, H1, I1, r1, q1⟩ => ?_) hs rfl))
  obtain ⟨a, ex, q1⟩ := q1
  subst ex
  cases r1 with
  | cons r rr =>
    cases rr
    cases r
    have hfr : ∀ b ∈ [s1.heap.objs.size + 1, s1.heap.objs.size], FpOk X pins H1 b := fun b hb => by
      have e' : b = s1.heap.objs.size + 1 ∨ b = s1.heap.objs.size := by simpa using hb
      have hle : s1.heap.objs.size ≤ b := by
        rcases e' with z | z
        · rw [z]; exact Nat.le_add_right _ _
        · rw [z]; exact Nat.le_refl _
      exact I1.fpOk hle (I1.hok.fresh hle)
    rcases q1 with ⟨⟨xs, hq⟩, q⟩ | ⟨⟨xs, hq⟩, q⟩
    · obtain ⟨its, rv, p', hz⟩ := I1.list hq
      refine call_enumerate_list p'.isList fun h' he hit hsz hk => wpAny_pyIter_enum he ?_
      have I2 : Inv X pins σ H1 { s1 with heap := h' } := I1.kept (t' := s1.toks) hk
      exact ⟨s1.heap.objs.size + 1, [s1.heap.objs.size + 1, s1.heap.objs.size], _, _, H1, rfl, I2, turn_enum a (s1.heap.objs.size + 1) s1.heap.objs.size, ⟨⟨.none, he⟩, hit, Nat.succ_ne_self _⟩, hfr, q⟩
    · obtain ⟨its, rv, p', hz⟩ := I1.tuple hq
      have hal : a < s1.heap.objs.size := by obtain ⟨o, ho, _⟩ := p'; exact Heap.lt_size ho
      refine call_enumerate_tup (show s1.heap.IsTuple a its.toArray from p') fun h' he hit hsz hk => wpAny_pyIter_enum he ?_
      have I2 : Inv X pins σ H1 { s1 with heap := h' } := I1.kept (t' := s1.toks) hk
      exact ⟨s1.heap.objs.size + 1, [s1.heap.objs.size + 1, s1.heap.objs.size], _, _, H1, rfl, I2, turn_enumT a (s1.heap.objs.size + 1) s1.heap.objs.size (Nat.ne_of_lt hal), ⟨⟨.none, he⟩, hit, Nat.succ_ne_self _⟩, hfr, q⟩
section
variable {X : Cx} {G : Ctx} {W : WX} {tg e : Expr} {m : DE} {ma : DA} {p pos tpos : Pos} {ι : List Addr} {H : Hp} {st : Store}
theorem walks_enum {n : Nat} {a : Addr} {xs : List D} (hn : ι[n]? = some a) : Walks G ι H (enumD 0 xs, fun st' => isLst st' n xs) (Ite G.K a) where
  goes := fun i x ι' st' H' e rp hck hx => by
    obtain ⟨vs, hq, hv⟩ := isLst_at rp hck a (e.ix hn)
    dsimp only at hx
    rw [enumD_get] at hx
    obtain ⟨y, hy, ey⟩ := Option.map_eq_some_iff.mp hx
    subst ey
    obtain ⟨v, h1, h2⟩ := hv.get hy
    refine ⟨⟨vs, v, hq, h1⟩, fun w H'' ⟨T, u, e0, hT, e1, e2⟩ => ?_⟩
    subst e0 e1
    have e3 := e2 vs hq
    rw [h1] at e3
    cases e3
    rw [Nat.zero_add]
    exact ⟨Ext.fresh hT, rp.fresh hT, .tup upd_same (.cons (.int _) (.cons (h2.mono (Ext.fresh hT)) .nil))⟩
  stops := fun ι' st' H' e rp hck => by
    obtain ⟨vs, hq, hv⟩ := isLst_at rp hck a (e.ix hn)
    exact ⟨vs, hq, by rw [← hv.length]; show _ ≤ (enumD 0 xs).length; rw [enumD_length]; exact Nat.le_refl _⟩
theorem walks_enumT {a : Addr} {xs : List D} {vs : List V} (ha : H a = some (.tup vs)) (hv : RVs G ι H xs vs) : Walks G ι H (enumD 0 xs, fun _ => true) (IteT G.K a) where
  goes := fun i x ι' st' H' e rp hck hx => by
    have hq : SqT G.K H' a vs := SqT.of (e.tup _ _ ha)
    dsimp only at hx
    rw [enumD_get] at hx
    obtain ⟨y, hy, ey⟩ := Option.map_eq_some_iff.mp hx
    subst ey
    obtain ⟨v, h1, h2⟩ := (hv.mono e).get hy
    refine ⟨⟨vs, v, hq, h1⟩, fun w H'' ⟨T, u, e0, hT, e1, e2⟩ => ?_⟩
    subst e0 e1
    have e3 := e2 vs hq
    rw [h1] at e3
    cases e3
    rw [Nat.zero_add]
    exact ⟨Ext.fresh hT, rp.fresh hT, .tup upd_same (.cons (.int _) (.cons (h2.mono (Ext.fresh hT)) .nil))⟩
  stops := fun ι' st' H' e rp hck => ⟨vs, SqT.of (e.tup _ _ ha), by rw [← hv.length]; show _ ≤ (enumD 0 xs).length; rw [enumD_length]; exact Nat.le_refl _⟩
theorem r_enum {elts : List Expr} {kk : Nat} (hg : Gl X "enumerate") (hm : X.mg "enumerate" = none) (ha : PA X [e] (sA G W ma)) (hs : starEach [e] X.env = [(false, eval e X.env)] := by rfl) (hK : X.K = G.K := by rfl) :
    PI X (.Tuple elts kk tpos) (.Call (.Name "enumerate" p) [e] [] pos) (sI G W (iEnumD ma)) := (pi_enumA hg hm ha hs).imp fun σ H R ⟨ι, st, env, rp, re, q⟩ => by
  refine ⟨ι, st, env, rp, re, okR.bind q fun xs st1 ι1 H1 vs e1 rp1 rvs q1 => ?_⟩
  rw [hK]
  split at q1
  · rename_i x
    cases rvs with
    | cons r rr =>
    cases rr
    unfold seq2Of at q1
    split at q1
    · cases r with
      | @ref n a hn =>
      refine ⟨a, rfl, ?_⟩
      split at q1
      · rename_i xs e0
        obtain ⟨vs, ha, hv⟩ := rp1.cell _ _ a e0 hn
        exact .inl ⟨⟨vs, SqL.of ha⟩, okR.ok (rel := Walks G) q1 rp1 (walks_enum hn)⟩
      · rename_i xs e0
        obtain ⟨o, vs, ha, hv⟩ := rp1.cell _ _ a e0 hn
        exact .inl ⟨⟨vs, .inl (.inr ⟨o, ha⟩)⟩, okR.ok (rel := Walks G) q1 rp1 (walks_enum hn)⟩
      · exact q1.elim
    · cases r with
      | tup ha hv => exact ⟨_, rfl, .inr ⟨⟨_, SqT.of ha⟩, okR.ok (rel := Walks G) q1 rp1 (walks_enumT ha hv)⟩⟩
    · exact q1.elim
  · exact q1.elim
/-! ### zip, reversed -/
theorem zipD_get : ∀ (xs ys : List D) (i : Nat) (z : D), (zipD xs ys)[i]? = some z → ∃ x y, xs[i]? = some x ∧ ys[i]? = some y ∧ z = .tup [x, y]
  | [], ys, i, z, h => by simp [zipD] at h
  | x :: xs, [], i, z, h => by simp [zipD] at h
  | x :: xs, y :: ys, 0, z, h => by
    simp [zipD] at h
    exact ⟨x, y, rfl, rfl, h.symm⟩
  | x :: xs, y :: ys, i + 1, z, h => by
    simp only [zipD, List.getElem?_cons_succ] at h ⊢
    exact zipD_get xs ys i z h
theorem zipD_length : ∀ (xs ys : List D), xs.length ≤ (zipD xs ys).length ∨ ys.length ≤ (zipD xs ys).length
  | [], ys => by simp [zipD]
  | x :: xs, [] => by simp [zipD]
  | x :: xs, y :: ys => by
    simp only [zipD, List.length_cons]
    rcases zipD_length xs ys with h | h
    · exact .inl (by omega)
    · exact .inr (by omega)
theorem walks_zip {n k : Nat} {a b : Addr} {xs ys : List D} (hn : ι[n]? = some a) (hk : ι[k]? = some b) : Walks G ι H (zipD xs ys, fun st' => isLst st' n xs && isLst st' k ys) (Itz G.K a b) where
  goes := fun i x ι' st' H' e rp hck hx => by
    rw [Bool.and_eq_true] at hck
    obtain ⟨vs, hq, hv⟩ := isLst_at rp hck.1 a (e.ix hn)
    obtain ⟨ws, hq', hv'⟩ := isLst_at rp hck.2 b (e.ix hk)
    obtain ⟨x1, y1, g1, g2, ez⟩ := zipD_get _ _ _ _ hx
    subst ez
    obtain ⟨v, h1, h2⟩ := hv.get g1
    obtain ⟨w, h3, h4⟩ := hv'.get g2
    refine ⟨⟨vs, ws, v, w, hq, hq', h1, h3⟩, fun z H'' ⟨T, u, u', e0, hT, e1, e2, e3⟩ => ?_⟩
    subst e0 e1
    have e4 := e2 vs hq
    have e5 := e3 ws hq'
    rw [h1] at e4
    rw [h3] at e5
    cases e4
    cases e5
    exact ⟨Ext.fresh hT, rp.fresh hT, .tup upd_same (.cons (h2.mono (Ext.fresh hT)) (.cons (h4.mono (Ext.fresh hT)) .nil))⟩
  stops := fun ι' st' H' e rp hck => by
    rw [Bool.and_eq_true] at hck
    obtain ⟨vs, hq, hv⟩ := isLst_at rp hck.1 a (e.ix hn)
    obtain ⟨ws, hq', hv'⟩ := isLst_at rp hck.2 b (e.ix hk)
    exact ⟨vs, ws, hq, hq', by rw [← hv.length, ← hv'.length]; exact zipD_length xs ys⟩
theorem walks_zipT {a b : Addr} {xs ys : List D} {vs ws : List V} (ha : H a = some (.tup vs)) (hv : RVs G ι H xs vs) (hb : H b = some (.tup ws)) (hv' : RVs G ι H ys ws) : Walks G ι H (zipD xs ys, fun _ => true && true) (RZ.ItzT G.K a b) where
  goes := fun i x ι' st' H' e rp hck hx => by
    have hq : SqT G.K H' a vs := SqT.of (e.tup _ _ ha)
    have hq' : SqT G.K H' b ws := SqT.of (e.tup _ _ hb)
    obtain ⟨x1, y1, g1, g2, ez⟩ := zipD_get _ _ _ _ hx
    subst ez
    obtain ⟨v, h1, h2⟩ := (hv.mono e).get g1
    obtain ⟨w, h3, h4⟩ := (hv'.mono e).get g2
    refine ⟨⟨vs, ws, v, w, hq, hq', h1, h3⟩, fun z H'' ⟨T, u, u', e0, hT, e1, e2, e3⟩ => ?_⟩
    subst e0 e1
    have e4 := e2 vs hq
    have e5 := e3 ws hq'
    rw [h1] at e4
    rw [h3] at e5
    cases e4
    cases e5
    exact ⟨Ext.fresh hT, rp.fresh hT, .tup upd_same (.cons (h2.mono (Ext.fresh hT)) (.cons (h4.mono (Ext.fresh hT)) .nil))⟩
  stops := fun ι' st' H' e rp hck => ⟨vs, ws, SqT.of (e.tup _ _ ha), SqT.of (e.tup _ _ hb), by rw [← hv.length, ← hv'.length]; exact zipD_length xs ys⟩
/-- what seq2Of found -/
theorem seq2_ok {x : D} {v : V} {its : List D × (Store → Bool)} {st st2 : Store} (rp : Rep G ι st H) (rv : RV G ι H x v) (e : seq2Of x st = .ok its st2) : st2 = st ∧ ∃ a, v = .ref a ∧
    ((isTupD x = false ∧ ∃ n vs, ι[n]? = some a ∧ SqL G.K H a vs ∧ RVs G ι H its.1 vs ∧ its.2 = fun st' => isLst st' n its.1) ∨ (isTupD x = true ∧ ∃ vs, H a = some (.tup vs) ∧ RVs G ι H its.1 vs ∧ its.2 = fun _ => true)) := by
  unfold seq2Of at e
  split at e
  · cases rv with
    | @ref n a hn =>
    split at e
    · rename_i xs e0
      obtain ⟨vs, ha, hv⟩ := rp.cell _ _ a e0 hn
      cases e
      exact ⟨rfl, a, rfl, .inl ⟨rfl, _, vs, hn, SqL.of ha, hv, rfl⟩⟩
    · rename_i xs e0
      obtain ⟨o, vs, ha, hv⟩ := rp.cell _ _ a e0 hn
      cases e
      exact ⟨rfl, a, rfl, .inl ⟨rfl, _, vs, hn, .inl (.inr ⟨o, ha⟩), hv, rfl⟩⟩
    · cases e
  · cases rv with
    | tup ha hv =>
      cases e
      exact ⟨rfl, _, rfl, .inr ⟨rfl, _, ha, hv, rfl⟩⟩
  · cases e
theorem r_zip {e2 : Expr} {elts : List Expr} {kk : Nat} (hg : Gl X "zip") (hm : X.mg "zip" = none) (ha : PA X [e, e2] (sA G W ma))
    (hs : starEach [e, e2] X.env = (false, eval e X.env) :: starEach [e2] X.env := by rfl) (hpl : (backTo pos (starEach [e2] X.env)).any (·.1) = false := by rfl) (hK : X.K = G.K := by rfl) :
    PI X (.Tuple elts kk tpos) (.Call (.Name "zip" p) [e, e2] [] pos) (sI G W (iZipD ma)) := (RZ.pi_zipA hg hm ha hs hpl).imp fun σ H R ⟨ι, st, env, rp, re, q⟩ => by
  refine ⟨ι, st, env, rp, re, okR.bind q fun xs st1 ι1 H1 vs e1 rp1 rvs q1 => ?_⟩
  rw [hK]
  split at q1
  · rename_i x y
    cases rvs with
    | cons r1 rr =>
    cases rr with
    | cons r2 rr =>
    cases rr
    split at q1
    · rename_i hxy
      have hxy : isTupD x = isTupD y := by simpa using hxy
      cases h1 : seq2Of x st1 with
      | bad => rw [h1] at q1; exact q1.elim
      | exc _ _ =>
        exfalso
        unfold seq2Of at h1
        split at h1
        · split at h1 <;> cases h1
        · cases h1
        · cases h1
      | ok a st2 =>
        rw [h1] at q1
        obtain ⟨e2, A, ev, k1⟩ := seq2_ok rp1 r1 h1
        subst e2
        rw [Dn.R.bind_ok] at q1
        cases h2 : seq2Of y st2 with
        | bad => rw [h2] at q1; exact q1.elim
        | exc _ _ =>
          exfalso
          unfold seq2Of at h2
          split at h2
          · split at h2 <;> cases h2
          · cases h2
          · cases h2
        | ok b st3 =>
          rw [h2] at q1
          obtain ⟨e3, B, ew, k2⟩ := seq2_ok rp1 r2 h2
          subst e3 ev ew
          rw [Dn.R.bind_ok] at q1
          obtain ⟨a1, a2⟩ := a
          obtain ⟨b1, b2⟩ := b
          rcases k1 with ⟨t1, n, vs, hn, hq, hv, ec⟩ | ⟨t1, vs, hq, hv, ec⟩
          · rcases k2 with ⟨t2, k, ws, hn2, hq2, hv2, ec2⟩ | ⟨t2, ws, hq2, hv2, ec2⟩
            · dsimp only at ec ec2 q1
              rw [ec, ec2] at q1
              exact ⟨A, B, vs, ws, rfl, .inl ⟨hq, hq2, okR.ok (rel := Walks G) q1 rp1 (walks_zip hn hn2)⟩⟩
            · rw [t1, t2] at hxy; cases hxy
          · rcases k2 with ⟨t2, k, ws, hn2, hq2, hv2, ec2⟩ | ⟨t2, ws, hq2, hv2, ec2⟩
            · rw [t1, t2] at hxy; cases hxy
            · dsimp only at ec ec2 q1
              rw [ec, ec2] at q1
              exact ⟨A, B, vs, ws, rfl, .inr ⟨SqT.of hq, SqT.of hq2, okR.ok (rel := Walks G) q1 rp1 (walks_zipT hq hv hq2 hv2)⟩⟩
    · exact q1.elim
  · exact q1.elim
end
end Dn
set_option Elab.async false
set_option linter.all false
set_option maxRecDepth 100000
set_option maxHeartbeats 1000000
/-! Dn6: parallel assignment, two clauses, calls, defs -/
namespace Dn
open PySem PySem.Spec PyProof.Rows L2
section
variable {X : Cx} {G : Ctx} {W : WX} {a b c e : Expr} {m : DE} {ma : DA} {p pos : Pos}
def dPar (is : List Nat) (ma : DA) : DS := fun env st => (ma env st).toS env fun ds st1 => if ds.length = is.length then .nx ((is.zip ds).foldl (fun env z => env.set z.1 (some z.2)) env) st1 else .bad
theorem r_par {i j : Nat} {x y : Str} {px py pt : Pos} {kt k2 pt2} (hc : X.calm = true) (hN : X.N.Nodup) (hi : X.N[i]? = some x) (hj : X.N[j]? = some y) (hij : i ≠ j)
    (hx : X.env.scope.names.lookup x = some .local) (hy : X.env.scope.names.lookup y = some .local) (ha : PA X [a, b] (sA G W ma))
    (hw : swappedStores [.Tuple [.Name x px, .Name y py] kt pt] (.Tuple [a, b] k2 pt2) X.env = pure (some [x, y]))
    (hs : swapsWithSole [.Tuple [.Name x px, .Name y py] kt pt] (.Tuple [a, b] k2 pt2) pos.line X.env = pure false := by rfl) :
    PS X (.Assign [.Tuple [.Name x px, .Name y py] kt pt] (.Tuple [a, b] k2 pt2) pos) (sS G W (dPar [i, j] ma)) := (ps_par hc hN hi hj hij hx hy ha hw hs).imp fun D σ H ⟨ι, st, env, rp, re, q⟩ => by
  refine ⟨ι, st, env, rp, re, okS.lift q re fun ds st1 ι1 H1 vs e1 rp1 rv q1 => ?_⟩
  split at q1
  · rename_i hl
    match ds, rv, hl with
    | [d1, d2], .cons r1 (.cons r2 .nil), _ => exact ⟨_, _, rfl, q1 ι1 H1 _ (Ext.refl _ _) rp1 (((re.mono e1).set r1).set r2)⟩
  · exact q1.elim
theorem r_par3 {i j l : Nat} {x y z : Str} {px py pz pt : Pos} {kt k2 pt2} (hc : X.calm = true) (hN : X.N.Nodup) (hi : X.N[i]? = some x) (hj : X.N[j]? = some y) (hl : X.N[l]? = some z) (hij : i ≠ j) (hil : i ≠ l) (hjl : j ≠ l)
    (hx : X.env.scope.names.lookup x = some .local) (hy : X.env.scope.names.lookup y = some .local) (hz : X.env.scope.names.lookup z = some .local) (ha : PA X [a, b, c] (sA G W ma))
    (hw : swappedStores [.Tuple [.Name x px, .Name y py, .Name z pz] kt pt] (.Tuple [a, b, c] k2 pt2) X.env = pure (some [x, y, z]))
    (hs : swapsWithSole [.Tuple [.Name x px, .Name y py, .Name z pz] kt pt] (.Tuple [a, b, c] k2 pt2) pos.line X.env = pure false := by rfl) :
    PS X (.Assign [.Tuple [.Name x px, .Name y py, .Name z pz] kt pt] (.Tuple [a, b, c] k2 pt2) pos) (sS G W (dPar [i, j, l] ma)) := (ps_par3 hc hN hi hj hl hij hil hjl hx hy hz ha hw hs).imp fun D σ H ⟨ι, st, env, rp, re, q⟩ => by
  refine ⟨ι, st, env, rp, re, okS.lift q re fun ds st1 ι1 H1 vs e1 rp1 rv q1 => ?_⟩
  split at q1
  · rename_i hl
    match ds, rv, hl with
    | [d1, d2, d3], .cons r1 (.cons r2 (.cons r3 .nil)), _ => exact ⟨_, _, _, rfl, q1 ι1 H1 _ (Ext.refl _ _) rp1 ((((re.mono e1).set r1).set r2).set r3)⟩
  · exact q1.elim
end
/-! ### calls of defs -/
abbrev DF := List D → Store → R D
def sF (G : Ctx) (m : DF) : Sp := fun vs H Q E => ∃ ι st xs, Rep G ι st H ∧ RVs G ι H xs vs ∧ okR G (fun c d _ H' => E c d H') ι H [] (RV G) Q (m xs st)
theorem okR.wish {G : Ctx} {W W' : WX} {ι : List Addr} {H : Hp} {σ σ' : L2.St} {α β : Type} {rel : List Addr → Hp → α → β → Prop} {Q : β → Hp → Prop} {r : R α} (h : okR G W ι H σ rel Q r) (hw : ∀ c d H', W c d σ H' → W' c d σ' H') : okR G W' ι H σ' rel Q r := by
  cases r with
  | ok d st => exact h
  | exc x st => exact fun ι1 H1 dd ws e r hx hf => hw _ _ _ (h ι1 H1 dd ws e r hx hf)
  | bad => exact h
section
variable {X : Cx} {G : Ctx} {W : WX} {e : Expr} {es : List Expr} {ma : DA} {m : DF} {x : Str} {k : Nat} {f : Addr} {fd : FuncData} {ps : List Str} {p pos : Pos}
theorem r_call (F : FnOk X.prog X.w X.K X.mg X.base (L2.CX X.prog X.w) k f fd ps (sF G m)) (hr : Room k X.A) (hg : Gl X x) (hm : X.mg x = some (.ref f)) (hk : PySem.W.keepIn X.K (.ref f) = true) (hb : Binds X.K fd ps []) (tk : Takes X W)
    (ha : PA X (e :: es) (sA G W ma)) (hdb : (x == ("__debug__" : Str)) = false := by decide) (he : starEach (e :: es) X.env = (false, eval e X.env) :: starEach es X.env := by rfl) (hpl : (backTo pos (starEach es X.env)).any (·.1) = false := by rfl) :
    PE X (.Call (.Name x p) (e :: es) [] pos) (sE G W (dCall m ma)) := (pe_callS F hr hg hm hk hb (passAt tk) ha hdb he hpl).imp fun σ H Q ⟨ι, st, env, rp, re, q⟩ => by
  refine ⟨ι, st, env, rp, re, okR.bind q fun xs st1 ι1 H1 vs e1 rp1 rvs q1 => ?_⟩
  exact ⟨ι1, st1, xs, rp1, rvs, q1.wish fun c d H' h => h⟩
end
/-- a def: n parameters, N slots -/
def dDef (n N : Nat) (m : DS) : DF := fun xs st => if xs.length = n then (match m (xs.map some ++ List.replicate (N - n) none) st with
  | .nx _ st1 => .ok .non st1
  | .rt d st1 => .ok d st1
  | .ex x _ st1 => .exc x st1
  | _ => .bad) else .bad
theorem fn_den {P : Program} {w : World} {K : PySem.W.Frag} {mg : Str → Option Value} {base : Heap} {x qual : Str} {params : Arguments} {body : List Stmt} {scope : Scope} {dvs : List V} {kws : List (Str × V)} {f : Addr} {fd : FuncData} {N ps : List Str} {k : Nat} {G : Ctx} {m : DS}
    (F : FunD K x qual params body scope dvs kws f fd) (S : FnScope N ps scope) 
    (hb : ∀ (cdv : Value) (A : Around) (outer : List PySem.Env) (s : Shared) (H : Hp) (E : XK), Room k (A.deeper (envOfC qual scope s.heap.objs.size f cdv)) →
      PSs (cxOf (L2.CX P w) P w K mg base N qual scope f cdv A outer s H E) body (sS G (fun c d _ H => E c d H) m)) :
    FnOk P w K mg base (L2.CX P w) (k + 1) f fd ps (sF G (dDef ps.length N.length m)) := by
  have len : ∀ vs H Q E, sF G (dDef ps.length N.length m) vs H Q E → vs.length = ps.length := fun vs H Q E ⟨ι, st, xs, rp, rvs, q⟩ => by
    unfold dDef at q
    split at q
    · rename_i h
      rw [← rvs.length, h]
    · exact q.elim
  refine F.ok S len fun cdv A outer s H vs Q E hr h => ⟨_, hb cdv A outer s H E hr, ?_⟩
  have hl := len vs H Q E h
  obtain ⟨ι, st, xs, rp, rvs, q⟩ := h
  unfold dDef at q
  rw [if_pos (by rw [rvs.length, hl])] at q
  refine ⟨ι, st, xs.map some ++ List.replicate (N.length - ps.length) none, rp, ?_, ?_⟩
  · refine ⟨?_, fun i d h => ?_⟩
    · unfold L2.start
      simp [rvs.length, hl]
    · by_cases hi : i < xs.length
      · rw [List.getElem?_append_left (by simpa using hi), List.getElem?_map] at h
        cases e : xs[i]? with
        | none => rw [e] at h; cases h
        | some y =>
          rw [e] at h
          cases h
          obtain ⟨v, h1, h2⟩ := rvs.get e
          refine ⟨v, ?_, h2⟩
          unfold L2.start
          rw [List.getElem?_append_left (by rw [List.length_map, ← rvs.length]; exact hi), List.getElem?_map, h1]
          rfl
      · rw [List.getElem?_append_right (by simpa using hi), List.getElem?_replicate] at h
        split at h <;> cases h
  · cases hm : m (xs.map some ++ List.replicate (N.length - ps.length) none) st with
    | nx env1 st1 =>
      rw [hm] at q
      exact fun ι' H' σ' e r _ => q ι' H' .non e r .non
    | rt d st1 =>
      rw [hm] at q
      exact q
    | ex xx env1 st1 =>
      rw [hm] at q
      exact fun ι' H' σ' dd ws e r _ h1 h2 => q ι' H' dd ws e r h1 h2
    | bk env1 st1 => rw [hm] at q; exact q.elim
    | ct env1 st1 => rw [hm] at q; exact q.elim
    | bad => rw [hm] at q; exact q.elim
/-- what is not reached -/
def dBad : DS := fun _ _ => .bad
theorem r_bad {X : Cx} {G : Ctx} {W : WX} {s : Stmt} : PS X s (sS G W dBad) := ⟨fun pins s σ H D I ⟨ι, st, env, rp, re, q⟩ => q.elim⟩
end Dn
set_option Elab.async false
set_option linter.all false
set_option maxRecDepth 100000
set_option maxHeartbeats 1000000
/-! Dn7: dicts with tuples for keys: comprehensions, update -/
namespace Dn
open PySem PySem.Spec PyProof.Rows L2
theorem t_dictSet {X : Cx} {pins : List (Addr × Obj)} {σ : L2.St} {H : Hp} {s : Shared} {E : Value → Shared → Prop} {D b : Addr} {kvs : List (List Key × V)} {k : List Key} {v : V} {u r : Value} {Q : Unit → Shared → Prop} (I : Inv X pins σ H s) (hD : H D = some (.dT kvs)) (hz : kvs.length < sizeLine)
    (hu : X.A.units < cLine) (eb : H b = some (.tup (k.map kV))) (ry : RelV (.ref b) u) (rv : RelV v r) (h : ∀ s', Inv X pins σ (upd H D (.dT (putK kvs k v))) s' → Q () s') : wpAny (model X.prog X.w) X.A (dictSet D u r) Q E s := by
  cases (show u = Value.ref b from ry)
  obtain ⟨z, hd, xs, rel, dd⟩ := dt_of I.hok hD
  have hzv : xs.length ≤ sizeLine := by rw [← Paired.length rel]; exact z
  have hl : (putK kvs k v).length ≤ sizeLine := by have := length_putK kvs k v; omega
  refine wpAny_dictSet_heap (hsz := hzv) (knd := tupleKind (mixKind X.prog X.w)) hu (key_of I.hok eb) dd fun h' dd' hs => h _ ?_
  obtain ⟨q, es, ep, hq, h2, h3, h4, _, h5⟩ := dd'
  refine d_write I (by rw [hD]; exact True.intro) hs ⟨q, hq⟩ ⟨hl, hd, _, (rel.put k eb rv).keeps fun c ys ec => ?_, q, es, ep, hq, h2, h3, h4, h5⟩
  rw [upd_ne (ne_of ec hD (fun z => nomatch z))]
  exact ec
section
variable {X : Cx}
/-- {k: v for target in iter if ..}, keys tuples: D the new dict -/
def tDcT (wi : TI) (g : TG) (tt : TT) (tk tv : TE) (vs : List Nat) : TE := fun σ H Q => wi σ H fun J H1 => ∀ D, H1 D = none → ∃ W : Nat → Nat → Hp → Prop, (∃ m, W 0 m (upd H1 D (.dT []))) ∧ ∀ i m H, W i m H →
  (J.stop i H ∧ Q (.ref D) H) ∨ (J.go i H ∧ ∃ Nx : Hp → Prop, (∀ H', Nx H' → ∃ m', m' < m ∧ W (i + 1) m' H') ∧ ∀ x H', J.yld i H x H' → g x (L2.wipe σ vs) H' fun σ2 H2 => L2.wipe σ2 vs = L2.wipe σ vs ∧ tt σ2 H2 fun b H3 =>
    if b = true then tk σ2 H3 fun y H4 => tv σ2 H4 fun z H5 => ∃ kvs k bb, y = .ref bb ∧ H5 bb = some (.tup (k.map kV)) ∧ H5 D = some (.dT kvs) ∧ kvs.length < sizeLine ∧ Nx (upd H5 D (.dT (putK kvs k z))) else Nx H3)
theorem dcT_core {pins : List (Addr × Obj)} {s : Shared} {σ : L2.St} {H : Hp} {Q : VK} {kx vx tg iter : Expr} {ifs : List Expr} {scope : Scope} {own : List (Str × Nat)} {pos pos' : Pos} {wi : TI} {g : TG} {tt : TT} {tk tv : TE} {use : Option (Value → Sem Unit)} {Qf : Value → Shared → Prop}
    (hun : X.A.units < cLine) (hc : X.calm = true) (hN : X.N.Nodup) (I : Inv X pins σ H s) (hi : PI X tg iter wi) (ok : BlkOk X.N X.env.scope scope own)
    (hg : ∀ (s : Shared) (H : Hp) (C : Addr) (cl : List (Str × Addr)) (fp : List Addr), PG (X.blk s H scope (compEnvC scope cl C X.env) fp) tg g) (ht : ∀ (s : Shared) (H : Hp) (C : Addr) (cl : List (Str × Addr)) (fp : List Addr), PTs (X.blk s H scope (compEnvC scope cl C X.env) fp) ifs tt)
    (hk : ∀ (s : Shared) (H : Hp) (C : Addr) (cl : List (Str × Addr)) (fp : List Addr), PE (X.blk s H scope (compEnvC scope cl C X.env) fp) kx tk)
    (he : ∀ (s : Shared) (H : Hp) (C : Addr) (cl : List (Str × Addr)) (fp : List Addr), PE (X.blk s H scope (compEnvC scope cl C X.env) fp) vx tv) (hs : ∀ x, foldedSetIterable iter X.env x = pure x)
    (h : tDcT wi g tt tk tv (own.map (·.2)) σ H Q)
    (hRR : ∀ D C s' m H', Inv X pins σ H' s' → Q (.ref D) H' → s'.heap.Ns C m → FpOk X pins H' C → compPost (model X.prog X.w) X.A X.xe use Qf (.ref D) C (.ok .next) s') :
    wpAny (model X.prog X.w) X.A (comprehension (.DictComp kx vx [⟨tg, iter, ifs, 0⟩] scope pos) scope X.env pos' newDict false (eval iter X.env) use) Qf X.xe s := by
  have hfree : ∀ y ∈ scope.names, y.2 = .free → ∃ c, X.env.cells.lookup y.1 = some c := fun y hy e => by
    rcases ok.free y hy e with k | k
    · exact I.ok.has _ (.inl k)
    · exact I.ok.has _ (.inr k)
  refine wpAny_comprehension_free (use := use) rfl hs (closure_ok hfree) ok.kind (fun y hy e => by rw [ok.uniq y hy, e])
    (thn (hi.run pins s σ H _ I h) fun xv s1 hx => thn hx fun itv s2 h2 => ?_)
  obtain ⟨it, fp, tn, J, H2, e, I2, T, st2, f2, q⟩ := h2
  subst e
  refine wpAny_newObj_type (newEnv_comp ?_)
  generalize hD : s2.heap.objs.size = D
  have hDn : H2 D = none := I2.hok.fresh (Nat.le_of_eq hD)
  obtain ⟨W, ⟨m0, w0⟩, turn⟩ := q D hDn
  -- the new list
  generalize hs3 : ({ s2 with heap := s2.heap.push { cls := .type "dict", data := .dict #[] } } : Shared) = s3
  have I3 : Inv X pins σ (upd H2 D (.dT [])) s3 := by
    rw [← hs3]
    refine I2.laid (t' := s2.toks) (fun b o e => Heap.get?_push_of_some _ e) (Nat.le_of_eq hD) ?_
    rw [← hD]
    exact dt_empty s2.heap I2.big
  have h3 : s3.heap = s2.heap.push { cls := .type "dict", data := .dict #[] } := by rw [← hs3]
  have sz : ∀ b ∈ fp, b < s2.heap.objs.size := fun b hb => by
    obtain ⟨o, e, _⟩ := T.obj _ _ st2 b hb
    exact Heap.lt_size e
  have f3 : ∀ b ∈ fp, FpOk X pins (upd H2 D (.dT [])) b ∧ b < s3.heap.objs.size := fun b hb => by
    have hlt := sz b hb
    refine ⟨⟨?_, (f2 b hb).2⟩, by rw [h3, Heap.size_push]; exact Nat.lt_succ_of_lt hlt⟩
    rw [upd_ne (by rw [← hD]; exact Nat.ne_of_lt hlt)]
    exact (f2 b hb).1
  have st3 : tn 0 s3.heap := T.keep _ _ _ st2 fun b _ o e => by rw [h3]; exact Heap.get?_push_of_some _ e
  have I4 := block_start I3 ok hN f3
  have pg := hg s3 (upd H2 D (.dT [])) s3.heap.objs.size (cellsFrom (s3.heap.objs.size + 1) scope.names (cloFrom X.env.cells scope.names [])) fp
  have pt := ht s3 (upd H2 D (.dT [])) s3.heap.objs.size (cellsFrom (s3.heap.objs.size + 1) scope.names (cloFrom X.env.cells scope.names [])) fp
  have pk := hk s3 (upd H2 D (.dT [])) s3.heap.objs.size (cellsFrom (s3.heap.objs.size + 1) scope.names (cloFrom X.env.cells scope.names [])) fp
  have pe := he s3 (upd H2 D (.dT [])) s3.heap.objs.size (cellsFrom (s3.heap.objs.size + 1) scope.names (cloFrom X.env.cells scope.names [])) fp
  show codeAny _ _ (.compStart (.DictComp kx vx [⟨tg, iter, ifs, 0⟩] scope pos) 0 (.ref it) (.ref D) (compEnvC scope (cellsFrom (s3.heap.objs.size + 1) scope.names (cloFrom X.env.cells scope.names [])) s3.heap.objs.size X.env)) (compPost (model X.prog X.w) X.A X.xe use Qf (.ref D) s3.heap.objs.size) { s3 with heap := pushCells (s3.heap.push { cls := .type "dict", data := .dict #[] }) scope.names }
  have nfp : ∀ b ∈ fp, (upd H2 D (.dT [])) b = none := fun b hb => (f3 b hb).1.1
  generalize hce : compEnvC scope (cellsFrom (s3.heap.objs.size + 1) scope.names (cloFrom X.env.cells scope.names [])) s3.heap.objs.size X.env = ce at I4 pg pt pk pe ⊢
  have cL : ce.locals = s3.heap.objs.size := by subst hce; rfl
  generalize hH3 : upd H2 D (.dT []) = H3 at I3 I4 pg pt pk pe w0 nfp f3
  generalize hs4 : ({ s3 with heap := pushCells (s3.heap.push { cls := .type "dict", data := .dict #[] }) scope.names } : Shared) = s4 at I4 ⊢
  have st4 : tn 0 s4.heap := T.keep _ _ _ st3 fun b _ o e => by rw [← hs4]; exact pushCells_keeps _ _ _ _ (Heap.get?_push_of_some _ e)
  have stat : ∀ {σ' : L2.St} {H' : Hp} {s' : Shared}, Inv (X.blk s3 H3 scope ce fp) [] σ' H' s' → (∀ b ∈ fp, H' b = none) → ∀ b ∈ fp, FpOk (X.blk s3 H3 scope ce fp) [] H' b := fun {σ' H' s'} I' hn b hb =>
    ⟨hn b hb, (I'.ok.exf b hb).1, I'.ok.exfs b hb, .inl hb, fun x c e => (I'.ok.exf b hb).2 x c e, fun p hp => absurd (show p ∈ ([] : List (Addr × Obj)) ++ [] from hp) (by simp)⟩
  have loop : codeAny (model X.prog X.w) X.A (.compLoop (.DictComp kx vx [⟨tg, iter, ifs, 0⟩] scope pos) 0 (.ref it) (.ref D) ce) (compPost (model X.prog X.w) X.A X.xe use Qf (.ref D) s3.heap.objs.size) s4 := by
    refine compLoop_anyD (fun n s' => ∃ i H', Inv (X.blk s3 H3 scope ce fp) [] (L2.wipe σ (own.map (·.2))) H' s' ∧ tn i s'.heap ∧ (∀ b ∈ fp, H' b = none) ∧ W i n H') ?_ m0 ⟨0, H3, I4, st4, nfp, w0⟩
    rintro n s5 ⟨i, H5, I5, st5, n5, w5⟩
    rcases turn i n H5 w5 with ⟨stop, qq⟩ | ⟨go, Nx, hNx, step⟩
    · have td := T.done (X.blk s3 H3 scope ce fp) rfl rfl rfl hc i [] s5 _ H5 (fun _ _ => False) I5 (stat I5 n5) st5 stop
      refine thnF td fun r s6 ⟨hr, I6⟩ => ?_
      subst hr
      -- back in the def's context
      have I7 : Inv X pins σ H5 s6 := I3.call' (ch := fp) I6.os I6.base I6.hok I6.bare fun b hb => ⟨(f3 b hb).1.2.2.2.1, (f3 b hb).1.2.1, (f3 b hb).1.2.2.2.2.1, (f3 b hb).1.2.2.2.2.2⟩
      have nC : H5 s3.heap.objs.size = none := by
        have z : H5 ce.locals = none := I6.free
        rw [cL] at z
        exact z
      obtain ⟨m, hn, _⟩ := I6.loc
      have hn : s6.heap.Ns ce.locals m := hn
      rw [cL] at hn
      exact hRR D s3.heap.objs.size s6 m H5 I7 qq hn (I3.fpOk (Nat.le_refl _) nC)
    · have ti := T.item (X.blk s3 H3 scope ce fp) rfl rfl rfl hc i [] s5 _ H5 (fun _ _ => False) I5 (stat I5 n5) st5 go
      refine thnF ti fun r s6 ⟨u, hr, h6⟩ => ?_
      subst hr
      refine thnF h6 fun _ s7 ⟨x, H7, I7, r7, y7, st7, n7⟩ => ?_
      have I7' := I7.pinned (stat I7 n7) (T.obj _ _ st7)
      refine thnF (pg.run _ s7 _ H7 x u _ I7' r7 (step x H7 y7)) fun _ s8 ⟨σ8, H8, I8, hw8, q8⟩ => ?_
      refine thnF (pt.run _ s8 σ8 H8 _ I8 q8) fun b s9 ⟨H9, I9, q9⟩ => ?_
      -- the turn's end
      have fin : ∀ {s' : Shared} {H' : Hp}, Inv (X.blk s3 H3 scope ce fp) ([] ++ pinsAt fp s7.heap) σ8 H' s' → Nx H' → ∃ m, m < n ∧ ∃ i H', Inv (X.blk s3 H3 scope ce fp) [] (L2.wipe σ (own.map (·.2))) H' s' ∧ tn i s'.heap ∧ (∀ b ∈ fp, H' b = none) ∧ W i m H' := fun {s' H'} I' nx => by
        obtain ⟨m', hm, w'⟩ := hNx H' nx
        have pin' : ∀ b ∈ fp, ∀ o, s7.heap.get? b = some o → s'.heap.get? b = some o ∧ H' b = none := fun b hb o e =>
          let z := I'.pin (b, o) (List.mem_append_right _ (List.mem_append_right _ (mem_pinsAt hb e)))
          ⟨z.1, z.2.1⟩
        have hl : (L2.wipe σ (own.map (·.2))).length = σ8.length := by rw [← hw8, L2.wipe_length]
        refine ⟨m', hm, i + 1, H', (I'.unpinned (pins := [])).weak hl (fun j v e => ?_), T.keep _ _ _ st7 fun b hb o e => (pin' b hb o e).1, fun b hb => ?_, w'⟩
        · rw [← hw8] at e
          exact (L2.wipe_some e).1
        · obtain ⟨o, e, _⟩ := T.obj _ _ st7 b hb
          exact (pin' b hb o e).2
      cases b with
      | false =>
        simp only [Bool.false_eq_true, if_false] at q9 ⊢
        exact fin I9 q9
      | true =>
        simp only [if_true] at q9 ⊢
        refine thnF (pk.run _ s9 σ8 H9 _ I9 q9) fun z s10 ⟨yk, H10, I10, r10, q10⟩ => ?_
        refine thnF (pe.run _ s10 σ8 H10 _ I10 q10) fun z2 s11 ⟨yv, H11, I11, r11, kvs, k, bk, ek, hbk, hD11, hz11, nx⟩ => ?_
        subst ek
        exact t_dictSet (X := X.blk s3 H3 scope ce fp) I11 hD11 hz11 hun hbk r10 r11 fun s12 I12 => fin I12 nx
  exact codeAny_compStart_dict loop (T.self X.A 0 _ _ _ st4 loop)

theorem pe_dcT {kx vx tg iter : Expr} {ifs : List Expr} {scope : Scope} {own : List (Str × Nat)} {pos : Pos} {wi : TI} {g : TG} {tt : TT} {tk tv : TE} (hun : X.A.units < cLine) (hc : X.calm = true) (hN : X.N.Nodup) (hi : PI X tg iter wi) (ok : BlkOk X.N X.env.scope scope own)
    (hg : ∀ (s : Shared) (H : Hp) (C : Addr) (cl : List (Str × Addr)) (fp : List Addr), PG (X.blk s H scope (compEnvC scope cl C X.env) fp) tg g) (ht : ∀ (s : Shared) (H : Hp) (C : Addr) (cl : List (Str × Addr)) (fp : List Addr), PTs (X.blk s H scope (compEnvC scope cl C X.env) fp) ifs tt)
    (hk : ∀ (s : Shared) (H : Hp) (C : Addr) (cl : List (Str × Addr)) (fp : List Addr), PE (X.blk s H scope (compEnvC scope cl C X.env) fp) kx tk)
    (he : ∀ (s : Shared) (H : Hp) (C : Addr) (cl : List (Str × Addr)) (fp : List Addr), PE (X.blk s H scope (compEnvC scope cl C X.env) fp) vx tv) (hs : ∀ x, foldedSetIterable iter X.env x = pure x := by intro _; rfl) :
    PE X (.DictComp kx vx [⟨tg, iter, ifs, 0⟩] scope pos) (tDcT wi g tt tk tv (own.map (·.2))) := by
  refine ⟨fun pins s σ H Q I h => ?_⟩
  rw [arm_eval_DictComp]
  refine dcT_core hun hc hN I hi ok hg ht hk he hs h fun D C s' m H' I' q hn f => ⟨m, hn, fun h'' sb => ?_⟩
  obtain ⟨f0, f1, f2, f3, f4, f5⟩ := f
  exact ⟨.ref D, H', I'.turned (t' := s'.toks) (fun b o hb e => (sb.2 b hb).trans e) f0 f1 f3 f4 f5, rfl, q⟩
end
/-! ### the denotation -/
def dcL (chk : Store → Bool) (g : DG) (tt : DB) (tk tv : DE) (env : Env) : List D → List (List Key × D) → Store → R (List (List Key × D))
  | [], acc, st => if chk st then .ok acc st else .bad
  | x :: xs, acc, st => if chk st then (match g x env st with
    | .ok env1 st1 => (match tt env1 st1 with
      | .ok true st2 => (match tk env1 st2 with
        | .ok (.tup ks) st3 => (match keysOf ks with
          | some kk => (match tv env1 st3 with
            | .ok y st4 => if acc.length < sizeLine then dcL chk g tt tk tv env xs (putD acc kk y) st4 else .bad
            | _ => .bad)
          | none => .bad)
        | _ => .bad)
      | .ok false st2 => dcL chk g tt tk tv env xs acc st2
      | _ => .bad)
    | _ => .bad) else .bad
def dDcT (it : DI) (g : DG) (tt : DB) (tk tv : DE) (vs : List Nat) : DE := fun env st => (it env st).bind fun its st1 => (dcL its.2 g tt tk tv (dWipe env vs) its.1 [] st1).bind fun acc st2 => alloc (.dT acc) st2
section
variable {X : Cx} {G : Ctx} {W : WX}
theorem dt_pl {kvs : List (List Key × V)} : (∀ xs, HO.dT kvs ≠ .tup xs) ∧ (∀ fs, HO.dT kvs ≠ .xd fs) ∧ ∀ o w, HO.dT kvs ≠ .frz o w := ⟨fun _ z => (by cases z), fun _ z => (by cases z), fun _ _ z => (by cases z)⟩
theorem dcT_fit {its : List D × (Store → Bool)} {g : DG} {ws vs : List Nat} {tt : DB} {tk tv : DE} {J : It} {ι1 : List Addr} {st1 : Store} {H1 : Hp} {env : Env} {σ : L2.St} {Q : VK} {Dn : Addr} (hws : ∀ i ∈ ws, i ∈ vs)
    (wk : Walks G ι1 H1 its J) (rp1 : Rep G ι1 st1 H1) (re : REnv G ι1 H1 env σ) (hD : H1 Dn = none)
    (q : okR G W ι1 H1 σ (RV G) Q ((dcL its.2 g tt tk tv (dWipe env vs) its.1 [] st1).bind fun acc st2 => alloc (.dT acc) st2)) :
    ∃ Wv : Nat → Nat → Hp → Prop, (∃ m, Wv 0 m (upd H1 Dn (.dT []))) ∧ ∀ i m H, Wv i m H →
      (J.stop i H ∧ Q (.ref Dn) H) ∨ (J.go i H ∧ ∃ Nx : Hp → Prop, (∀ H', Nx H' → ∃ m', m' < m ∧ Wv (i + 1) m' H') ∧ ∀ x H', J.yld i H x H' → sG G ws g x (L2.wipe σ vs) H' fun σ2 H2 => L2.wipe σ2 vs = L2.wipe σ vs ∧ sT G W0 tt σ2 H2 fun b H3 =>
        if b = true then sE G W0 tk σ2 H3 fun y H4 => sE G W0 tv σ2 H4 fun z H5 => ∃ kvs k bb, y = .ref bb ∧ H5 bb = some (.tup (k.map kV)) ∧ H5 Dn = some (.dT kvs) ∧ kvs.length < sizeLine ∧ Nx (upd H5 Dn (.dT (putK kvs k z))) else Nx H3) := by
  refine ⟨fun i m H => ∃ ι' st' acc accV, Ext ι1 ι' H1 H ∧ Rep G ι' st' H ∧ Dn ∉ ι' ∧ H Dn = some (.dT accV) ∧ RKV G ι' H acc accV ∧ m = its.1.length - i ∧ i ≤ its.1.length ∧
      okR G W ι1 H1 σ (RV G) Q ((dcL its.2 g tt tk tv (dWipe env vs) (its.1.drop i) acc st').bind fun acc st2 => alloc (.dT acc) st2),
    ⟨its.1.length, ι1, st1, [], [], Ext.fresh hD, rp1.fresh hD, rp1.free hD, upd_same, .nil, by simp, Nat.zero_le _, by simpa using q⟩, ?_⟩
  rintro i m H ⟨ι', st', acc, accV, e', rp', hDn, hDv, ra, rfl, hi, q'⟩
  by_cases hlt : i < its.1.length
  · right
    rw [List.drop_eq_getElem_cons hlt] at q'
    unfold dcL at q'
    split at q'
    · rename_i hck
      obtain ⟨hgo, hy⟩ := wk.goes i its.1[i] ι' st' H e' rp' hck (by simp [hlt])
      refine ⟨hgo, fun H => ∃ ι' st' acc accV, Ext ι1 ι' H1 H ∧ Rep G ι' st' H ∧ Dn ∉ ι' ∧ H Dn = some (.dT accV) ∧ RKV G ι' H acc accV ∧ 
        okR G W ι1 H1 σ (RV G) Q ((dcL its.2 g tt tk tv (dWipe env vs) (its.1.drop (i + 1)) acc st').bind fun acc st2 => alloc (.dT acc) st2), ?_, ?_⟩
      · rintro H2 ⟨ι2, st2, acc2, accV2, e2, rp2, hd2, hv2, ra2, q2⟩
        exact ⟨its.1.length - (i + 1), by omega, ι2, st2, acc2, accV2, e2, rp2, hd2, hv2, ra2, rfl, hlt, q2⟩
      · intro v H2 hv
        obtain ⟨e2, rp2, rv⟩ := hy v H2 hv
        obtain ⟨hd2, hv2⟩ := e2.stay hDn hDv
        refine ⟨ι', st', dWipe env vs, its.1[i], rp2, (((re.mono e').mono e2).wipe vs), rv, ?_⟩
        cases hgv : g its.1[i] (dWipe env vs) st' with
        | ok env3 st3 =>
          rw [hgv] at q'
          dsimp only at q'
          intro ι3 H3 σ3 e3 rp3 re3 hl3 ha3
          obtain ⟨hd3, hv3⟩ := e3.stay hd2 hv2
          refine ⟨(wipe_agree hl3 fun j hj => ha3 j fun z => hj (hws j z)).trans wipe_wipe, ι3, st3, env3, rp3, re3, ?_⟩
          cases htt : tt env3 st3 with
          | ok b st4 =>
            rw [htt] at q'
            intro ι4 H4 b' e4 rp4 rb
            obtain rfl : b = b' := rb
            obtain ⟨hd4, hv4⟩ := e4.stay hd3 hv3
            cases b with
            | false =>
              dsimp only at q'
              exact iteF ⟨ι4, st4, acc, accV, ((e'.trans e2).trans e3).trans e4, rp4, hd4, hv4, (ra.mono ((e2.trans e3).trans e4)), q'⟩
            | true =>
              dsimp only at q'
              refine iteT ⟨ι4, st4, env3, rp4, re3.mono e4, ?_⟩
              split at q'
              · rename_i ks st5 hk
                rw [hk]
                intro ι5 H5 yv e5 rp5 ry
                obtain ⟨hd5, hv5⟩ := e5.stay hd4 hv4
                cases ry with
                | @tup bb _ vs5 hbb hvs5 =>
                split at q'
                · rename_i kk hkk
                  have ekk := keys_ok hvs5 hkk
                  subst ekk
                  refine ⟨ι5, st5, env3, rp5, (re3.mono e4).mono e5, ?_⟩
                  split at q'
                  · rename_i y st6 hv
                    rw [hv]
                    intro ι6 H6 zv e6 rp6 rz
                    obtain ⟨hd6, hv6⟩ := e6.stay hd5 hv5
                    split at q'
                    · rename_i hsz
                      have eall := ((((e'.trans e2).trans e3).trans e4).trans e5).trans e6
                      have ra6 := ra.mono ((((e2.trans e3).trans e4).trans e5).trans e6)
                      have pk : Imm ι6 ι6 H6 (upd H6 Dn (.dT (putK accV kk zv))) := Imm.poke (xs := []) hv6 dt_pl
                      exact ⟨accV, kk, bb, rfl, e6.tup _ _ hbb, hv6, by rw [← ra6.length]; exact hsz, ι6, st6, putD acc kk y, putK accV kk zv, eall.poke hD, rp6.poke hd6 hv6 dt_pl, hd6, upd_same, (ra6.put kk rz).monoI pk, q'⟩
                    · exact q'.elim
                  · exact q'.elim
                · exact q'.elim
              · exact q'.elim
          | exc x st4 => rw [htt] at q'; exact q'.elim
          | bad => rw [htt] at q'; exact q'.elim
        | exc x st3 => rw [hgv] at q'; exact q'.elim
        | bad => rw [hgv] at q'; exact q'.elim
    · exact q'.elim
  · left
    have hi2 : i = its.1.length := by omega
    subst hi2
    rw [List.drop_length] at q'
    unfold dcL at q'
    split at q'
    · rename_i hck
      refine ⟨wk.stops ι' st' H e' rp' hck, ?_⟩
      have z := (rp'.adopt (c := .dT acc) hDn ⟨accV, hDv, ra.monoI ⟨fun n a h => by rw [List.getElem?_append_left (List.getElem?_eq_some_iff.mp h).1, h], fun _ _ h => h, fun _ _ h => h, fun _ _ _ h => h⟩⟩)
      exact q' (ι' ++ [Dn]) H (.ref Dn) (e'.adopt hD) z (.ref (by rw [← rp'.len]; simp))
    · exact q'.elim
theorem r_dcT {pos : Pos} {kx vx tg iter : Expr} {ifs : List Expr} {scope : Scope} {own : List (Str × Nat)} {it : DI} {g : DG} {ws : List Nat} {tt : DB} {tk tv : DE} (hun : X.A.units < cLine) (hws : ∀ i ∈ ws, i ∈ own.map (·.2)) (hc : X.calm = true) (hN : X.N.Nodup) (hi : PI X tg iter (sI G W it)) (ok : BlkOk X.N X.env.scope scope own)
    (hg : ∀ (s : Shared) (H : Hp) (C : Addr) (cl : List (Str × Addr)) (fp : List Addr), PG (X.blk s H scope (compEnvC scope cl C X.env) fp) tg (sG G ws g)) (ht : ∀ (s : Shared) (H : Hp) (C : Addr) (cl : List (Str × Addr)) (fp : List Addr), PTs (X.blk s H scope (compEnvC scope cl C X.env) fp) ifs (sT G W0 tt))
    (hk : ∀ (s : Shared) (H : Hp) (C : Addr) (cl : List (Str × Addr)) (fp : List Addr), PE (X.blk s H scope (compEnvC scope cl C X.env) fp) kx (sE G W0 tk))
    (he : ∀ (s : Shared) (H : Hp) (C : Addr) (cl : List (Str × Addr)) (fp : List Addr), PE (X.blk s H scope (compEnvC scope cl C X.env) fp) vx (sE G W0 tv)) (hs : ∀ x, foldedSetIterable iter X.env x = pure x := by intro _; rfl) :
    PE X (.DictComp kx vx [⟨tg, iter, ifs, 0⟩] scope pos) (sE G W (dDcT it g tt tk tv (own.map (·.2)))) := (pe_dcT hun hc hN hi ok hg ht hk he hs).imp fun σ H Q h => by
  obtain ⟨ι, st, env, rp, re, q⟩ := h
  exact ⟨ι, st, env, rp, re, okR.bind q fun its st1 ι1 H1 J e1 rp1 wk q1 Dn hD => dcT_fit hws wk rp1 (re.mono e1) hD q1⟩
end
end Dn
set_option Elab.async false
set_option linter.all false
set_option maxRecDepth 100000
set_option maxHeartbeats 1000000
/-! Dn8: dict.update, keys tuples -/
namespace Dn
open PySem PySem.Spec PyProof.Rows L2
def pairHash (i j : Int) : Int := reduceHash (Builtin.Tuple.tupleHashOf [hashInt i, hashInt j])
theorem hash_pair {P : Program} {w : World} (i j : Int) : (tupleKind (mixKind P w)).hash [.inl i, .inl j] = pairHash i j := rfl
def smallKey : List Key → Bool
  | [.inl i, .inl j] => decide (0 ≤ i) && decide (i < 9) && decide (0 ≤ j) && decide (j < 32)
  | _ => false
def allPairs : List Int := (List.range 288).map fun n => pairHash (n / 32 : Nat) (n % 32 : Nat)
theorem allPairs_nd : allPairs.Nodup := by decide +kernel
theorem pairHash_inj {i j i' j' : Int} (h1 : 0 ≤ i) (h2 : i < 9) (h3 : 0 ≤ j) (h4 : j < 32) (h1' : 0 ≤ i') (h2' : i' < 9) (h3' : 0 ≤ j') (h4' : j' < 32) (e : pairHash i j = pairHash i' j') : i = i' ∧ j = j' := by
  obtain ⟨a, rfl⟩ := Int.eq_ofNat_of_zero_le h1
  obtain ⟨b, rfl⟩ := Int.eq_ofNat_of_zero_le h3
  obtain ⟨a', rfl⟩ := Int.eq_ofNat_of_zero_le h1'
  obtain ⟨b', rfl⟩ := Int.eq_ofNat_of_zero_le h3'
  have hg : ∀ a b : Nat, a < 9 → b < 32 → allPairs[32 * a + b]? = some (pairHash (a : Nat) (b : Nat)) := fun a b ha hb => by
    unfold allPairs
    rw [List.getElem?_map, List.getElem?_range (by omega)]
    have e1 : (32 * a + b) / 32 = a := by omega
    have e2 : (32 * a + b) % 32 = b := by omega
    simp only [Option.map_some]
    rw [e1, e2]
  have g1 := hg a b (by omega) (by omega)
  have g2 := hg a' b' (by omega) (by omega)
  have e' : pairHash (a : Nat) (b : Nat) = pairHash (a' : Nat) (b' : Nat) := e
  rw [e'] at g1
  have hl : allPairs.length = 288 := by unfold allPairs; simp
  have := (List.getElem?_inj (by rw [hl]; omega) allPairs_nd).mp (g1.trans g2.symm)
  constructor <;> omega
theorem smallKey_inj {P : Program} {w : World} {k k' : List Key} (h : smallKey k = true) (h' : smallKey k' = true) (e : (tupleKind (mixKind P w)).hash k = (tupleKind (mixKind P w)).hash k') : k = k' := by
  unfold smallKey at h h'
  split at h
  · split at h'
    · rename_i i j i' j'
      simp only [Bool.and_eq_true, decide_eq_true_eq] at h h'
      obtain ⟨e1, e2⟩ := pairHash_inj h.1.1.1 h.1.1.2 h.1.2 h.2 h'.1.1.1 h'.1.1.2 h'.1.2 h'.2 e
      rw [e1, e2]
    · cases h'
  · cases h
def mergeT {α : Type} (kvs more : List (List Key × α)) (put : List (List Key × α) → List Key → α → List (List Key × α)) : List (List Key × α) := more.foldl (fun acc kv => put acc kv.1 kv.2) kvs
theorem KT.all {H : Hp} : ∀ {more : List (List Key × V)} {ys : List (List Key × Addr × Value)} {kvs : List (List Key × V)} {xs : List (List Key × Addr × Value)}, KT H more ys → KT H kvs xs → KT H (mergeT kvs more putK) (storedAllH xs ys)
  | [], _, _, _, .nil, h => h
  | (k, v) :: more, _, kvs, xs, .cons (b := (k', b, u)) ⟨e1, e2, e3⟩ t, h => by
    have e1 : k = k' := e1
    subst e1
    have z := KT.all t (h.put k e2 e3)
    exact z
theorem length_mergeT (more kvs : List (List Key × V)) : (mergeT kvs more putK).length ≤ kvs.length + more.length := by
  induction more generalizing kvs with
  | nil => exact Nat.le_refl _
  | cons p more ih =>
    have h1 := ih (putK kvs p.1 p.2)
    have h2 := length_putK kvs p.1 p.2
    show (mergeT (putK kvs p.1 p.2) more putK).length ≤ kvs.length + (more.length + 1)
    omega
def rUpdT : V → List V → Hp → VK → Prop := fun x xs H Q => ∃ (a b : Addr) (kvs more : List (List Key × V)), x = .ref a ∧ xs = [.ref b] ∧ a ≠ b ∧ H a = some (.dT kvs) ∧ H b = some (.dT more) ∧ (kvs ≠ [] ∨ ∀ kv ∈ more, smallKey kv.1 = true) ∧ kvs.length + more.length ≤ sizeLine ∧ Q .non (upd H a (.dT (mergeT kvs more putK)))
theorem mt_updT {X : Cx} (hu : X.A.units + 1 < cLine) : MtR X "dict.update" rUpdT := by
  intro pins s σ H x xs v us Q I rx rxs h
  obtain ⟨a, b, kvs, more, rfl, rfl, hab, ha, hb, hap, hz, q⟩ := h
  cases rx
  obtain ⟨u, rfl, ru⟩ := vals1 rxs
  cases ru
  obtain ⟨z1, hd1, xs, rel, dd⟩ := dt_of I.hok ha
  obtain ⟨z2, hd2, ys, rel2, dd2⟩ := dt_of I.hok hb
  have l1 := Paired.length rel
  have l2 := Paired.length rel2
  have hap' : xs ≠ [] ∨ ((∀ x ∈ ys, s.TypeIs (.ref x.2.1) "tuple") ∧ (ys.map fun x => (tupleKind (mixKind X.prog X.w)).hash x.1).Nodup) := by
    rcases hap with q | q
    · left
      intro e
      rw [e] at l1
      exact q (List.length_eq_zero_iff.mp (by simpa using l1))
    · right
      refine ⟨keyed_apart tupleKind_stays dd2, ?_⟩
      obtain ⟨_, _, _, _, _, _, _, _, nd⟩ := dd2
      have hs : ∀ y ∈ ys, smallKey y.1 = true := by
        have gen : ∀ {l : List (List Key × V)} {m : List (List Key × Addr × Value)}, KT H l m → (∀ kv ∈ l, smallKey kv.1 = true) → ∀ y ∈ m, smallKey y.1 = true := by
          intro l m r
          induction r with
          | nil => intro _ y hy; exact nomatch hy
          | @cons p q ps qs hq t ih =>
            intro hall y hy
            rcases List.mem_cons.mp hy with e | hy
            · subst e
              rw [← hq.1]
              exact hall p (List.mem_cons_self ..)
            · exact ih (fun kv hkv => hall kv (List.mem_cons_of_mem _ hkv)) y hy
        exact gen rel2 q
      have e : (ys.map fun x => (tupleKind (mixKind X.prog X.w)).hash x.1) = (ys.map (·.1)).map (tupleKind (mixKind X.prog X.w)).hash := by rw [List.map_map]; rfl
      rw [e]
      have nd' : List.Pairwise (fun a b => a ≠ b) (ys.map (·.1)) := nd
      show List.Pairwise (fun a b => a ≠ b) _
      refine List.pairwise_map.mpr (nd'.imp_of_mem fun {a b} ha hb hne e => hne ?_)
      obtain ⟨ya, hya, rfl⟩ := List.mem_map.mp ha
      obtain ⟨yb, hyb, rfl⟩ := List.mem_map.mp hb
      exact smallKey_inj (hs ya hya) (hs yb hyb) e
  refine call_update_dictH (knd := tupleKind (mixKind X.prog X.w)) (tupleKind_room_in1 hu) hab hd2 dd dd2 hap' (by rw [← l1, ← l2]; exact hz) fun h' dd' _ hs => ?_
  obtain ⟨o, es, ep, hq, h2, h3, h4, _, h5⟩ := dd'
  have I2 : Inv X pins σ (upd H a (.dT (mergeT kvs more putK))) { s with heap := h' } :=
    d_write (t' := s.toks) I (by rw [ha]; exact True.intro) hs ⟨o, hq⟩ ⟨Nat.le_trans (length_mergeT more kvs) hz, hd1, _, (KT.all rel2 rel).keeps (fun c ys ec => (by rw [upd_ne (ne_of ec ha (fun z => nomatch z))]; exact ec)), o, es, ep, hq, h2, h3, h4, h5⟩
  exact ⟨.non, _, I2, rfl, q⟩
def mUpdT (o : D) (xs : List D) (st : Store) : R D := match o, xs with
  | .ref n, [.ref m] => (match st[n]?, st[m]? with
    | some (.dT kvs), some (.dT more) => if n ≠ m ∧ (kvs ≠ [] ∨ more.all (fun kv => smallKey kv.1) = true) ∧ kvs.length + more.length ≤ sizeLine then .ok .non (st.set n (.dT (mergeT kvs more putD))) else .bad
    | _, _ => .bad)
  | _, _ => .bad
theorem RKV.all {G : Ctx} {ι : List Addr} {H : Hp} : ∀ {more : List (List Key × D)} {ms : List (List Key × V)} {kvs : List (List Key × D)} {ws : List (List Key × V)}, RKV G ι H more ms → RKV G ι H kvs ws → RKV G ι H (mergeT kvs more putD) (mergeT ws ms putK)
  | [], _, _, _, .nil, h => h
  | (k, v) :: more, _, kvs, xs, .cons r t, h => by
    have z := RKV.all t (h.put k r)
    exact z
theorem f_updT {G : Ctx} : FitsM G rUpdT mUpdT := by
  intro W ι st H σ o ov xs vs Q rp ro rx q
  unfold mUpdT at q
  split at q
  · cases ro with
    | @ref n a hn =>
    cases rx with
    | cons r1 r2 =>
    cases r2
    cases r1 with
    | @ref m b hm =>
    split at q
    · rename_i kvs more e0 e1
      obtain ⟨ws, ha, hw⟩ := rp.cell _ _ a e0 hn
      obtain ⟨ms, hb, hu⟩ := rp.cell _ _ b e1 hm
      split at q
      · rename_i h
        obtain ⟨h1, h2, h3⟩ := h
        refine ⟨a, b, ws, ms, rfl, rfl, fun z => ?_, ha, hb, ?_, by rw [← hw.length, ← hu.length]; exact h3, q ι _ _ (Ext.write hn ha rfl) (rp.write hn ha rfl ⟨_, upd_same, (hu.all hw).mono (Ext.write hn ha rfl)⟩) .non⟩
        · subst z
          exact h1 (nd_ix rp.nd hn hm)
        · rcases h2 with h2 | h2
          · left
            intro e
            have := hw.length
            rw [e] at this
            exact h2 (List.length_eq_zero_iff.mp (by simpa using this))
          · right
            intro kv hkv
            have gen : ∀ {l : List (List Key × D)} {m : List (List Key × V)}, RKV G ι H l m → (l.all fun kv => smallKey kv.1) = true → ∀ y ∈ m, smallKey y.1 = true := by
              intro l m r
              induction r with
              | nil => intro _ y hy; exact nomatch hy
              | cons hq t ih =>
                intro hall y hy
                rw [List.all_cons, Bool.and_eq_true] at hall
                rcases List.mem_cons.mp hy with e | hy
                · subst e
                  exact hall.1
                · exact ih hall.2 y hy
            exact gen hu h2 kv hkv
      · exact q.elim
    · exact q.elim
  · exact q.elim
end Dn
set_option Elab.async false
set_option linter.all false
set_option maxRecDepth 100000
set_option maxHeartbeats 1000000
/-! Dn9: comprehensions of two clauses; list(range), list(zip), repr -/
namespace Dn
open PySem PySem.Spec PyProof.Rows L2
def R.must {α β : Type} (m : R α) (f : α → Store → R β) : R β := match m with
  | .ok a st => f a st
  | _ => .bad
@[simp] theorem R.must_ok {α β : Type} (a : α) (st : Store) (f : α → Store → R β) : (R.ok a st).must f = f a st := rfl
@[simp] theorem R.must_bad {α β : Type} (f : α → Store → R β) : (R.bad : R α).must f = .bad := rfl
@[simp] theorem R.must_exc {α β : Type} (x : Xc) (st : Store) (f : α → Store → R β) : (R.exc x st : R α).must f = .bad := rfl
/-- y is put behind the list in cell n -/
def push1 (n : Nat) (y : D) (st : Store) : R Unit := match st[n]? with
  | some (.lst acc) => if acc.length < sizeLine then .ok () (st.set n (.lst (acc ++ [y]))) else .bad
  | _ => .bad
def lcN (n : Nat) (chk : Store → Bool) (g : DG) (tt : DB) (te : DE) (env : Env) : List D → Store → R Unit
  | [], st => if chk st then .ok () st else .bad
  | x :: xs, st => if chk st then (g x env st).must fun env1 st1 => (tt env1 st1).must fun b st2 => if b then (te env1 st2).must fun y st3 => (push1 n y st3).must fun _ st4 => lcN n chk g tt te env xs st4 else lcN n chk g tt te env xs st2 else .bad
def lc2N (n : Nat) (chk : Store → Bool) (g : DG) (tt : DB) (it1 : DI) (g1 : DG) (tt1 : DB) (te : DE) (vs1 : List Nat) (env : Env) : List D → Store → R Unit
  | [], st => if chk st then .ok () st else .bad
  | x :: xs, st => if chk st then (g x env st).must fun env1 st1 => (tt env1 st1).must fun b st2 => if b then (it1 env1 st2).must fun its1 st3 => (lcN n its1.2 g1 tt1 te (dWipe env1 vs1) its1.1 st3).must fun _ st4 => lc2N n chk g tt it1 g1 tt1 te vs1 env xs st4 else lc2N n chk g tt it1 g1 tt1 te vs1 env xs st2 else .bad
def dLc2 (it : DI) (g : DG) (tt : DB) (it1 : DI) (g1 : DG) (tt1 : DB) (te : DE) (vs vs1 : List Nat) : DE := fun env st => (it env st).bind fun its st1 => (lc2N st1.length its.2 g tt it1 g1 tt1 te vs1 (dWipe env vs) its.1 (st1 ++ [.lst []])).bind fun _ st2 => .ok (.ref st1.length) st2
theorem R.must_cases {α β γ : Type} {r : R α} {f : α → Store → R β} {k : β → Store → R γ} {G : Ctx} {W : WX} {ι : List Addr} {H : Hp} {σ : L2.St} {Q : VK} {h : β → Store → R D} (q : okR G W ι H σ (RV G) Q ((r.must f).bind h)) : ∃ a st, r = .ok a st ∧ okR G W ι H σ (RV G) Q ((f a st).bind h) := by
  cases r with
  | ok a st => exact ⟨a, st, rfl, q⟩
  | exc x st => exact q.elim
  | bad => exact q.elim
section
variable {X : Cx} {G : Ctx} {W : WX}
theorem lc2_fit {its : List D × (Store → Bool)} {g g1 : DG} {ws vs ws1 vs1 : List Nat} {tt tt1 : DB} {te : DE} {it1 : DI} {J : It} {ι1 : List Addr} {st1 : Store} {H1 : Hp} {env : Env} {σ : L2.St} {Q : VK} {Dn : Addr} (hws : ∀ i ∈ ws, i ∈ vs) (hws1 : ∀ i ∈ ws1, i ∈ vs1)
    (wk : Walks G ι1 H1 its J) (rp1 : Rep G ι1 st1 H1) (re : REnv G ι1 H1 env σ) (hD : H1 Dn = none)
    (q : okR G W ι1 H1 σ (RV G) Q ((lc2N st1.length its.2 g tt it1 g1 tt1 te vs1 (dWipe env vs) its.1 (st1 ++ [.lst []])).bind fun _ st2 => .ok (.ref st1.length) st2)) :
    ∃ Wv : Nat → Nat → Hp → Prop, (∃ m, Wv 0 m (upd H1 Dn (.lst []))) ∧ ∀ i m H, Wv i m H →
      (J.stop i H ∧ Q (.ref Dn) H) ∨ (J.go i H ∧ ∃ Nx : Hp → Prop, (∀ H', Nx H' → ∃ m', m' < m ∧ Wv (i + 1) m' H') ∧ ∀ x H', J.yld i H x H' → sG G ws g x (L2.wipe σ vs) H' fun σ2 H2 => L2.wipe σ2 vs = L2.wipe σ vs ∧ sT G W0 tt σ2 H2 fun b H3 =>
        if b = true then sI G W0 it1 σ2 H3 fun J1 H4 => ∃ W1 : Nat → Nat → Hp → Prop, (∃ m, W1 0 m H4) ∧ ∀ j k H, W1 j k H →
          (J1.stop j H ∧ Nx H) ∨ (J1.go j H ∧ ∃ Nx1 : Hp → Prop, (∀ H', Nx1 H' → ∃ k', k' < k ∧ W1 (j + 1) k' H') ∧ ∀ x H', J1.yld j H x H' → sG G ws1 g1 x (L2.wipe σ2 vs1) H' fun σ3 H5 => L2.wipe σ3 vs1 = L2.wipe σ2 vs1 ∧ sT G W0 tt1 σ3 H5 fun b H6 =>
            if b = true then sE G W0 te σ3 H6 fun y H7 => ∃ acc, H7 Dn = some (.lst acc) ∧ acc.length < sizeLine ∧ Nx1 (upd H7 Dn (.lst (acc ++ [y]))) else Nx1 H6)
        else Nx H3) := by
  obtain ⟨n, hn⟩ : ∃ n, n = st1.length := ⟨_, rfl⟩
  rw [← hn] at q
  let Nxt (r : List D) (H : Hp) : Prop := ∃ ι' st', Ext ι1 ι' H1 H ∧ Rep G ι' st' H ∧ ι'[n]? = some Dn ∧
        okR G W ι1 H1 σ (RV G) Q ((lc2N n its.2 g tt it1 g1 tt1 te vs1 (dWipe env vs) r st').bind fun _ st2 => .ok (.ref n) st2)
  refine ⟨fun i m H => Nxt (its.1.drop i) H ∧ m = its.1.length - i ∧ i ≤ its.1.length,
    ⟨its.1.length, ⟨ι1 ++ [Dn], st1 ++ [.lst []], Ext.push hD, rp1.alloc (c := .lst []) hD ⟨[], upd_same, .nil⟩, by rw [hn, ← rp1.len]; simp, by simpa using q⟩, by simp, Nat.zero_le _⟩, ?_⟩
  rintro i m H ⟨⟨ι', st', e', rp', hDn, q'⟩, rfl, hi⟩
  by_cases hlt : i < its.1.length
  · right
    rw [List.drop_eq_getElem_cons hlt] at q'
    unfold lc2N at q'
    split at q'
    · rename_i hck
      obtain ⟨hgo, hy⟩ := wk.goes i its.1[i] ι' st' H e' rp' hck (by simp [hlt])
      refine ⟨hgo, Nxt (its.1.drop (i + 1)), fun H2 n2 => ⟨its.1.length - (i + 1), by omega, n2, rfl, hlt⟩, ?_⟩
      intro v H2 hv
      obtain ⟨e2, rp2, rv⟩ := hy v H2 hv
      refine ⟨ι', st', dWipe env vs, its.1[i], rp2, (((re.mono e').mono e2).wipe vs), rv, ?_⟩
      obtain ⟨env3, st3, hgv, q'⟩ := R.must_cases (k := fun (_ : Unit) st => R.ok D.non st) q'
      rw [hgv]
      intro ι3 H3 σ3 e3 rp3 re3 hl3 ha3
      refine ⟨(wipe_agree hl3 fun j hj => ha3 j fun z => hj (hws j z)).trans wipe_wipe, ι3, st3, env3, rp3, re3, ?_⟩
      obtain ⟨b, st4, htt, q'⟩ := R.must_cases (k := fun (_ : Unit) st => R.ok D.non st) q'
      rw [htt]
      intro ι4 H4 b' e4 rp4 rb
      obtain rfl : b = b' := rb
      cases b with
      | false =>
        rw [if_neg Bool.false_ne_true] at q'
        exact iteF ⟨ι4, st4, ((e'.trans e2).trans e3).trans e4, rp4, (e3.trans e4).ix hDn, q'⟩
      | true =>
        rw [if_pos rfl] at q'
        refine iteT ⟨ι4, st4, env3, rp4, re3.mono e4, ?_⟩
        obtain ⟨its1, st5, hit, q'⟩ := R.must_cases (k := fun (_ : Unit) st => R.ok D.non st) q'
        rw [hit]
        intro ι5 H5 J1 e5 rp5 wk1
        have e15 := (((e'.trans e2).trans e3).trans e4).trans e5
        have re5 := (re3.mono e4).mono e5
        let Nx1 (r : List D) (H : Hp) : Prop := ∃ ι' st', Ext ι5 ι' H5 H ∧ Rep G ι' st' H ∧ ι'[n]? = some Dn ∧
          okR G W ι1 H1 σ (RV G) Q (((lcN n its1.2 g1 tt1 te (dWipe env3 vs1) r st').must fun _ st4 => lc2N n its.2 g tt it1 g1 tt1 te vs1 (dWipe env vs) (its.1.drop (i + 1)) st4).bind fun _ st2 => .ok (.ref n) st2)
        refine ⟨fun j k H => Nx1 (its1.1.drop j) H ∧ k = its1.1.length - j ∧ j ≤ its1.1.length,
          ⟨its1.1.length, ⟨ι5, st5, Ext.refl _ _, rp5, ((e3.trans e4).trans e5).ix hDn, by simpa using q'⟩, by simp, Nat.zero_le _⟩, ?_⟩
        rintro j k H6 ⟨⟨ι6, st6, e56, rp6, hD6, q6⟩, rfl, hj⟩
        have kk : ∀ {α : Type} {r : R α} {f : α → Store → R Unit}, okR G W ι1 H1 σ (RV G) Q (((r.must f).must fun _ st4 => lc2N n its.2 g tt it1 g1 tt1 te vs1 (dWipe env vs) (its.1.drop (i + 1)) st4).bind fun _ st2 => .ok (.ref n) st2) →
            ∃ a st, r = .ok a st ∧ okR G W ι1 H1 σ (RV G) Q (((f a st).must fun _ st4 => lc2N n its.2 g tt it1 g1 tt1 te vs1 (dWipe env vs) (its.1.drop (i + 1)) st4).bind fun _ st2 => .ok (.ref n) st2) := fun {α r f} q => by
          cases r with
          | ok a st => exact ⟨a, st, rfl, q⟩
          | exc x st => exact q.elim
          | bad => exact q.elim
        by_cases hlt1 : j < its1.1.length
        · right
          rw [List.drop_eq_getElem_cons hlt1] at q6
          by_cases hck1 : its1.2 st6 = true
          · rw [lcN, if_pos hck1] at q6
            obtain ⟨hgo1, hy1⟩ := wk1.goes j its1.1[j] ι6 st6 H6 e56 rp6 hck1 (by simp [hlt1])
            refine ⟨hgo1, Nx1 (its1.1.drop (j + 1)), fun H7 n7 => ⟨its1.1.length - (j + 1), by omega, n7, rfl, hlt1⟩, ?_⟩
            intro v7 H7 hv7
            obtain ⟨e7, rp7, rv7⟩ := hy1 v7 H7 hv7
            refine ⟨ι6, st6, dWipe env3 vs1, its1.1[j], rp7, ((re5.mono e56).mono e7).wipe vs1, rv7, ?_⟩
            obtain ⟨env8, st8, hgv1, q6⟩ := kk q6
            rw [hgv1]
            intro ι8 H8 σ8 e8 rp8 re8 hl8 ha8
            refine ⟨(wipe_agree hl8 fun l hl => ha8 l fun z => hl (hws1 l z)).trans wipe_wipe, ι8, st8, env8, rp8, re8, ?_⟩
            obtain ⟨b9, st9, htt1, q6⟩ := kk q6
            rw [htt1]
            intro ι9 H9 b9' e9 rp9 rb9
            obtain rfl : b9 = b9' := rb9
            have e59 := ((e56.trans e7).trans e8).trans e9
            cases b9 with
            | false =>
              rw [if_neg Bool.false_ne_true] at q6
              exact iteF ⟨ι9, st9, e59, rp9, (e8.trans e9).ix hD6, q6⟩
            | true =>
              rw [if_pos rfl] at q6
              refine iteT ⟨ι9, st9, env8, rp9, re8.mono e9, ?_⟩
              obtain ⟨y, st10, hte, q6⟩ := kk q6
              rw [hte]
              intro ι10 H10 yv e10 rp10 ry
              obtain ⟨u, st11, hp, q6⟩ := kk q6
              unfold push1 at hp
              have hD10 : ι10[n]? = some Dn := ((e8.trans e9).trans e10).ix hD6
              split at hp
              · rename_i acc e0
                split at hp
                · rename_i hsz
                  cases hp
                  obtain ⟨ws, ha, hw⟩ := rp10.cell n _ Dn e0 hD10
                  refine ⟨ws, ha, by rw [← hw.length]; exact hsz, ι10, _, (e59.trans e10).trans (Ext.write hD10 ha rfl), rp10.write (c := .lst (acc ++ [y])) hD10 ha rfl ⟨_, upd_same, (hw.append (.cons ry .nil)).mono (Ext.write hD10 ha rfl)⟩, hD10, q6⟩
                · cases hp
              · cases hp
          · rw [lcN, if_neg hck1] at q6
            exact q6.elim
        · left
          have hj2 : j = its1.1.length := by omega
          subst hj2
          rw [List.drop_length] at q6
          by_cases hck1 : its1.2 st6 = true
          · rw [lcN, if_pos hck1] at q6
            exact ⟨wk1.stops ι6 st6 H6 e56 rp6 hck1, ι6, st6, e15.trans e56, rp6, hD6, q6⟩
          · rw [lcN, if_neg hck1] at q6
            exact q6.elim
    · exact q'.elim
  · left
    have hi2 : i = its.1.length := by omega
    subst hi2
    rw [List.drop_length] at q'
    unfold lc2N at q'
    split at q'
    · rename_i hck
      exact ⟨wk.stops ι' st' H e' rp' hck, q' ι' H (.ref Dn) e' rp' (.ref hDn)⟩
    · exact q'.elim
theorem r_lc2 {pos : Pos} {elt tg iter tg1 iter1 : Expr} {ifs ifs1 : List Expr} {scope : Scope} {own : List (Str × Nat)} {vs1 : List Nat} {it it1 : DI} {g g1 : DG} {ws ws1 : List Nat} {tt tt1 : DB} {te : DE} (hws : ∀ i ∈ ws, i ∈ own.map (·.2)) (hws1 : ∀ i ∈ ws1, i ∈ vs1) (hc : X.calm = true) (hN : X.N.Nodup) (hi : PI X tg iter (sI G W it)) (ok : BlkOk X.N X.env.scope scope own) (hv : ∀ i ∈ vs1, i ∈ own.map (·.2))
    (hg : ∀ (s : Shared) (H : Hp) (C : Addr) (cl : List (Str × Addr)) (fp : List Addr), PG (X.blk s H scope (compEnvC scope cl C X.env) fp) tg (sG G ws g)) (ht : ∀ (s : Shared) (H : Hp) (C : Addr) (cl : List (Str × Addr)) (fp : List Addr), PTs (X.blk s H scope (compEnvC scope cl C X.env) fp) ifs (sT G W0 tt))
    (hi1 : ∀ (s : Shared) (H : Hp) (C : Addr) (cl : List (Str × Addr)) (fp : List Addr), PI (X.blk s H scope (compEnvC scope cl C X.env) fp) tg1 iter1 (sI G W0 it1))
    (hg1 : ∀ (s : Shared) (H : Hp) (C : Addr) (cl : List (Str × Addr)) (fp : List Addr), PG (X.blk s H scope (compEnvC scope cl C X.env) fp) tg1 (sG G ws1 g1)) (ht1 : ∀ (s : Shared) (H : Hp) (C : Addr) (cl : List (Str × Addr)) (fp : List Addr), PTs (X.blk s H scope (compEnvC scope cl C X.env) fp) ifs1 (sT G W0 tt1))
    (he : ∀ (s : Shared) (H : Hp) (C : Addr) (cl : List (Str × Addr)) (fp : List Addr), PE (X.blk s H scope (compEnvC scope cl C X.env) fp) elt (sE G W0 te)) (hs : ∀ x, foldedSetIterable iter X.env x = pure x := by intro _; rfl) (hs1 : ∀ env x, foldedSetIterable iter1 env x = pure x := by intro _ _; rfl) :
    PE X (.ListComp elt [⟨tg, iter, ifs, 0⟩, ⟨tg1, iter1, ifs1, 0⟩] scope pos) (sE G W (dLc2 it g tt it1 g1 tt1 te (own.map (·.2)) vs1)) := (pe_lc2 hc hN hi ok hv hg ht hi1 hg1 ht1 he hs hs1).imp fun σ H Q ⟨ι, st, env, rp, re, q⟩ =>
  ⟨ι, st, env, rp, re, okR.bind q fun its st1 ι1 H1 J e1 rp1 wk q1 Dn hD => lc2_fit hws hws1 wk rp1 (re.mono e1) hD q1⟩
end
end Dn
set_option Elab.async false
set_option linter.all false
set_option maxRecDepth 100000
set_option maxHeartbeats 1000000
/-! Dz: list(zip(a, b)), lists and tuples -/
namespace Dz
open PySem PySem.Spec PyProof.Rows L2
section
variable {prog : Program} {w : World} {A : Around} {E : Value → Shared → Prop} {s : Shared} {z TI TO i1 i2 : Addr} {fp1 fp2 : List Addr} {n1 n2 i : Nat} {P1 P2 : Nat → Value → Prop} {St1 St2 : Nat → Heap → Prop} {T : Addr} {f : Bool} {oT : Obj}
theorem held_item {Q : Value → Shared → Prop} (S : ZipSep2 z TI TO i1 i2 fp1 fp2) (D1 : Draws prog w A i1 fp1 n1 P1 St1) (D2 : Draws prog w A i2 fp2 n2 P2 St2)
    (hz : IsZipHeld s.heap z TI TO T f) (hT : s.heap.get? T = some oT) (hTI : IsTupOf2 s.heap TI (.ref i1) (.ref i2)) (st1 : St1 i s.heap) (st2 : St2 i s.heap) (hlt1 : i < n1) (hlt2 : i < n2)
    (hQ : ∀ x1 x2 h' tk, P1 i x1 → P2 i x2 → IsZipHeld h' z TI TO T true → St1 (i + 1) h' → St2 (i + 1) h' → IsTupOf2 h' s.heap.objs.size x1 x2 → h'.objs.size = s.heap.objs.size + 1 →
      (∀ c o, c ≠ z → c ≠ i1 → c ≠ i2 → s.heap.get? c = some o → h'.get? c = some o) → Q (.ref s.heap.objs.size) { s with heap := h', toks := tk }) :
    wpAny (model prog w) A (Builtin.«zip.__next__» ⟨[.ref z], []⟩) (fun fin s' => ∃ v, fin = .done (.ret v) ∧ Q v s') E s := by
  obtain ⟨hp, g, d, tk0, os⟩ := s
  show wpAny _ _ (field (.ref z) 2 >>= _) _ _ _
  refine wpAny_bind (wpAny_field hz rfl (x := .bool false) rfl ?_)
  show wpAny _ _ (field (.ref z) 3 >>= _) _ _ _
  refine wpAny_bind (wpAny_field hz rfl (x := .ref TI) rfl ?_)
  refine wpAny_bind (wpAny_seqItems hTI rfl ?_)
  show wpAny _ _ (Builtin.SmallTypes.ownedTupleIsFree (.ref z) >>= _) _ _ _
  refine wpAny_bind (wpAny_tupleHeld_zip hz hT fun h₁ hz₁ hs₁ => ?_)
  replace hs₁ : Heap.SameBut z hp h₁ := hs₁
  simp only [Bool.false_eq_true, if_false]
  refine wpAny_bind ?_
  rw [← Array.forIn_toList]
  simp only [List.forIn_cons, List.forIn_nil]
  refine wpAny_bind (wpAny_bind (wpAny_holding ?_))
  show wpAny _ _ (Builtin.SmallTypes.nextOf (.ref i1) >>= _) _ _ ⟨h₁, g, d, tk0, os⟩
  refine wpAny_bind (D1.item i _ _ _ hlt1 (D1.over st1 hs₁ S.zf1) fun x1 h₂ tk1 hx1 sn1 hs₂ => wpAny_pure ?_)
  replace hs₂ : Heap.SameBut i1 h₁ h₂ := hs₂
  refine wpAny_pure ?_
  refine wpAny_bind (wpAny_bind (wpAny_holding ?_))
  show wpAny _ _ (Builtin.SmallTypes.nextOf (.ref i2) >>= _) _ _ ⟨h₂, g, d, tk1, os⟩
  refine wpAny_bind (D2.item i _ _ _ hlt2 (D2.over (D2.over st2 hs₁ S.zf2) hs₂ S.sep1_2) fun x2 h₃ tk2 hx2 sn2 hs₃ => wpAny_pure ?_)
  replace hs₃ : Heap.SameBut i2 h₂ h₃ := hs₃
  refine wpAny_pure (wpAny_pure ?_)
  show wpAny _ _ (newTuple [x1, x2] >>= _) _ _ ⟨h₃, g, d, tk2, os⟩
  refine wpAny_bind (wpAny_newTuple ?_)
  have hsz : h₃.objs.size = hp.objs.size := by rw [hs₃.1, hs₂.1, hs₁.1]
  have hz₃ : IsZipHeld h₃ z TI TO T true := hs₃.extBut _ _ S.zi2 (hs₂.extBut _ _ S.zi1 hz₁)
  have hk : ∀ c o, c ≠ z → c ≠ i1 → c ≠ i2 → hp.get? c = some o → h₃.get? c = some o := fun c o c1 c2 c3 e => hs₃.extBut _ _ c3 (hs₂.extBut _ _ c2 (hs₁.extBut _ _ c1 e))
  refine wpAny_pure ⟨_, rfl, ?_⟩
  show Q (.ref h₃.objs.size) ⟨h₃.push { cls := .type "tuple", data := .seq #[x1, x2] }, g, d, tk2, os⟩
  have hp2 : IsTupOf2 (h₃.push { cls := .type "tuple", data := .seq #[x1, x2] }) h₃.objs.size x1 x2 := Heap.get?_push_size _ rfl
  have hz4 : (h₃.push { cls := .type "tuple", data := .seq #[x1, x2] }).objs.size = h₃.objs.size + 1 := Heap.size_push ..
  rw [hsz] at hp2 hz4 ⊢
  exact hQ x1 x2 _ tk2 hx1 hx2 (Heap.get?_push_of_some _ hz₃) (D1.frame _ _ _ (D1.over sn1 hs₃ S.sep2_1) fun b _ o e => Heap.get?_push_of_some _ e) (D2.frame _ _ _ sn2 fun b _ o e => Heap.get?_push_of_some _ e) hp2 hz4 fun c o c1 c2 c3 e => Heap.get?_push_of_some _ (hk c o c1 c2 c3 e)
theorem held_end {Q : Fin → Shared → Prop} (S : ZipSep2 z TI TO i1 i2 fp1 fp2) (D1 : Draws prog w A i1 fp1 n1 P1 St1) (D2 : Draws prog w A i2 fp2 n2 P2 St2)
    (hz : IsZipHeld s.heap z TI TO T f) (hT : s.heap.get? T = some oT) (hTI : IsTupOf2 s.heap TI (.ref i1) (.ref i2)) (st1 : St1 i s.heap) (st2 : St2 i s.heap) (hle1 : i ≤ n1) (hle2 : i ≤ n2) (hend : i = n1 ∨ i = n2)
    (hE : ∀ h' tk e, (∀ c o, c ≠ z → c ≠ i1 → c ≠ i2 → s.heap.get? c = some o → h'.get? c = some o) → (∃ o, h'.get? e = some o ∧ o.cls = .type "StopIteration") → E (.ref e) { s with heap := h', toks := tk }) :
    wpAny (model prog w) A (Builtin.«zip.__next__» ⟨[.ref z], []⟩) Q E s := by
  obtain ⟨hp, g, d, tk0, os⟩ := s
  show wpAny _ _ (field (.ref z) 2 >>= _) _ _ _
  refine wpAny_bind (wpAny_field hz rfl (x := .bool false) rfl ?_)
  show wpAny _ _ (field (.ref z) 3 >>= _) _ _ _
  refine wpAny_bind (wpAny_field hz rfl (x := .ref TI) rfl ?_)
  refine wpAny_bind (wpAny_seqItems hTI rfl ?_)
  show wpAny _ _ (Builtin.SmallTypes.ownedTupleIsFree (.ref z) >>= _) _ _ _
  refine wpAny_bind (wpAny_tupleHeld_zip hz hT fun h₁ hz₁ hs₁ => ?_)
  replace hs₁ : Heap.SameBut z hp h₁ := hs₁
  simp only [Bool.false_eq_true, if_false]
  refine wpAny_bind ?_
  rw [← Array.forIn_toList]
  simp only [List.forIn_cons, List.forIn_nil]
  refine wpAny_bind (wpAny_bind (wpAny_holding ?_))
  show wpAny _ _ (Builtin.SmallTypes.nextOf (.ref i1) >>= _) _ _ ⟨h₁, g, d, tk0, os⟩
  by_cases hlt1 : i < n1
  · refine wpAny_bind (D1.item i _ _ _ hlt1 (D1.over st1 hs₁ S.zf1) fun x1 h₂ tk1 hx1 sn1 hs₂ => wpAny_pure ?_)
    replace hs₂ : Heap.SameBut i1 h₁ h₂ := hs₂
    refine wpAny_pure ?_
    have hi2 : i = n2 := by omega
    refine wpAny_bind (wpAny_bind (wpAny_holding ?_))
    show wpAny _ _ (Builtin.SmallTypes.nextOf (.ref i2) >>= _) _ _ ⟨h₂, g, d, tk1, os⟩
    refine wpAny_bind (D2.done ⟨h₂, g, d, tk1, os⟩ _ _ (by rw [← hi2]; exact D2.over (D2.over st2 hs₁ S.zf2) hs₂ S.sep1_2) fun q e hq he => ?_)
    replace hq : Heap.ExtBut i2 h₂ q := hq
    exact hE q tk1 e (fun c o c1 c2 c3 x => hq _ _ c3 (hs₂.extBut _ _ c2 (hs₁.extBut _ _ c1 x))) he
  · have hi1 : i = n1 := by omega
    refine wpAny_bind (D1.done ⟨h₁, g, d, tk0, os⟩ _ _ (by rw [← hi1]; exact (D1.over st1 hs₁ S.zf1)) fun q e hq he => ?_)
    replace hq : Heap.ExtBut i1 h₁ q := hq
    exact hE q tk0 e (fun c o c1 c2 c3 x => hq _ _ c2 (hs₁.extBut _ _ c1 x)) he
end
/-- the zip as list() draws from it: its own tuple free, or held by the list -/
def ZSt (z TI TO i1 i2 S : Addr) (St1 St2 : Nat → Heap → Prop) (i : Nat) (h : Heap) : Prop :=
  IsTupOf2 h TI (.ref i1) (.ref i2) ∧ St1 i h ∧ St2 i h ∧ ((IsZip h z TI TO .none ∧ ∃ a b, IsTupOf2 h TO a b) ∨ ∃ T f oT, IsZipHeld h z TI TO T f ∧ h.get? T = some oT ∧ T ≠ z ∧ T ≠ i1 ∧ T ≠ i2 ∧ T ≠ S)
section
variable {prog : Program} {w : World} {A : Around} {E : Value → Shared → Prop} {s : Shared} {z TI TO i1 i2 Sl : Addr} {fp1 fp2 : List Addr} {n1 n2 i : Nat} {P1 P2 : Nat → Value → Prop} {St1 St2 : Nat → Heap → Prop}
theorem z_item {Q : Option Value → Shared → Prop} (S : ZipSep2 z TI TO i1 i2 fp1 fp2) (D1 : Draws prog w A.in1 i1 fp1 n1 P1 St1) (D2 : Draws prog w A.in1 i2 fp2 n2 P2 St2)
    (st : ZSt z TI TO i1 i2 Sl St1 St2 i s.heap) (hSl : Sl < s.heap.objs.size) (hlt1 : i < n1) (hlt2 : i < n2)
    (hQ : ∀ x1 x2 h' tk, P1 i x1 → P2 i x2 → ZSt z TI TO i1 i2 Sl St1 St2 (i + 1) h' → IsTupOf2 h' s.heap.objs.size x1 x2 → h'.objs.size = s.heap.objs.size + 1 →
      (∀ c o, c ≠ z → c ≠ TO → c ≠ i1 → c ≠ i2 → s.heap.get? c = some o → h'.get? c = some o) → Q (some (.ref s.heap.objs.size)) { s with heap := h', toks := tk }) :
    wpAny (model prog w) A (pyNext (.ref z)) Q E s := by
  obtain ⟨hTI, st1, st2, hz⟩ := st
  have lt : ∀ {c o}, s.heap.get? c = some o → s.heap.objs.size ≠ c := fun e => Nat.ne_of_gt (Heap.lt_size e)
  have n1' : s.heap.objs.size ≠ i1 := let ⟨_, e⟩ := D1.live _ _ st1; lt e
  have n2' : s.heap.objs.size ≠ i2 := let ⟨_, e⟩ := D2.live _ _ st2; lt e
  rcases hz with ⟨hz, a, b, hTO⟩ | ⟨T, f, oT, hz, hT, r1, r2, r3, r4⟩
  · refine wpAny_pyNext_zipD2_item S D1 D2 hz hTI hTO st1 st2 hlt1 hlt2 fun x1 x2 h' tk p1 p2 a1 a2 a3 a4 a5 a6 hk => ?_
    exact hQ x1 x2 h' tk p1 p2 ⟨hk _ _ S.TIz S.TITO S.TIi1 S.TIi2 hTI, a3, a4, .inr ⟨_, false, _, a1, a5, lt hz, n1', n2', Nat.ne_of_gt hSl⟩⟩ a5 a6 hk
  · have hTy : s.TypeIs (.ref z) "zip" := ⟨_, hz, rfl⟩
    unfold pyNext
    exact wpAny_bind (wpAny_attempt (wpAny_callSpecial?_slot (name := Str.ofString "__next__") hTy F.slot_zip_next
      (wpAny_call_entry F.slot_zip_next hTy F.entry_zip_next
        (held_item S D1 D2 hz hT hTI st1 st2 hlt1 hlt2 fun x1 x2 h' tk p1 p2 a1 a3 a4 a5 a6 hk => wpAny_pure (hQ x1 x2 h' tk p1 p2 ⟨hk _ _ S.TIz S.TIi1 S.TIi2 hTI, a3, a4, .inr ⟨T, true, oT, a1, hk _ _ r1 r2 r3 hT, r1, r2, r3, r4⟩⟩ a5 a6 fun c o c1 _ c3 c4 e => hk c o c1 c3 c4 e)) (F.args_zip_next_1 _))))
theorem z_end {Q : Option Value → Shared → Prop} (S : ZipSep2 z TI TO i1 i2 fp1 fp2) (D1 : Draws prog w A.in1 i1 fp1 n1 P1 St1) (D2 : Draws prog w A.in1 i2 fp2 n2 P2 St2)
    (st : ZSt z TI TO i1 i2 Sl St1 St2 i s.heap) (hle1 : i ≤ n1) (hle2 : i ≤ n2) (hend : i = n1 ∨ i = n2)
    (hQ : ∀ h' tk, (∀ c o, c ≠ z → c ≠ TO → c ≠ i1 → c ≠ i2 → s.heap.get? c = some o → h'.get? c = some o) → Q none { s with heap := h', toks := tk }) : wpAny (model prog w) A (pyNext (.ref z)) Q E s := by
  obtain ⟨hTI, st1, st2, hz⟩ := st
  rcases hz with ⟨hz, a, b, hTO⟩ | ⟨T, f, oT, hz, hT, r1, r2, r3, r4⟩
  · exact wpAny_pyNext_zipD2_end S D1 D2 hz hTI hTO st1 st2 hle1 hle2 hend hQ
  · have hTy : s.TypeIs (.ref z) "zip" := ⟨_, hz, rfl⟩
    unfold pyNext
    refine wpAny_bind (wpAny_attempt (wpAny_callSpecial?_slot (name := Str.ofString "__next__") hTy F.slot_zip_next
      (wpAny_call_entry F.slot_zip_next hTy F.entry_zip_next (held_end S D1 D2 hz hT hTI st1 st2 hle1 hle2 hend fun h' tk e hk he => ?_) (F.args_zip_next_1 _))))
    obtain ⟨o, ho, hc⟩ := he
    refine wpAny_bind (wpAny_isInstance (T := "StopIteration") (b := true) ⟨o, ho, hc⟩ isSubtype_stop ?_)
    exact wpAny_pure (hQ _ _ fun c o c1 _ c3 c4 e => hk c o c1 c3 c4 e)
end
theorem zip_no_len : typeLookup (.type "zip") "__len__" = pure none := am_miss_of_fast (by decide +kernel)
theorem zip_no_hint : typeLookup (.type "zip") "__length_hint__" = pure none := am_miss_of_fast (by decide +kernel)
/-- the pairs made so far -/
structure MadeZ (P1 P2 : Nat → Value → Prop) (lo : Addr) (h : Heap) (as : List Addr) : Prop where
  rise : as.Pairwise (· < ·)
  above : ∀ a ∈ as, lo ≤ a
  pairs : ∀ (j : Nat) (a : Addr), as[j]? = some a → ∃ x y, P1 j x ∧ P2 j y ∧ IsTupOf2 h a x y
theorem MadeZ.there {P1 P2 : Nat → Value → Prop} {lo : Addr} {h : Heap} {as : List Addr} (g : MadeZ P1 P2 lo h as) {a : Addr} (ha : a ∈ as) : a < h.objs.size := by
  obtain ⟨j, hj⟩ := List.mem_iff_getElem?.mp ha
  obtain ⟨_, _, _, _, e⟩ := g.pairs j a hj
  exact Heap.lt_size e
section
variable {prog : Program} {w : World} {A : Around} {E : Value → Shared → Prop} {s : Shared} {z TI TO i1 i2 Sl : Addr} {fp1 fp2 : List Addr} {n1 n2 i : Nat} {P1 P2 : Nat → Value → Prop} {St1 St2 : Nat → Heap → Prop}
theorem hint_zip (hT : s.TypeIs (.ref z) "zip") {Q : Bool → Shared → Prop} (h : Q true s) : wpAny (model prog w) A (Builtin.List.listLengthHint (.ref z)) Q E s := by
  unfold Builtin.List.listLengthHint
  refine wpAny_bind (wpAny_specialOf hT zip_no_len ?_)
  refine wpAny_ite_split (fun hab => absurd hab (by decide)) (fun _ => ?_)
  refine wpAny_ite_split (fun hab => absurd hab (by decide)) (fun _ => ?_)
  refine wpAny_bind (wpAny_specialOf hT zip_no_hint ?_)
  exact wpAny_pure h
theorem ZSt.keep {h h' : Heap} (D1 : Draws prog w A i1 fp1 n1 P1 St1) (D2 : Draws prog w A i2 fp2 n2 P2 St2) (st : ZSt z TI TO i1 i2 Sl St1 St2 i h) (k : ∀ b o, b ≠ Sl → h.get? b = some o → h'.get? b = some o) (d1 : z ≠ Sl) (d2 : TI ≠ Sl) (d3 : TO ≠ Sl) (f1 : Sl ∉ fp1) (f2 : Sl ∉ fp2) :
    ZSt z TI TO i1 i2 Sl St1 St2 i h' := by
  obtain ⟨hTI, st1, st2, hz⟩ := st
  refine ⟨k _ _ d2 hTI, D1.frame _ _ _ st1 fun b hb o e => k b o (fun q => f1 (q ▸ hb)) e, D2.frame _ _ _ st2 fun b hb o e => k b o (fun q => f2 (q ▸ hb)) e, ?_⟩
  rcases hz with ⟨hz, a, b, hTO⟩ | ⟨T, f, oT, hz, hT, r1, r2, r3, r4⟩
  · exact .inl ⟨k _ _ d1 hz, a, b, k _ _ d3 hTO⟩
  · exact .inr ⟨T, f, oT, k _ _ d1 hz, k _ _ r4 hT, r1, r2, r3, r4⟩
theorem loopZ {R : Result → Shared → Prop} (hh : A.handled = none) (S : ZipSep2 z TI TO i1 i2 fp1 fp2) (D1 : Draws prog w A.in1.in1 i1 fp1 n1 P1 St1) (D2 : Draws prog w A.in1.in1 i2 fp2 n2 P2 St2) (d1 : z ≠ Sl) (d2 : TI ≠ Sl) (d3 : TO ≠ Sl) (f1 : Sl ∉ fp1) (f2 : Sl ∉ fp2) (hn : min n1 n2 ≤ sizeLine) (res : Value) {h₁ : Heap} {lo : Addr} (hlo : z < lo ∧ TO < lo ∧ i1 < lo ∧ i2 < lo ∧ Sl < lo)
    (hR : ∀ h' tk acc c as, (∀ b o, b ≠ Sl → b ≠ z → b ≠ TO → b ≠ i1 → b ≠ i2 → h₁.get? b = some o → h'.get? b = some o) → h'.get? Sl = some { cls := .type "list", dict := none, data := .seq acc c, slots := #[] } → as.length = min n1 n2 → MadeZ P1 P2 lo h' as →
      acc.toList = as.map Value.ref → R (.ok (.ret res)) { s with heap := h', toks := tk }) :
    ∀ (k i : Nat) (h : Heap) (tk c : Nat) (acc : Array Value) (as : List Addr), min n1 n2 - i = k → i ≤ min n1 n2 → ZSt z TI TO i1 i2 Sl St1 St2 i h → (∀ b o, b ≠ Sl → b ≠ z → b ≠ TO → b ≠ i1 → b ≠ i2 → h₁.get? b = some o → h.get? b = some o) →
      h.get? Sl = some { cls := .type "list", dict := none, data := .seq acc c, slots := #[] } → acc.toList = as.map Value.ref → as.length = i → MadeZ P1 P2 lo h as → lo ≤ h.objs.size →
      codeAny (model prog w) A (.builtin "list.extend.loop" ⟨[.ref Sl, .ref z, res], []⟩) R { s with heap := h, toks := tk } := by
  have zi1 := S.zi1
  have zi2 := S.zi2
  have Si1 : i1 ≠ Sl := fun e => f1 (e ▸ S.mem1)
  have Si2 : i2 ≠ Sl := fun e => f2 (e ▸ S.mem2)
  intro k
  induction k with
  | zero =>
    intro i h tk c acc as hk hi hst hkeep hS hacc hal hG hIs
    refine codeAny_builtin PySem.F.entry_extend_loop ?_
    rw [Around.under_plainId PySem.F.plain_extend_loop _]
    show wpAny _ A.in1 (pyNext (.ref z) >>= _) _ _ _
    refine wpAny_bind (z_end (s := { s with heap := h, toks := tk }) (A := A.in1) S D1 D2 hst (Nat.le_trans hi (Nat.min_le_left ..)) (Nat.le_trans hi (Nat.min_le_right ..)) (by omega) fun h' tk' he => ?_)
    refine wpAny_pure (hR h' tk' acc c as (fun b o c1 c2 c3 c4 c5 e => he b o c2 c3 c4 c5 (hkeep b o c1 c2 c3 c4 c5 e)) (he Sl _ (Ne.symm d1) (Ne.symm d3) (Ne.symm Si1) (Ne.symm Si2) hS) (by omega) ⟨hG.rise, hG.above, fun j a hj => ?_⟩ hacc)
    obtain ⟨x, y, e1, e2, e3⟩ := hG.pairs j a hj
    have ha := hG.above a (List.mem_of_getElem? hj)
    obtain ⟨g1, g2, g3, g4, g5⟩ := hlo
    exact ⟨x, y, e1, e2, he a _ (Nat.ne_of_gt (Nat.lt_of_lt_of_le g1 ha)) (Nat.ne_of_gt (Nat.lt_of_lt_of_le g2 ha)) (Nat.ne_of_gt (Nat.lt_of_lt_of_le g3 ha)) (Nat.ne_of_gt (Nat.lt_of_lt_of_le g4 ha)) e3⟩
  | succ k ih =>
    intro i h tk c acc as hk hi hst hkeep hS hacc hal hG hIs
    have hlt : i < min n1 n2 := by omega
    have hsz : acc.size = i := by rw [← Array.length_toList, hacc, List.length_map, hal]
    refine codeAny_builtin PySem.F.entry_extend_loop ?_
    rw [Around.under_plainId PySem.F.plain_extend_loop _]
    show wpAny _ A.in1 (pyNext (.ref z) >>= _) _ _ _
    refine wpAny_bind (z_item (s := { s with heap := h, toks := tk }) (A := A.in1) S D1 D2 hst (Heap.lt_size hS) (Nat.lt_of_lt_of_le hlt (Nat.min_le_left ..)) (Nat.lt_of_lt_of_le hlt (Nat.min_le_right ..)) fun x1 x2 h' tk' p1 p2 hst' ht hz hkp => ?_)
    dsimp only at ht hz hkp ⊢
    have hS' := hkp Sl _ (Ne.symm d1) (Ne.symm d3) (Ne.symm Si1) (Ne.symm Si2) hS
    have up : ∀ b o, b ≠ Sl → h'.get? b = some o → (h'.update Sl (Obj.mapSeq (·.push (Value.ref h.objs.size)))).get? b = some o := fun b o hb e => (Heap.get?_update_other _ _ (Ne.symm hb)).trans e
    have hSl : Sl < h.objs.size := Heap.lt_size hS
    have hz' : (h'.update Sl (Obj.mapSeq (·.push (Value.ref h.objs.size)))).objs.size = h.objs.size + 1 := by rw [← hz]; exact (Heap.SameBut.update ..).1
    show wpAny _ A.in1 (updateSeq Sl (·.push (Value.ref h.objs.size)) >>= _) _ _ _
    refine wpAny_bind ?_
    refine wpAny_updateSeq hS' rfl (wpAny_pure ⟨plainId_quiet PySem.F.plain_extend_loop _, ih (i + 1) _ tk' _ (acc.push (Value.ref h.objs.size)) (as ++ [h.objs.size]) (by omega) hlt (hst'.keep D1 D2 up d1 d2 d3 f1 f2)
      (fun b o c1 c2 c3 c4 c5 e => up b o c1 (hkp b o c2 c3 c4 c5 (hkeep b o c1 c2 c3 c4 c5 e))) (Heap.get?_update_self _ hS' rfl) (by rw [Array.toList_push, hacc, List.map_append]; rfl) (by rw [List.length_append, hal]; rfl) ⟨?_, ?_, ?_⟩ ?_⟩) (by rw [hsz]; omega) (by show (acc.push (Value.ref h.objs.size)).size ≤ sizeLine + 1; rw [Array.size_push, hsz]; omega)
    · refine List.pairwise_append.mpr ⟨hG.rise, List.pairwise_singleton _ _, fun a ha b hb => ?_⟩
      rw [List.mem_singleton.mp hb]
      exact hG.there ha
    · intro a ha
      rcases List.mem_append.mp ha with ha | ha
      · exact hG.above a ha
      · rw [List.mem_singleton.mp ha]; exact hIs
    · intro j b hj
      rcases Nat.lt_trichotomy j as.length with h1 | h1 | h1
      · rw [List.getElem?_append_left h1] at hj
        obtain ⟨x, y, e1, e2, e3⟩ := hG.pairs j b hj
        have ha := hG.above b (List.mem_of_getElem? hj)
        obtain ⟨g1, g2, g3, g4, g5⟩ := hlo
        exact ⟨x, y, e1, e2, up b _ (Nat.ne_of_gt (Nat.lt_of_lt_of_le g5 ha)) (hkp b _ (Nat.ne_of_gt (Nat.lt_of_lt_of_le g1 ha)) (Nat.ne_of_gt (Nat.lt_of_lt_of_le g2 ha)) (Nat.ne_of_gt (Nat.lt_of_lt_of_le g3 ha)) (Nat.ne_of_gt (Nat.lt_of_lt_of_le g4 ha)) e3)⟩
      · subst h1
        have hb : h.objs.size = b := by simpa using hj
        subst hb
        subst hal
        exact ⟨x1, x2, p1, p2, up _ _ (Nat.ne_of_gt hSl) ht⟩
      · have hnone : (as ++ [h.objs.size])[j]? = none := List.getElem?_eq_none (by rw [List.length_append, List.length_singleton]; omega)
        rw [hnone] at hj; cases hj
    · rw [hz']; exact Nat.le_succ_of_le hIs
theorem extZ {R : Result → Shared → Prop} (hh : A.handled = none) (S : ZipSep2 z TI TO i1 i2 fp1 fp2) (D1 : Draws prog w A.in1.in1 i1 fp1 n1 P1 St1) (D2 : Draws prog w A.in1.in1 i2 fp2 n2 P2 St2) (d1 : z ≠ Sl) (d2 : TI ≠ Sl) (d3 : TO ≠ Sl) (f1 : Sl ∉ fp1) (f2 : Sl ∉ fp2) (hn : min n1 n2 ≤ sizeLine) (res : Value) (c₀ : Nat)
    (hz : IsZip s.heap z TI TO .none) (st : ZSt z TI TO i1 i2 Sl St1 St2 0 s.heap) (hlo : z < s.heap.objs.size ∧ TO < s.heap.objs.size ∧ i1 < s.heap.objs.size ∧ i2 < s.heap.objs.size ∧ Sl < s.heap.objs.size)
    (hS : s.heap.get? Sl = some { cls := .type "list", data := .seq #[] c₀ })
    (hR : ∀ h' tk acc c as, (∀ b o, b ≠ Sl → b ≠ z → b ≠ TO → b ≠ i1 → b ≠ i2 → s.heap.get? b = some o → h'.get? b = some o) → h'.get? Sl = some { cls := .type "list", dict := none, data := .seq acc c, slots := #[] } → as.length = min n1 n2 → MadeZ P1 P2 s.heap.objs.size h' as →
      acc.toList = as.map Value.ref → R (.ok (.ret res)) { s with heap := h', toks := tk }) :
    wpAny (model prog w) A.in1 (Builtin.List.listExtendWith (.ref Sl) (.ref z) res)
      (fun fin s' => match fin with | .done f => R (.ok f) s' | .again c' => c'.quiet = true ∧ codeAny (model prog w) A c' R s') (fun e s' => R (.error e) s') s := by
  have hty : s.TypeIs (.ref z) "zip" := ⟨_, hz, rfl⟩
  have key : ∀ (h : Heap) (c₁ tk : Nat), (∀ b o, b ≠ Sl → s.heap.get? b = some o → h.get? b = some o) → h.objs.size = s.heap.objs.size →
      h.get? Sl = some { cls := .type "list", data := .seq #[] c₁ } → codeAny (model prog w) A (.builtin "list.extend.loop" ⟨[.ref Sl, .ref z, res], []⟩) R { s with heap := h, toks := tk } := by
    intro h c₁ tk hk hsz hS₁
    refine loopZ (s := s) (h₁ := s.heap) (lo := s.heap.objs.size) hh S D1 D2 d1 d2 d3 f1 f2 hn res hlo (fun h' tk' acc c as hk' hS' hl hG hacc => hR h' tk' acc c as hk' hS' hl hG hacc)
      (min n1 n2) 0 h tk c₁ #[] [] (Nat.sub_zero _) (Nat.zero_le _) (st.keep D1 D2 hk d1 d2 d3 f1 f2) (fun b o c1 _ _ _ _ e => hk b o c1 e) hS₁ rfl rfl
      ⟨List.Pairwise.nil, (fun _ ha => nomatch ha), (fun j a hj => by simp at hj)⟩ (Nat.le_of_eq hsz.symm)
  unfold Builtin.List.listExtendWith
  refine wpAny_bind (wpAny_typeOf (T := "zip") hty ?_)
  have h1 : Builtin.List.listSameRef (.ref Sl) (.ref z) = false := by simp [Builtin.List.listSameRef, Ne.symm d1]
  have h2 : (Value.type "zip" == Value.type "list") = false := by decide
  have h3 : (Value.type "zip" == Value.type "tuple") = false := by decide
  simp only [h1, h2, h3, Bool.or_false, Bool.false_eq_true, if_false]
  refine wpAny_bind (wpAny_pyIter_zip hz ?_)
  refine wpAny_bind (wpAny_holding (hint_zip hty ?_))
  refine wpAny_ite_split (fun _ => ?_) (fun _ => wpAny_pure ⟨plainId_quiet PySem.F.plain_extend_loop _, key _ c₀ _ (fun b o _ e => e) rfl hS⟩)
  refine wpAny_bind (wpAny_rule ?_)
  refine wpAny_bind ?_
  show wpAny _ _ (updateSeq Sl (·.push .none) >>= fun _ => updateSeq Sl (·.pop)) _ _ _
  refine wpAny_bind (wpAny_updateSeq hS rfl ?_)
  have hS₂ := Heap.get?_update_self (Obj.mapSeq (·.push Value.none)) hS rfl
  refine wpAny_updateSeq (hz := by seq_fits) hS₂ rfl ?_
  have hS₃ := Heap.get?_update_self (Obj.mapSeq (·.pop)) hS₂ rfl
  refine wpAny_pure ⟨plainId_quiet PySem.F.plain_extend_loop _, key _ _ _ (fun b o hb e => ?_) ?_ hS₃⟩
  · exact (Heap.get?_update_other _ _ (Ne.symm hb)).trans ((Heap.get?_update_other _ _ (Ne.symm hb)).trans e)
  · have e1 : (s.heap.update Sl (Obj.mapSeq (·.push Value.none))).objs.size = s.heap.objs.size := (Heap.SameBut.update ..).1
    rw [← e1]
    exact (Heap.SameBut.update ..).1
theorem initZ {R : Result → Shared → Prop} (hh : A.handled = none) (S : ZipSep2 z TI TO i1 i2 fp1 fp2) (D1 : Draws prog w A.in1.in1 i1 fp1 n1 P1 St1) (D2 : Draws prog w A.in1.in1 i2 fp2 n2 P2 St2) (d1 : z ≠ Sl) (d2 : TI ≠ Sl) (d3 : TO ≠ Sl) (f1 : Sl ∉ fp1) (f2 : Sl ∉ fp2) (hn : min n1 n2 ≤ sizeLine)
    (hz : IsZip s.heap z TI TO .none) (st : ZSt z TI TO i1 i2 Sl St1 St2 0 s.heap) (hlo : z < s.heap.objs.size ∧ TO < s.heap.objs.size ∧ i1 < s.heap.objs.size ∧ i2 < s.heap.objs.size ∧ Sl < s.heap.objs.size)
    (hS : s.heap.get? Sl = some { cls := .type "list", data := .seq #[] })
    (hR : ∀ h' tk acc c as, (∀ b o, b ≠ Sl → b ≠ z → b ≠ TO → b ≠ i1 → b ≠ i2 → s.heap.get? b = some o → h'.get? b = some o) → h'.get? Sl = some { cls := .type "list", dict := none, data := .seq acc c, slots := #[] } → as.length = min n1 n2 → MadeZ P1 P2 s.heap.objs.size h' as →
      acc.toList = as.map Value.ref → R (.ok (.ret .none)) { s with heap := h', toks := tk }) :
    wpAny (model prog w) A.in1 (Builtin.«list.__init__» ⟨[.ref Sl, .ref z], []⟩)
      (fun fin s' => match fin with | .done f => R (.ok f) s' | .again c' => c'.quiet = true ∧ codeAny (model prog w) A c' R s') (fun e s' => R (.error e) s') s := by
  show wpAny _ _ (do let old ← Builtin.List.listItems (.ref Sl); Builtin.List.listUpdate (.ref Sl) (fun _ => #[]); letGo old.toList.reverse; Builtin.List.listExtendWith (.ref Sl) (.ref z) .none) _ _ s
  refine wpAny_bind ?_
  unfold Builtin.List.listItems
  refine wpAny_bind (wpAny_seqItems hS rfl (wpAny_pure ?_))
  show wpAny _ _ (updateSeq Sl (fun _ => #[]) >>= fun _ => letGo (#[] : Array Value).toList.reverse >>= fun _ => Builtin.List.listExtendWith (.ref Sl) (.ref z) .none) _ _ s
  refine wpAny_bind (wpAny_updateSeq hS rfl ?_)
  have hS₂ := Heap.get?_update_self (Obj.mapSeq (fun _ => (#[] : Array Value))) hS rfl
  have oth : ∀ b o, b ≠ Sl → s.heap.get? b = some o → (s.heap.update Sl (Obj.mapSeq (fun _ => (#[] : Array Value)))).get? b = some o :=
    fun b o hb e => (Heap.get?_update_other _ _ (Ne.symm hb)).trans e
  have e1 : (s.heap.update Sl (Obj.mapSeq (fun _ => (#[] : Array Value)))).objs.size = s.heap.objs.size := (Heap.SameBut.update ..).1
  refine wpAny_bind (wpAny_letGo ?_)
  refine extZ (s := { s with heap := s.heap.update Sl (Obj.mapSeq (fun _ => (#[] : Array Value))) }) hh S D1 D2 d1 d2 d3 f1 f2 hn .none _ (oth _ _ d1 hz) (st.keep D1 D2 oth d1 d2 d3 f1 f2) (by dsimp only; rw [e1]; exact hlo) hS₂ fun h' tk acc c as hk hS' hl hG hacc => ?_
  dsimp only at hG
  rw [e1] at hG
  exact hR h' tk acc c as (fun b o c1 c2 c3 c4 c5 e => hk b o c1 c2 c3 c4 c5 (oth b o c1 e)) hS' hl hG hacc
theorem callZ {Q : Value → Shared → Prop} (hh : A.handled = none) (S : ZipSep2 z TI TO i1 i2 fp1 fp2) (D1 : Draws prog w A.in1.in1.in1 i1 fp1 n1 P1 St1) (D2 : Draws prog w A.in1.in1.in1 i2 fp2 n2 P2 St2) (hn : min n1 n2 ≤ sizeLine)
    (hz : IsZip s.heap z TI TO .none) (hTI : IsTupOf2 s.heap TI (.ref i1) (.ref i2)) (hTO : ∃ a b, IsTupOf2 s.heap TO a b) (st1 : St1 0 s.heap) (st2 : St2 0 s.heap) (hf1 : ∀ b ∈ fp1, b < s.heap.objs.size) (hf2 : ∀ b ∈ fp2, b < s.heap.objs.size)
    (hQ : ∀ h' tk acc c as, (∀ b o, b ≠ z → b ≠ TO → b ≠ i1 → b ≠ i2 → s.heap.get? b = some o → h'.get? b = some o) → h'.get? s.heap.objs.size = some { cls := .type "list", dict := none, data := .seq acc c, slots := #[] } → as.length = min n1 n2 → MadeZ P1 P2 (s.heap.objs.size + 1) h' as →
      acc.toList = as.map Value.ref → Q (.ref s.heap.objs.size) { s with heap := h', toks := tk }) :
    wpAny (model prog w) A (call (.type "list") [.ref z]) Q E s := by
  refine callType_codes (Q₁ := fun obj s₁ => obj = .ref s.heap.objs.size ∧ s₁ = { s with heap := s.heap.push { cls := .type "list", data := .seq #[] } }) PySem.F.called_list (PySem.F.typeCall_list_1 _) PySem.F.entry_list_init
    (code_list_new _ ⟨rfl, rfl⟩) fun obj s₁ h₁ => ?_
  obtain ⟨rfl, rfl⟩ := h₁
  have hS : (s.heap.push { cls := .type "list", data := .seq #[] }).get? s.heap.objs.size = some { cls := .type "list", data := .seq #[] } := Heap.get?_push_size _ rfl
  have up : ∀ b o, s.heap.get? b = some o → (s.heap.push { cls := .type "list", data := .seq #[] }).get? b = some o := fun b o e => Heap.get?_push_of_some _ e
  have hsz : (s.heap.push { cls := .type "list", data := .seq #[] }).objs.size = s.heap.objs.size + 1 := Heap.size_push ..
  have lz := Heap.lt_size hz
  have lTI := Heap.lt_size hTI
  have lTO : TO < s.heap.objs.size := let ⟨_, _, e⟩ := hTO; Heap.lt_size e
  have l1 : i1 < s.heap.objs.size := hf1 _ S.mem1
  have l2 : i2 < s.heap.objs.size := hf2 _ S.mem2
  refine ⟨⟨_, hS, rfl⟩, PySem.F.args_list_init_2 _ _, initZ (A := A.in1) (s := { s with heap := s.heap.push { cls := .type "list", data := .seq #[] } }) hh S D1 D2 (Nat.ne_of_lt lz) (Nat.ne_of_lt lTI) (Nat.ne_of_lt lTO) (fun hb => Nat.lt_irrefl _ (hf1 _ hb)) (fun hb => Nat.lt_irrefl _ (hf2 _ hb)) hn
    (up _ _ hz) ⟨up _ _ hTI, D1.frame _ _ _ st1 fun b _ o e => up b o e, D2.frame _ _ _ st2 fun b _ o e => up b o e, .inl ⟨up _ _ hz, let ⟨a, b, e⟩ := hTO; ⟨a, b, up _ _ e⟩⟩⟩
    (by dsimp only; rw [hsz]; exact ⟨Nat.lt_succ_of_lt lz, Nat.lt_succ_of_lt lTO, Nat.lt_succ_of_lt l1, Nat.lt_succ_of_lt l2, Nat.lt_succ_self _⟩) hS (fun h' tk acc c as hk hS' hl hG hacc => ?_)⟩
  dsimp only at hG
  rw [hsz] at hG
  exact ⟨rfl, hQ h' tk acc c as (fun b o c2 c3 c4 c5 e => hk b o (Nat.ne_of_lt (Heap.lt_size e)) c2 c3 c4 c5 (up b o e)) hS' hl hG hacc⟩
end
/-- list(zip(a, b)): two lists or two tuples -/
def tLZ (K : PySem.W.Frag) (ta : TA) : TE := fun σ H Q => ta σ H fun vs H1 => ∃ a b xs ys, vs = [.ref a, .ref b] ∧ ((SqL K H1 a xs ∧ SqL K H1 b ys) ∨ (SqT K H1 a xs ∧ SqT K H1 b ys)) ∧ min xs.length ys.length ≤ sizeLine ∧
  ∀ (H2 : Hp) (l : Addr) (bs : List Addr), (∀ c o, H1 c = some o → H2 c = some o) → bs.length = min xs.length ys.length → (∀ (j : Nat) (c : Addr), bs[j]? = some c → ∃ x y, xs[j]? = some x ∧ ys[j]? = some y ∧ H2 c = some (.tup [x, y])) → H1 l = none → H2 l = some (.lst (bs.map V.ref)) → Q (.ref l) H2
section
variable {X : Cx} {e e2 : Expr} {ta : TA} {p p2 pos pos2 : Pos}
theorem draws_list {prog : Program} {w : World} {A : Around} (hh : A.handled = none) (it l : Addr) (hne : l ≠ it) (items : Array Value) :
    Draws prog w A it [it, l] items.size (fun i v => items[i]? = some v) (fun i h => h.IsListIter it l i ∧ h.IsList l items) where
  live := fun _ _ st => let ⟨o, ho, _⟩ := st.1; ⟨o, ho⟩
  frame := fun _ _ _ st hk => ⟨st.1.at fun o e => hk it (by simp) o e, st.2.at fun o e => hk l (by simp) o e⟩
  item := fun i s Q E hi st hQ => by
    refine wpAny_nextOf_list_item st.1 st.2 (x := items[i]) (by simp [hi]) fun h' hit' hs' => ?_
    exact hQ _ h' s.toks (by simp [hi]) ⟨hit', st.2.extBut hs'.extBut hne⟩ hs'
  done := fun s Q E st hE => wpAny_nextOf_list_end hh st.1 st.2 (by simp) hE
theorem vals_refs : ∀ as : List Addr, Vals (as.map V.ref) (as.map Value.ref)
  | [] => .nil
  | a :: as => .cons rfl (vals_refs as)
theorem pe_listZip (hc : X.calm = true) (hg : Gl X "list") (hm : X.mg "list" = none) (hg2 : Gl X "zip") (hm2 : X.mg "zip" = none) (ha : PA X [e, e2] ta)
    (hs2 : starEach [e, e2] X.env = (false, eval e X.env) :: starEach [e2] X.env := by rfl) (hpl2 : (backTo pos2 (starEach [e2] X.env)).any (·.1) = false := by rfl)
    (na : starEach [.Call (.Name "zip" p2) [e, e2] [] pos2] X.env = (false, eval (.Call (.Name "zip" p2) [e, e2] [] pos2) X.env) :: starEach [] X.env := by rfl) :
    PE X (.Call (.Name "list" p) [.Call (.Name "zip" p2) [e, e2] [] pos2] [] pos) (tLZ X.K ta) := by
  refine ⟨fun pins s σ H Q I h => ?_⟩
  refine Call_ (ld_blt I hg hm boot_list (PyProof.Rows.callWith_type1 (args_cons ?_ na) na rfl))
  refine Call_ (ld_blt I hg2 hm2 PyProof.Rows.boot_zip (PyProof.Rows.callWith_type1 (thn (ha.run pos2 pins s σ H _ I h) fun us s1 ⟨vs, H1, I1, r1, q1⟩ => ?_) hs2 hpl2))
  obtain ⟨a, b, xs, ys, ex, hab, hmin, q⟩ := q1
  subst ex
  cases r1 with
  | cons r rr =>
  cases rr with
  | cons r' rr =>
  cases rr
  cases r
  cases r'
  have hh : X.A.handled = none := I1.ok.hd hc
  -- what is common behind the call of zip
  have fin : ∀ {its its2 : List Value} {St1 St2 : Nat → Heap → Prop} {h' : Heap} {N : Nat}, N = s1.heap.objs.size → Vals xs its → Vals ys its2 →
      Draws X.prog X.w X.A.in1.in1.in1 N [N, a] its.toArray.size (fun i v => its.toArray[i]? = some v) St1 → Draws X.prog X.w X.A.in1.in1.in1 (N + 1) [N + 1, b] its2.toArray.size (fun i v => its2.toArray[i]? = some v) St2 →
      a < N → b < N → IsZip h' (N + 4) (N + 2) (N + 3) .none → IsTupOf2 h' (N + 2) (.ref N) (.ref (N + 1)) → IsTupOf2 h' (N + 3) .none .none → St1 0 h' → St2 0 h' → h'.objs.size = N + 5 → (∀ c o, s1.heap.get? c = some o → h'.get? c = some o) →
      wpAny (model X.prog X.w) X.A (evalAll []) (fun us s' => wpAny (model X.prog X.w) X.A (call (.type "list") (.ref (N + 4) :: us)) (EP X pins σ Q) X.xe s') X.xe { s1 with heap := h' } := by
    intro its its2 St1 St2 h' N eN rx ry D1 D2 hla hlb hz hTI hTO st1 st2 hsz hk
    refine wpAny_evalAll_nil ?_
    have l1 := rx.length
    have l2 := ry.length
    have S : ZipSep2 (N + 4) (N + 2) (N + 3) N (N + 1) [N, a] [N + 1, b] := zip_sep2 (fp1 := [a]) (fp2 := [b]) (fun c hc => by rw [List.mem_singleton.mp hc]; exact hla) (fun c hc => by rw [List.mem_singleton.mp hc]; exact hlb)
    refine callZ (s := { s1 with heap := h' }) hh S D1 D2 (by simp only [List.size_toArray]; omega) hz hTI ⟨_, _, hTO⟩ st1 st2 (fun c hc => ?_) (fun c hc => ?_) fun h2 tk acc c as hk2 hl hlen hG hacc => ?_
    · have hc' : c = N ∨ c = a := by simpa using hc
      show c < h'.objs.size
      rw [hsz]
      rcases hc' with z | z
      · rw [z]; exact Nat.lt_add_of_pos_right (by decide)
      · rw [z]; exact Nat.lt_of_lt_of_le hla (Nat.le_add_right _ _)
    · have hc' : c = N + 1 ∨ c = b := by simpa using hc
      show c < h'.objs.size
      rw [hsz]
      rcases hc' with z | z
      · rw [z]; exact Nat.add_lt_add_left (by decide) N
      · rw [z]; exact Nat.lt_of_lt_of_le hlb (Nat.le_add_right _ _)
    · dsimp only at hk2 hl hG ⊢
      rw [hsz] at hl hG ⊢
      have kall : ∀ c o, s1.heap.get? c = some o → h2.get? c = some o := fun c o e => by
        have hlt : c < N := by rw [eN]; exact Heap.lt_size e
        exact hk2 c o (Nat.ne_of_lt (Nat.lt_of_lt_of_le hlt (Nat.le_add_right _ _))) (Nat.ne_of_lt (Nat.lt_of_lt_of_le hlt (Nat.le_add_right _ _))) (Nat.ne_of_lt hlt) (Nat.ne_of_lt (Nat.lt_of_lt_of_le hlt (Nat.le_add_right _ _))) (hk c o e)
      have I2 : Inv X pins σ H1 { s1 with heap := h2, toks := tk } := I1.kept kall
      have nd : as.Nodup := List.Pairwise.imp (fun h => Nat.ne_of_lt h) hG.rise
      have fr : ∀ c, s1.heap.objs.size ≤ c → H1 c = none := fun c hc => I1.hok.fresh hc
      have hlb : s1.heap.objs.size ≤ N + 5 := by rw [← eN]; exact Nat.le_add_right _ _
      have I3 : Inv X pins σ (upd H1 (N + 5) (.lst (as.map V.ref))) { s1 with heap := h2, toks := tk } := I2.take (h' := h2) (t' := tk) (fun b ob _ e => e) (I1.fpOk hlb (fr _ hlb)) ⟨by rw [List.length_map, hlen]; simp only [List.size_toArray]; omega, acc.toList, c, by rw [hacc]; exact vals_refs as, by rw [Array.toArray_toList]; exact hl⟩
      obtain ⟨H2, I4, up2, tk2⟩ := L2.DX.takeT (P := fun c vs => ∀ j : Nat, as[j]? = some c → ∃ x y, xs[j]? = some x ∧ ys[j]? = some y ∧ vs = [x, y]) I1 as _ I3 nd fun c hc => by
        have hab := hG.above c hc
        have hb : s1.heap.objs.size ≤ c := by rw [← eN]; exact Nat.le_trans (Nat.le_add_right N (5 + 1)) hab
        refine ⟨hb, by rw [upd_ne (fun z => by rw [z] at hab; exact absurd hab (Nat.not_succ_le_self _))]; exact fr c hb, ?_⟩
        obtain ⟨j, hj⟩ := List.mem_iff_getElem?.mp hc
        obtain ⟨u, v, g1, g2, g3⟩ := hG.pairs j c hj
        rw [List.getElem?_toArray] at g1 g2
        obtain ⟨x, hx, rxu⟩ := L2.DX.pget rx g1
        obtain ⟨y, hy, ryv⟩ := L2.DX.pget ry g2
        refine ⟨[x, y], fun j' hj' => ?_, fun H3 => ⟨by show 2 ≤ sizeLine; decide, [u, v], .cons rxu (.cons ryv .nil), ⟨_, g3, rfl, _, rfl⟩⟩⟩
        have e : j' = j := by
          have := (List.getElem?_inj (List.getElem?_eq_some_iff.mp hj).1 nd).mp (hj.trans hj'.symm)
          exact this.symm
        subst e
        exact ⟨x, y, hx, hy, rfl⟩
      refine ⟨.ref (N + 5), H2, I4, rfl, q H2 (N + 5) as (fun c o e => up2 c o (by rw [upd_ne (ne_of_none e (fr _ hlb))]; exact e)) (by rw [hlen]; simp only [List.size_toArray]; omega) (fun j c hj => ?_) (fr _ hlb) (up2 _ _ upd_same)⟩
      obtain ⟨vs, hP, e⟩ := tk2 c (List.mem_of_getElem? hj)
      obtain ⟨x, y, g1, g2, g3⟩ := hP j hj
      exact ⟨x, y, g1, g2, by rw [e, g3]⟩
  rcases hab with ⟨hqx, hqy⟩ | ⟨hqx, hqy⟩
  · obtain ⟨its, rv, p1, _⟩ := I1.list hqx
    obtain ⟨its2, rv2, p2', _⟩ := I1.list hqy
    refine zip_begins2 (begins_list a its.toArray) (begins_list b its2.toArray) p1.isList p2'.isList fun h' hz hTI hTO h1 h2 hsz hk => ?_
    exact fin rfl rv rv2 (draws_list (A := X.A.in1.in1.in1) hh _ a (Nat.ne_of_lt p1.lt) _) (draws_list (A := X.A.in1.in1.in1) hh _ b (Nat.ne_of_lt (Nat.lt_succ_of_lt p2'.lt)) _) p1.lt p2'.lt hz hTI hTO ⟨⟨_, h1, rfl, rfl⟩, p1.isList.at fun o e => hk _ o e⟩ ⟨⟨_, h2, rfl, rfl⟩, p2'.isList.at fun o e => hk _ o e⟩ hsz hk
  · obtain ⟨its, rv, p1, _⟩ := I1.tuple hqx
    obtain ⟨its2, rv2, p2', _⟩ := I1.tuple hqy
    have la : a < s1.heap.objs.size := let ⟨_, e, _⟩ := p1; Heap.lt_size e
    have lb : b < s1.heap.objs.size := let ⟨_, e, _⟩ := p2'; Heap.lt_size e
    refine zip_begins2 (begins_tuple a its.toArray) (begins_tuple b its2.toArray) p1 p2' fun h' hz hTI hTO h1 h2 hsz hk => ?_
    exact fin rfl rv rv2 (Draws.tuple (A := X.A.in1.in1.in1) hh _ a (Nat.ne_of_lt la) _) (Draws.tuple (A := X.A.in1.in1.in1) hh _ b (Nat.ne_of_lt (Nat.lt_succ_of_lt lb)) _) la lb hz hTI hTO ⟨⟨_, h1, rfl, rfl⟩, (show s1.heap.IsTuple a its.toArray from p1).at fun o e => hk _ o e⟩ ⟨⟨_, h2, rfl, rfl⟩, (show s1.heap.IsTuple b its2.toArray from p2').at fun o e => hk _ o e⟩ hsz hk
end
end Dz
set_option Elab.async false
set_option linter.all false
set_option maxRecDepth 100000
set_option maxHeartbeats 1000000
/-! Dn10: list(zip(..)), list(range(..)), what a call leaves behind trimmed -/
namespace Dn
open PySem PySem.Spec PyProof.Rows L2
theorem RVs.of_get {G : Ctx} {ι : List Addr} {H : Hp} : ∀ {xs : List D} {vs : List V}, xs.length = vs.length → (∀ (i : Nat) (x : D) (v : V), xs[i]? = some x → vs[i]? = some v → RV G ι H x v) → RVs G ι H xs vs
  | [], [], _, _ => .nil
  | [], _ :: _, h, _ => by simp at h
  | _ :: _, [], h, _ => by simp at h
  | x :: xs, v :: vs, h, k => .cons (k 0 x v rfl rfl) (RVs.of_get (by simpa using h) fun i y w h1 h2 => k (i + 1) y w (by simpa using h1) (by simpa using h2))
theorem zipD_len : ∀ (xs ys : List D), (zipD xs ys).length = min xs.length ys.length
  | [], ys => by simp [zipD]
  | x :: xs, [] => by simp [zipD]
  | x :: xs, y :: ys => by
    simp only [zipD, List.length_cons, zipD_len xs ys]
    omega
/-- the heap grows -/
theorem Ext.grow {ι : List Addr} {H H2 : Hp} (h : ∀ c o, H c = some o → H2 c = some o) : Ext ι ι H H2 := ⟨⟨[], by simp, by simp⟩, fun a o _ e => h a o e, fun a xs e => h a _ e, fun a o u e => h a _ e, fun a fs e => h a _ e, fun a e => by
  cases q : H a with
  | none => rfl
  | some o => rw [h a o q] at e; cases e⟩
theorem Rep.grow {G : Ctx} {ι : List Addr} {st : Store} {H H2 : Hp} (r : Rep G ι st H) (h : ∀ c o, H c = some o → H2 c = some o) : Rep G ι st H2 := ⟨r.len, r.nd, fun i c a h1 h2 => by
  have k := r.cell i c a h1 h2
  obtain ⟨o, q⟩ := k.there
  exact k.mono_of (Ext.grow h) (by rw [q, h a o q])⟩
section
variable {X : Cx} {G : Ctx} {W : WX} {e e2 : Expr} {ma : DA} {p p2 pos pos2 : Pos}
def dListZip (m : DA) : DE := fun env st => (m env st).bind fun xs st1 => match xs with
  | [x, y] => if isTupD x == isTupD y then (seq2Of x st1).must fun a st2 => (seq2Of y st2).must fun b st3 => mkLst (zipD a.1 b.1) st3 else .bad
  | _ => .bad
theorem r_listZip (hc : X.calm = true) (hg : Gl X "list") (hm : X.mg "list" = none) (hg2 : Gl X "zip") (hm2 : X.mg "zip" = none) (ha : PA X [e, e2] (sA G W ma)) (hK : X.K = G.K := by rfl)
    (hs2 : starEach [e, e2] X.env = (false, eval e X.env) :: starEach [e2] X.env := by rfl) (hpl2 : (backTo pos2 (starEach [e2] X.env)).any (·.1) = false := by rfl)
    (na : starEach [.Call (.Name "zip" p2) [e, e2] [] pos2] X.env = (false, eval (.Call (.Name "zip" p2) [e, e2] [] pos2) X.env) :: starEach [] X.env := by rfl) :
    PE X (.Call (.Name "list" p) [.Call (.Name "zip" p2) [e, e2] [] pos2] [] pos) (sE G W (dListZip ma)) := (Dz.pe_listZip hc hg hm hg2 hm2 ha hs2 hpl2 na).imp fun σ H Q ⟨ι, st, env, rp, re, q⟩ => by
  refine ⟨ι, st, env, rp, re, okR.bind q fun xs st1 ι1 H1 vs e1 rp1 rvs q1 => ?_⟩
  rw [hK]
  split at q1
  · rename_i x y
    cases rvs with
    | cons r1 rr =>
    cases rr with
    | cons r2 rr =>
    cases rr
    split at q1
    · rename_i hxy
      have hxy : isTupD x = isTupD y := by simpa using hxy
      cases h1 : seq2Of x st1 with
      | bad => rw [h1] at q1; exact q1.elim
      | exc _ _ => rw [h1] at q1; exact q1.elim
      | ok a st2 =>
        rw [h1] at q1
        obtain ⟨e2, A, ev, k1⟩ := seq2_ok rp1 r1 h1
        subst e2
        rw [R.must_ok] at q1
        cases h2 : seq2Of y st2 with
        | bad => rw [h2] at q1; exact q1.elim
        | exc _ _ => rw [h2] at q1; exact q1.elim
        | ok b st3 =>
          rw [h2] at q1
          obtain ⟨e3, B, ew, k2⟩ := seq2_ok rp1 r2 h2
          subst e3 ev ew
          rw [R.must_ok] at q1
          unfold mkLst at q1
          split at q1
          · rename_i hsz
            have fin : ∀ (vs ws : List V), RVs G ι1 H1 a.1 vs → RVs G ι1 H1 b.1 ws → min vs.length ws.length ≤ sizeLine ∧ ∀ (H2 : Hp) (l : Addr) (bs : List Addr), (∀ c o, H1 c = some o → H2 c = some o) → bs.length = min vs.length ws.length →
                (∀ (j : Nat) (c : Addr), bs[j]? = some c → ∃ x y, vs[j]? = some x ∧ ws[j]? = some y ∧ H2 c = some (.tup [x, y])) → H1 l = none → H2 l = some (.lst (bs.map V.ref)) → Q (.ref l) H2 := fun vs ws hv hw => by
              refine ⟨by rw [← hv.length, ← hw.length, ← zipD_len]; exact hsz, fun H2 l bs hg hl hb hn hl2 => ?_⟩
              have ex : Ext ι1 (ι1 ++ [l]) H1 H2 := (Ext.grow hg).adopt hn
              refine q1 (ι1 ++ [l]) H2 (.ref l) ex ((rp1.grow hg).adopt (rp1.free hn) (c := .lst (zipD a.1 b.1)) ⟨_, hl2, RVs.of_get (by rw [List.length_map, hl, zipD_len, hv.length, hw.length]) fun i z v hz hv' => ?_⟩) (.ref (by rw [← rp1.len]; simp))
              obtain ⟨x, y, g1, g2, ez⟩ := zipD_get _ _ _ _ hz
              subst ez
              rw [List.getElem?_map] at hv'
              obtain ⟨c, hc, ec⟩ := Option.map_eq_some_iff.mp hv'
              subst ec
              obtain ⟨u, w, g3, g4, g5⟩ := hb i c hc
              obtain ⟨u', g6, g7⟩ := hv.get g1
              obtain ⟨w', g8, g9⟩ := hw.get g2
              rw [g3] at g6
              rw [g4] at g8
              cases g6
              cases g8
              exact .tup g5 (.cons (g7.mono ex) (.cons (g9.mono ex) .nil))
            rcases k1 with ⟨t1, n, vs, hn, hq, hv, ec⟩ | ⟨t1, vs, hq, hv, ec⟩
            · rcases k2 with ⟨t2, k, ws, hn2, hq2, hv2, ec2⟩ | ⟨t2, ws, hq2, hv2, ec2⟩
              · exact ⟨A, B, vs, ws, rfl, .inl ⟨hq, hq2⟩, (fin vs ws hv hv2).1, (fin vs ws hv hv2).2⟩
              · rw [t1, t2] at hxy; cases hxy
            · rcases k2 with ⟨t2, k, ws, hn2, hq2, hv2, ec2⟩ | ⟨t2, ws, hq2, hv2, ec2⟩
              · rw [t1, t2] at hxy; cases hxy
              · exact ⟨A, B, vs, ws, rfl, .inr ⟨SqT.of hq, SqT.of hq2⟩, (fin vs ws hv hv2).1, (fin vs ws hv hv2).2⟩
          · exact q1.elim
    · exact q1.elim
  · exact q1.elim
/-! ### list(range(n)) -/
def rgOk (a b : Int) : Bool := smallR a && smallR b && decide ((b - a).toNat ≤ 2 ^ 24)
theorem rgOk_ok {a b : Int} (h : rgOk a b = true) : RgOk a b := by
  unfold rgOk at h
  rw [Bool.and_eq_true, Bool.and_eq_true] at h
  obtain ⟨h1, h2⟩ := smallR_ok h.1.1
  obtain ⟨h3, h4⟩ := smallR_ok h.1.2
  exact ⟨h1, h2, h3, h4, of_decide_eq_true h.2⟩
theorem rng_RVs {ι : List Addr} {H : Hp} (a b : Int) : RVs G ι H (rngD a b) (rgV a b) := by
  unfold rngD rgV
  exact RVs.of_get (by simp) fun i x v hx hv => by
    rw [List.getElem?_map] at hx hv
    obtain ⟨k, hk, e1⟩ := Option.map_eq_some_iff.mp hx
    obtain ⟨k', hk', e2⟩ := Option.map_eq_some_iff.mp hv
    rw [hk] at hk'
    cases hk'
    subst e1 e2
    exact .int _
def dListRg (m : DE) : DE := fun env st => (m env st).bind fun x st1 => match x with
  | .int j => if rgOk 0 j then alloc (.lst (rngD 0 j)) st1 else .bad
  | _ => .bad
theorem r_listRg {a : Expr} {m : DE} (hc : X.calm = true) (hg : Gl X "list") (hm : X.mg "list" = none) (hg2 : Gl X "range") (hm2 : X.mg "range" = none) (ha : PE X a (sE G W m)) (na : starEach [a] X.env = (false, eval a X.env) :: starEach [] X.env := by rfl)
    (na2 : starEach [.Call (.Name "range" p2) [a] [] pos2] X.env = (false, eval (.Call (.Name "range" p2) [a] [] pos2) X.env) :: starEach [] X.env := by rfl) :
    PE X (.Call (.Name "list" p) [.Call (.Name "range" p2) [a] [] pos2] [] pos) (sE G W (dListRg m)) := (pe_listRg hc hg hm (prg_1 hg2 hm2 ha na) na2).imp fun σ H Q ⟨ι, st, env, rp, re, q⟩ => by
  refine ⟨ι, st, env, rp, re, okR.bind q fun x st1 ι1 H1 v e1 rp1 rv q1 => ?_⟩
  split at q1
  · rename_i j
    cases rv
    split at q1
    · rename_i h
      refine ⟨j, rfl, rgOk_ok h, fun l hl => ok_alloc (c := .lst (rngD 0 j)) rp1 hl ⟨_, upd_same, rng_RVs 0 j⟩ q1⟩
    · exact q1.elim
  · exact q1.elim
end
end Dn
set_option Elab.async false
set_option linter.all false
set_option maxRecDepth 100000
set_option maxHeartbeats 1000000
/-! Dn11: what a call leaves behind that nobody holds is forgotten -/
namespace Dn
open PySem PySem.Spec PyProof.Rows L2
mutual
def D.lt (n : Nat) : D → Bool
  | .tup xs => D.lts n xs
  | .ref k => decide (k < n)
  | .err _ fs => D.ltf n fs
  | .non => true
  | .bl _ => true
  | .int _ => true
  | .str _ => true
  | .ty _ => true
  | .cl _ => true
  | .scr _ => true
def D.lts (n : Nat) : List D → Bool
  | [] => true
  | x :: xs => D.lt n x && D.lts n xs
def D.ltf (n : Nat) : List (Str × D) → Bool
  | [] => true
  | (_, x) :: xs => D.lt n x && D.ltf n xs
end
@[simp] theorem D.lt_tup (n : Nat) (xs : List D) : D.lt n (.tup xs) = D.lts n xs := by simp [D.lt]
@[simp] theorem D.lt_ref (n k : Nat) : D.lt n (.ref k) = decide (k < n) := by simp [D.lt]
@[simp] theorem D.lt_non (n : Nat) : D.lt n .non = true := by simp [D.lt]
@[simp] theorem D.lt_bl (n : Nat) (b : Bool) : D.lt n (.bl b) = true := by simp [D.lt]
@[simp] theorem D.lt_int (n : Nat) (b : Int) : D.lt n (.int b) = true := by simp [D.lt]
@[simp] theorem D.lt_str (n : Nat) (b : Str) : D.lt n (.str b) = true := by simp [D.lt]
@[simp] theorem D.lt_ty (n : Nat) (b : String) : D.lt n (.ty b) = true := by simp [D.lt]
@[simp] theorem D.lt_cl (n : Nat) (b : Nat) : D.lt n (.cl b) = true := by simp [D.lt]
@[simp] theorem D.lt_scr (n : Nat) (b : List Int) : D.lt n (.scr b) = true := by simp [D.lt]
@[simp] theorem D.lts_nil (n : Nat) : D.lts n [] = true := by simp [D.lts]
@[simp] theorem D.lts_cons (n : Nat) (x : D) (xs : List D) : D.lts n (x :: xs) = (D.lt n x && D.lts n xs) := by simp [D.lts]
theorem D.lts_all (n : Nat) (xs : List D) : D.lts n xs = xs.all (D.lt n) := by
  induction xs with
  | nil => simp
  | cons x xs ih => simp [ih]
theorem D.lts_mem {n : Nat} {xs : List D} : D.lts n xs = true ↔ ∀ x ∈ xs, D.lt n x = true := by rw [D.lts_all, List.all_eq_true]
mutual
theorem D.lt_mono {n m : Nat} (h : n ≤ m) : ∀ {d : D}, D.lt n d = true → D.lt m d = true
  | .tup xs, k => by
    rw [D.lt_tup] at k ⊢
    exact D.lts_mono h k
  | .ref i, k => by
    rw [D.lt_ref] at k ⊢
    have := of_decide_eq_true k
    exact decide_eq_true (by omega)
  | .err _ fs, k => by
    unfold D.lt at k ⊢
    exact D.ltf_mono h k
  | .non, _ => by simp
  | .bl _, _ => by simp
  | .int _, _ => by simp
  | .str _, _ => by simp
  | .ty _, _ => by simp
  | .cl _, _ => by simp
  | .scr _, _ => by simp
theorem D.lts_mono {n m : Nat} (h : n ≤ m) : ∀ {xs : List D}, D.lts n xs = true → D.lts m xs = true
  | [], _ => by simp
  | x :: xs, k => by
    rw [D.lts_cons, Bool.and_eq_true] at k ⊢
    exact ⟨D.lt_mono h k.1, D.lts_mono h k.2⟩
theorem D.ltf_mono {n m : Nat} (h : n ≤ m) : ∀ {xs : List (Str × D)}, D.ltf n xs = true → D.ltf m xs = true
  | [], _ => by simp [D.ltf]
  | (f, x) :: xs, k => by
    unfold D.ltf at k ⊢
    rw [Bool.and_eq_true] at k ⊢
    exact ⟨D.lt_mono h k.1, D.ltf_mono h k.2⟩
end
def kvLt {κ : Type} (n : Nat) (kvs : List (κ × D)) : Bool := kvs.all fun kv => D.lt n kv.2
def Cell.lt (n : Nat) : Cell → Bool
  | .lst xs => D.lts n xs
  | .frz xs => D.lts n xs
  | .dK kvs => kvLt n kvs
  | .dT kvs => kvLt n kvs
  | .ins _ fs => D.ltf n fs
/-- every cell's contents are cells of the store -/
def wf (st : Store) : Prop := ∀ c ∈ st, Cell.lt st.length c = true
section
variable {G : Ctx} {ι ι' : List Addr} {H : Hp} {st : Store}
mutual
theorem RV.lt : ∀ {d : D} {v : V}, RV G ι H d v → D.lt ι.length d = true
  | _, _, .non => by simp
  | _, _, .bl b => by simp
  | _, _, .int i => by simp
  | _, _, .str x => by simp
  | _, _, .tup s r => by
    rw [D.lt_tup]
    exact RVs.lt r
  | _, _, .ty n => by simp
  | _, _, .cl h => by simp
  | _, _, .scr h => by simp
  | _, _, .ref h => by
    rw [D.lt_ref]
    exact decide_eq_true (List.getElem?_eq_some_iff.mp h).1
  | _, _, .err h d r => by
    unfold D.lt
    exact RFs.lt r
theorem RVs.lt : ∀ {xs : List D} {vs : List V}, RVs G ι H xs vs → D.lts ι.length xs = true
  | _, _, .nil => by simp
  | _, _, .cons r t => by
    rw [D.lts_cons, Bool.and_eq_true]
    exact ⟨RV.lt r, RVs.lt t⟩
theorem RFs.lt : ∀ {xs : List (Str × D)} {vs : List (Str × V)}, RFs G ι H xs vs → D.ltf ι.length xs = true
  | _, _, .nil => by simp [D.ltf]
  | _, _, .cons r t => by
    unfold D.ltf
    rw [Bool.and_eq_true]
    exact ⟨RV.lt r, RFs.lt t⟩
end
theorem RKV.lt {κ : Type} {kvs : List (κ × D)} {ws : List (κ × V)} (r : RKV G ι H kvs ws) : kvLt ι.length kvs = true := by
  unfold kvLt
  induction r with
  | nil => rfl
  | cons r _ ih => rw [List.all_cons, Bool.and_eq_true]; exact ⟨r.lt, ih⟩
theorem Rep.wf (r : Rep G ι st H) : wf st := fun c hc => by
  obtain ⟨i, hi, e⟩ := List.getElem_of_mem hc
  have hl : i < ι.length := by rw [r.len]; exact hi
  have k := r.cell i c ι[i] (by rw [← e]; simp [hi]) (by simp [hl])
  rw [← r.len]
  cases c with
  | lst xs => obtain ⟨vs, h1, h2⟩ := k; exact h2.lt
  | frz xs => obtain ⟨q, vs, h1, h2⟩ := k; exact h2.lt
  | dK kvs => obtain ⟨ws, h1, h2⟩ := k; exact h2.lt
  | dT kvs => obtain ⟨ws, h1, h2⟩ := k; exact h2.lt
  | ins q fs => obtain ⟨C, dx, ws, h0, h1, h2⟩ := k; exact h2.lt
mutual
theorem RV.cut {n : Nat} : ∀ {d : D} {v : V}, RV G ι H d v → D.lt n d = true → RV G (ι.take n) H d v
  | _, _, .non, _ => .non
  | _, _, .bl b, _ => .bl b
  | _, _, .int i, _ => .int i
  | _, _, .str x, _ => .str x
  | _, _, .tup s r, h => .tup s (RVs.cut r (by simpa using h))
  | _, _, .ty n, _ => .ty n
  | _, _, .cl h, _ => .cl h
  | _, _, .scr h, _ => .scr h
  | _, _, .ref h, k => .ref (by
    rw [D.lt_ref] at k
    rw [List.getElem?_take_of_lt (of_decide_eq_true k)]
    exact h)
  | _, _, .err h d r, k => .err h d (RFs.cut r (by unfold D.lt at k; exact k))
theorem RVs.cut {n : Nat} : ∀ {xs : List D} {vs : List V}, RVs G ι H xs vs → D.lts n xs = true → RVs G (ι.take n) H xs vs
  | _, _, .nil, _ => .nil
  | _, _, .cons r t, h => by
    rw [D.lts_cons, Bool.and_eq_true] at h
    exact .cons (RV.cut r h.1) (RVs.cut t h.2)
theorem RFs.cut {n : Nat} : ∀ {xs : List (Str × D)} {vs : List (Str × V)}, RFs G ι H xs vs → D.ltf n xs = true → RFs G (ι.take n) H xs vs
  | _, _, .nil, _ => .nil
  | _, _, .cons r t, h => by
    unfold D.ltf at h
    rw [Bool.and_eq_true] at h
    exact .cons (RV.cut r h.1) (RFs.cut t h.2)
end
theorem RKV.cut {κ : Type} {n : Nat} {kvs : List (κ × D)} {ws : List (κ × V)} (r : RKV G ι H kvs ws) (h : kvLt n kvs = true) : RKV G (ι.take n) H kvs ws := by
  unfold kvLt at h
  induction r with
  | nil => exact .nil
  | cons r _ ih =>
    rw [List.all_cons, Bool.and_eq_true] at h
    exact .cons (r.cut h.1) (ih h.2)
theorem Rep.cut {g : Store} (r : Rep G ι (st ++ g) H) (w : Dn.wf st) : Rep G (ι.take st.length) st H := by
  have hl : st.length ≤ ι.length := by rw [r.len]; simp
  refine ⟨by rw [List.length_take]; omega, r.nd.sublist (List.take_sublist _ _), fun i c a h1 h2 => ?_⟩
  have hi : i < st.length := (List.getElem?_eq_some_iff.mp h1).1
  rw [List.getElem?_take_of_lt hi] at h2
  have k := r.cell i c a (by rw [List.getElem?_append_left hi]; exact h1) h2
  have hc := w c (List.mem_of_getElem? h1)
  cases c with
  | lst xs => obtain ⟨vs, h1, h2⟩ := k; exact ⟨vs, h1, h2.cut hc⟩
  | frz xs => obtain ⟨q, vs, h1, h2⟩ := k; exact ⟨q, vs, h1, h2.cut hc⟩
  | dK kvs => obtain ⟨ws, h1, h2⟩ := k; exact ⟨ws, h1, h2.cut hc⟩
  | dT kvs => obtain ⟨ws, h1, h2⟩ := k; exact ⟨ws, h1, h2.cut hc⟩
  | ins q fs => obtain ⟨C, dx, ws, h0, h1, h2⟩ := k; exact ⟨C, dx, ws, h0, h1, h2.cut hc⟩
theorem Ext.cut {H' : Hp} {n : Nat} (e : Ext ι ι' H H') (h : ι.length ≤ n) : Ext ι (ι'.take n) H H' := by
  obtain ⟨m, e1, e2⟩ := e.pre
  refine ⟨⟨m.take (n - ι.length), by rw [e1, List.take_append, List.take_of_length_le h], fun a ha => e2 a (List.mem_of_mem_take ha)⟩, e.keep, e.tup, e.frz, e.xd, e.there⟩
end
/-- r' is r but for cells that nobody holds (n0: the store's length ahead) -/
def Tr (n0 : Nat) (r r' : R D) : Prop := match r' with
  | .bad => True
  | .ok d st' => ∃ g, r = .ok d (st' ++ g) ∧ n0 ≤ st'.length ∧ D.lt st'.length d = true ∧ wf st'
  | .exc x st' => ∃ g, r = .exc x (st' ++ g) ∧ n0 ≤ st'.length ∧ D.ltf st'.length x.fs = true ∧ wf st'
theorem Tr.rfl' {r : R D} {n0 : Nat} (h : ∀ d st, r = .ok d st → n0 ≤ st.length ∧ D.lt st.length d = true ∧ wf st) (h' : ∀ x st, r ≠ .exc x st) : Tr n0 r r := by
  cases r with
  | ok d st =>
    obtain ⟨a, b, c⟩ := h d st rfl
    exact ⟨[], by simp, a, b, c⟩
  | exc x st => exact absurd rfl (h' x st)
  | bad => trivial
theorem okR.trim {G : Ctx} {W : WX} {ι : List Addr} {H : Hp} {σ : L2.St} {Q : VK} {st : Store} {r r' : R D} (rp : Rep G ι st H) (t : Tr st.length r r') (h : okR G W ι H σ (RV G) Q r') : okR G W ι H σ (RV G) Q r := by
  cases r' with
  | bad => exact h.elim
  | ok d st' =>
    obtain ⟨g, e, hn, hd, hw⟩ := t
    subst e
    intro ι' H' v ex r rv
    exact h _ H' v (ex.cut (by rw [rp.len]; exact hn)) (r.cut hw) (rv.cut hd)
  | exc x st' =>
    obtain ⟨g, e, hn, hd, hw⟩ := t
    subst e
    intro ι' H' dd ws ex r hx hf
    exact h _ H' dd ws (ex.cut (by rw [rp.len]; exact hn)) (r.cut hw) hx (hf.cut hd)
theorem fn_trim {P : Program} {w : World} {K : PySem.W.Frag} {mg : Str → Option Value} {base : Heap} {CX : CXT} {k : Nat} {f : Addr} {fd : FuncData} {ps : List Str} {G : Ctx} {m m' : DF} (F : FnOk P w K mg base CX k f fd ps (sF G m))
    (h : ∀ xs st, wf st → D.lts st.length xs = true → Tr st.length (m xs st) (m' xs st)) : FnOk P w K mg base CX k f fd ps (sF G m') :=
  F.imp fun vs H Q E ⟨ι, st, xs, rp, rvs, q⟩ => ⟨ι, st, xs, rp, rvs, okR.trim rp (h xs st rp.wf (by rw [← rp.len]; exact rvs.lt)) q⟩
end Dn
set_option Elab.async false
set_option linter.all false
set_option maxRecDepth 100000
set_option maxHeartbeats 1000000
/-! Dn12: a module's defs -/
namespace Dn
open PySem PySem.Spec PyProof.Rows L2
/-- the def stands, by its name -/
structure Ge (K : PySem.W.Frag) (mg : Str → Option Value) (x : Str) (st : Stmt) : Prop where
  fn : ∃ fd, FunD K x x (defArgs st) (defBody st) (defScope st) [] [] (He.ga K x) fd
  at_ : mg x = some (.ref (He.ga K x))
/-- a def that does m -/
structure Has (P : Program) (w : World) (K : PySem.W.Frag) (mg : Str → Option Value) (base : Heap) (cls : Nat → Value) (k : Nat) (x : Str) (ps : List Str) (m : DF) : Prop where
  ex : ∃ fd, FnOk P w K mg base (L2.CX P w) k (He.ga K x) fd ps (sF ⟨K, cls, none⟩ m) ∧ Binds K fd ps []
  kp : PySem.W.keepIn K (.ref (He.ga K x)) = true
  at_ : mg x = some (.ref (He.ga K x))
section
variable {P : Program} {w : World} {K : PySem.W.Frag} {mg : Str → Option Value} {base : Heap} {cls : Nat → Value} {k : Nat} {x : Str} {ps N : List Str} {st : Stmt} {m m' : DF} {ds : DS}
theorem Has.mono (h : Has P w K mg base cls k x ps m) {j : Nat} (hj : k ≤ j) : Has P w K mg base cls j x ps m := ⟨let ⟨fd, F, b⟩ := h.ex; ⟨fd, F.mono hj, b⟩, h.kp, h.at_⟩
theorem Has.trim (h : Has P w K mg base cls k x ps m) (t : ∀ xs st, wf st → D.lts st.length xs = true → Tr st.length (m xs st) (m' xs st)) : Has P w K mg base cls k x ps m' := ⟨let ⟨fd, F, b⟩ := h.ex; ⟨fd, fn_trim F t, b⟩, h.kp, h.at_⟩
theorem Has.of (g : Ge K mg x st) (S : FnScope N ps (defScope st))
    (hb : ∀ (kV doc pm : Value) (an : Option Addr) (cdv ct : Value) (us : List Value), us.length = ps.length → bindArgs (PySem.W.fnOf x x (defArgs st) (defBody st) (defScope st) .none kV doc pm an cdv ct) ⟨us, []⟩ = pure (ps.zip us))
    (body : ∀ (cdv : Value) (A : Around) (outer : List PySem.Env) (s : Shared) (H : Hp) (E : XK), Room k (A.deeper (envOfC x (defScope st) s.heap.objs.size (He.ga K x) cdv)) →
      PSs (cxOf (L2.CX P w) P w K mg base N x (defScope st) (He.ga K x) cdv A outer s H E) (defBody st) (sS ⟨K, cls, none⟩ (fun c d _ H => E c d H) ds)) :
    Has P w K mg base cls (k + 1) x ps (dDef ps.length N.length ds) := by
  obtain ⟨fd, F⟩ := g.fn
  exact ⟨⟨fd, fn_den F S body, F.bindsN hb⟩, F.kp, g.at_⟩
theorem r_callH {X : Cx} {W : WX} {e : Expr} {es : List Expr} {ma : DA} {p pos : Pos} {cls : Nat → Value} (F : Has X.prog X.w X.K X.mg X.base cls k x ps m) (hr : Room k X.A) (hg : Gl X x) (tk : Takes X W)
    (ha : PA X (e :: es) (sA ⟨X.K, cls, none⟩ W ma)) (hdb : (x == ("__debug__" : Str)) = false := by decide) (he : starEach (e :: es) X.env = (false, eval e X.env) :: starEach es X.env := by rfl) (hpl : (backTo pos (starEach es X.env)).any (·.1) = false := by rfl) :
    PE X (.Call (.Name x p) (e :: es) [] pos) (sE ⟨X.K, cls, none⟩ W (dCall m ma)) := by
  obtain ⟨fd, G, b⟩ := F.ex
  exact r_call G hr hg F.at_ F.kp b tk ha hdb he hpl
end
theorem hu0 {A : Around} {k : Nat} (hr : Room k A) : A.units < cLine := by have := hr.un; omega
theorem hu1 {A : Around} {k : Nat} (hr : Room k A) : A.units + 1 < cLine := by have := hr.un; omega
theorem hu64 {A : Around} {k : Nat} (hr : Room k A) : A.units + 64 < cLine := by have := hr.un; omega
theorem hub {A : Around} {k : Nat} (hr : Room k A) : A.units + 65 < cLine := by have := hr.un; omega
theorem tkW0 {X : Cx} : Takes X W0 := fun u s' ⟨a, B, sI, pins, σ, H, cls, d, e, I, nb, up, sky, na, os, ag, w⟩ => w.elim
/-- a built-in class by its name -/
theorem r_ty {X : Cx} {G : Ctx} {W : WX} {x : Str} {T : String} {p : Pos} (hg : Gl X x) (hm : X.mg x = none) (hv : bootBuiltins x = some (.type T)) (hn : x ≠ "__name__" := by decide) (hd : (x == ("__debug__" : Str)) = false := by decide) : PE X (.Name x p) (sE G W (dC (.ty T))) :=
  r_const (pe_bltn hg hm hv (v := .ty T) rfl hn hd) fun _ _ => .ty T
section
variable {X : Cx} {G : Ctx} {W : WX} {pos : Pos}
abbrev BG (X : Cx) (scope : Scope) (P : Cx → Prop) : Prop := ∀ (s : Shared) (H : Hp) (C : Addr) (cl : List (Str × Addr)) (fp : List Addr), P (X.blk s H scope (compEnvC scope cl C X.env) fp)
theorem r_lcV {elt tg iter : Expr} {ifs : List Expr} {scope : Scope} {own : List (Str × Nat)} {it : DI} {g : DG} {ws vs : List Nat} {tt : DB} {te : DE} (ok : BlkOk X.N X.env.scope scope own) (hc : X.calm = true) (hN : X.N.Nodup) (hi : PI X tg iter (sI G W it))
    (hg : BG X scope fun Y => PG Y tg (sG G ws g)) (ht : BG X scope fun Y => PTs Y ifs (sT G W0 tt)) (he : BG X scope fun Y => PE Y elt (sE G W0 te)) (hv : own.map (·.2) = vs := by rfl) (hws : ∀ i ∈ ws, i ∈ vs := by decide) (hs : ∀ x, foldedSetIterable iter X.env x = pure x := by intro _; rfl) :
    PE X (.ListComp elt [⟨tg, iter, ifs, 0⟩] scope pos) (sE G W (dLc it g tt te vs)) := by
  subst hv
  exact r_lc hws hc hN hi ok hg ht he hs
theorem r_setLcV {i : Nat} {y : Str} {py spos : Pos} {elt tg iter : Expr} {ifs : List Expr} {scope : Scope} {own : List (Str × Nat)} {it : DI} {g : DG} {ws vs : List Nat} {tt : DB} {te : DE} (ok : BlkOk X.N X.env.scope scope own) (hc : X.calm = true) (hN : X.N.Nodup) (hy : X.N[i]? = some y) (hyl : X.env.scope.names.lookup y = some .local)
    (hsw : swapsWith (.ListComp elt [⟨tg, iter, ifs, 0⟩] scope pos) (some (.Name y py)) spos.line X.env = pure true) (hi : PI X tg iter (sI G W it))
    (hg : BG X scope fun Y => PG Y tg (sG G ws g)) (ht : BG X scope fun Y => PTs Y ifs (sT G W0 tt)) (he : BG X scope fun Y => PE Y elt (sE G W0 te)) (hv : own.map (·.2) = vs := by rfl) (hws : ∀ i ∈ ws, i ∈ vs := by decide) (hs : ∀ x, foldedSetIterable iter X.env x = pure x := by intro _; rfl) :
    PS X (.Assign [.Name y py] (.ListComp elt [⟨tg, iter, ifs, 0⟩] scope pos) spos) (sS G W (dAsg (dLc it g tt te vs) (gNm i))) := by
  subst hv
  exact r_setLc hws hc hN hy hyl hsw hi ok hg ht he hs
theorem r_lc2V {elt tg iter tg1 iter1 : Expr} {ifs ifs1 : List Expr} {scope : Scope} {own : List (Str × Nat)} {vs vs1 : List Nat} {it it1 : DI} {g g1 : DG} {ws ws1 : List Nat} {tt tt1 : DB} {te : DE} (ok : BlkOk X.N X.env.scope scope own) (hc : X.calm = true) (hN : X.N.Nodup) (hi : PI X tg iter (sI G W it))
    (hg : BG X scope fun Y => PG Y tg (sG G ws g)) (ht : BG X scope fun Y => PTs Y ifs (sT G W0 tt)) (hi1 : BG X scope fun Y => PI Y tg1 iter1 (sI G W0 it1)) (hg1 : BG X scope fun Y => PG Y tg1 (sG G ws1 g1)) (ht1 : BG X scope fun Y => PTs Y ifs1 (sT G W0 tt1))
    (he : BG X scope fun Y => PE Y elt (sE G W0 te)) (hv : own.map (·.2) = vs := by rfl) (hws : ∀ i ∈ ws, i ∈ vs := by decide) (hws1 : ∀ i ∈ ws1, i ∈ vs1 := by decide) (hv1 : ∀ i ∈ vs1, i ∈ vs := by decide) (hs : ∀ x, foldedSetIterable iter X.env x = pure x := by intro _; rfl) (hs1 : ∀ env x, foldedSetIterable iter1 env x = pure x := by intro _ _; rfl) :
    PE X (.ListComp elt [⟨tg, iter, ifs, 0⟩, ⟨tg1, iter1, ifs1, 0⟩] scope pos) (sE G W (dLc2 it g tt it1 g1 tt1 te vs vs1)) := by
  subst hv
  exact r_lc2 hws hws1 hc hN hi ok hv1 hg ht hi1 hg1 ht1 he hs hs1
theorem r_dcTV {kx vx tg iter : Expr} {ifs : List Expr} {scope : Scope} {own : List (Str × Nat)} {it : DI} {g : DG} {ws vs : List Nat} {tt : DB} {tk tv : DE} (ok : BlkOk X.N X.env.scope scope own) (hun : X.A.units < cLine) (hc : X.calm = true) (hN : X.N.Nodup) (hi : PI X tg iter (sI G W it))
    (hg : BG X scope fun Y => PG Y tg (sG G ws g)) (ht : BG X scope fun Y => PTs Y ifs (sT G W0 tt)) (hk : BG X scope fun Y => PE Y kx (sE G W0 tk)) (he : BG X scope fun Y => PE Y vx (sE G W0 tv)) (hv : own.map (·.2) = vs := by rfl) (hws : ∀ i ∈ ws, i ∈ vs := by decide) (hs : ∀ x, foldedSetIterable iter X.env x = pure x := by intro _; rfl) :
    PE X (.DictComp kx vx [⟨tg, iter, ifs, 0⟩] scope pos) (sE G W (dDcT it g tt tk tv vs)) := by
  subst hv
  exact r_dcT hun hws hc hN hi ok hg ht hk he hs
end
end Dn
set_option Elab.async false
set_option linter.all false
set_option maxRecDepth 100000
set_option maxHeartbeats 4000000
namespace Dn
open PySem PySem.Spec PyProof.Rows L2
/-! ### repr of lists and tuples, for a def that the top calls (the guards are known there) -/
def reprOk (p : PyData) : Bool := p.showable && !p.hasDict && decide (p.depth ≤ 60) && p.leavesShort 13 && decide (p.weight ≤ 2 ^ 20)
def bRepr (xs : List D) (st : Store) : R D := match xs with
  | [.tup ys] => (match toPy st (.tup ys) with
    | some p => if reprOk p then .ok (.str p.shown) st else .bad
    | none => .bad)
  | [.ref n] => (match toPy st (.ref n) with
    | some p => if reprOk p then .ok (.str p.shown) st else .bad
    | none => .bad)
  | _ => .bad
def rRepr (K : PySem.W.Frag) : List V → Hp → VK → Prop := fun xs H Q => ∃ a p, xs = [.ref a] ∧ Dp K H (.ref a) p ∧ reprOk p = true ∧ Q (.str p.shown) H
theorem c_repr {X : Cx} (hg : X.A.guards = some []) (hu : X.A.units + 65 < cLine) : CallR X (.builtin "repr") (rRepr X.K) := by
  intro pins s σ H xs us Q I r h
  obtain ⟨a, p, rfl, hd, hok, q⟩ := h
  obtain ⟨u, rfl, rx⟩ := vals1 r
  obtain ⟨as, rd⟩ := Dp.reads I p (.ref a) u hd rx
  obtain rfl : u = Value.ref a := rx
  simp only [reprOk, Bool.and_eq_true, Bool.not_eq_true', decide_eq_true_eq] at hok
  obtain ⟨⟨⟨⟨h1, h2⟩, h3⟩, h4⟩, h5⟩ := hok
  exact repr_of_reads' rd h1 (PyData.noDict_hsm h2) hg (by omega) (fun _ _ e => e) (fun h' u tk hk => ⟨.str p.shown, H, I.kept hk, ⟨_, rfl⟩, q⟩) (PyData.shown_fits (by decide) (by decide) h4 h5)
theorem f_repr {G : Ctx} : FitsL G (rRepr G.K) bRepr := by
  intro W ι st H σ xs vs Q rp rx q
  unfold bRepr at q
  split at q
  · cases rx with
    | cons r1 r2 =>
      cases r2
      split at q
      · rename_i p hp
        split at q
        · rename_i hk
          have hd := toPy_ok rp r1 hp
          cases r1 with
          | tup hs hr => exact ⟨_, p, rfl, hd, hk, okR.ok q rp (.str _)⟩
        · exact q.elim
      · exact q.elim
  · cases rx with
    | cons r1 r2 =>
      cases r2
      split at q
      · rename_i p hp
        split at q
        · rename_i hk
          have hd := toPy_ok rp r1 hp
          cases r1 with
          | ref hn => exact ⟨_, p, rfl, hd, hk, okR.ok q rp (.str _)⟩
        · exact q.elim
      · exact q.elim
  · exact q.elim
end Dn
set_option Elab.async false
set_option linter.all false
set_option maxRecDepth 100000
set_option maxHeartbeats 4000000
namespace Dn
open PySem PySem.Spec PyProof.Rows L2
/-! ### a def that the top calls: the guards are known -/
structure FnG (P : Program) (w : World) (K : PySem.W.Frag) (mg : Str → Option Value) (base : Heap) (CX : CXT) (k : Nat) (f : Addr) (fd : FuncData) (ps : List Str) (sp : Sp) : Prop where
  run : ∀ (A : Around) (outer : List PySem.Env) (s : Shared) (H : Hp) (args : Args) (us : List Value) (vs : List V) (Q : VK) (E : XK), A.guards = some [] → Room k A → Env0 P w K mg base A outer s H → BindsTo s fd args (ps.zip us) → Vals vs us → sp vs H Q E →
    codeAny (model P w) A (.call (.ref f) args) (CR CX outer P w H s Q E) s
/-- by its body -/
theorem fnG_of {CX : CXT} {P : Program} {w : World} {K : PySem.W.Frag} {mg : Str → Option Value} {base : Heap} {k : Nat} {f : Addr} {x qual : Str} {params : Arguments} {body : List Stmt} {scope : Scope} {dvs : List V} {kws : List (Str × V)} {fd : FuncData} {N ps : List Str} {sp : Sp}
    (F : FunD K x qual params body scope dvs kws f fd) (S : FnScope N ps scope) (len : ∀ vs H Q E, sp vs H Q E → vs.length = ps.length)
    (hbody : ∀ (cdv : Value) (A : Around) (outer : List PySem.Env) (s : Shared) (H : Hp) (vs : List V) (Q : VK) (E : XK), (A.deeper (envOfC qual scope s.heap.objs.size f cdv)).guards = some [] → Room k (A.deeper (envOfC qual scope s.heap.objs.size f cdv)) → sp vs H Q E →
      ∃ t, PSs (cxOf CX P w K mg base N qual scope f cdv A outer s H E) body t ∧ t { nx := fun _ H' => Q .non H', rt := Q } (L2.start N vs) H) : FnG P w K mg base CX (k + 1) f fd ps sp := by
  obtain ⟨oc, od, dV, kV, doc, pm, an, cdv, ct, osl, rfl, lk, hcd, _, _⟩ := F.ex
  refine ⟨fun A outer s H args us vs Q E hg hr e0 hb r hsp => ?_⟩
  have hl := len _ _ _ _ hsp
  have kept : ∀ b o, base.get? b = some o → s.heap.get? b = some o := fun b o e => (e0.bs b o e).1
  have KX : K.In s.heap := e0.mod.kin.keeps kept
  have lim : s.heap.NoLimit := e0.mod.nolimit.keeps kept
  refine codeAny_call_function hr.depth (KX _ _ lk) rfl S.co S.gen rfl (PySem.W.codeRec_of KX hcd) (hb _ _ _ _ ?_)
  refine wpAny_newFunctionEnv_cells S.kind (fun ⟨n, v⟩ hy => (S.par n (List.of_mem_zip hy).1).imp id fun q => ⟨q, PySem.W.cellsFrom_some _ _ _ (.inl q)⟩) fun env he s1 y => ?_
  subst he
  refine ⟨lim.keeps y.toInCall.keep, codeAny_func ?_⟩
  obtain ⟨t, ht, hq⟩ := hbody cdv A outer s H vs Q E hg (hr.deeper _) hsp
  have I : Inv (cxOf CX P w K mg base N qual scope f cdv A outer s H E) [] (L2.start N vs) H s1 := inv_start S hr.hd e0 hl r y
  refine wpAny_mono (ht.run [] s1 (L2.start N vs) H _ I hq) (fun fl s' hs => ?_) fun e s' hs => hs
  cases fl with
  | ret u =>
    obtain ⟨v, σ', H', J, rv, q⟩ := hs
    exact ⟨v, H', J.os, J.bare, J.base, J.hok, rv, q⟩
  | next =>
    obtain ⟨σ', H', J, q⟩ := hs
    exact ⟨.non, H', J.os, J.bare, J.base, J.hok, rfl, q⟩
  | brk =>
    obtain ⟨_, _, _, q⟩ := hs
    exact q.elim
  | cont =>
    obtain ⟨_, _, _, q⟩ := hs
    exact q.elim
/-- the call of the law by the top: H0 is what is tracked ahead of it (the script alone, or nothing) -/
theorem callG_core {P : Program} {w : World} {K : PySem.W.Frag} {mg mb : Str → Option Value} {CX : CXT} {k : Nat} {fa a : Addr} {fd : FuncData} {x : Str} {sp : Sp} {s : Shared} {vs : List Value} {ns : List Int}
    (KX : K.In s.heap) (hns : s.heap.Ns mainGlobals mg) (hb : s.heap.Ns builtinsNs mb) (hbb : ∀ x : Str, x ≠ "__name__" → mb x = bootBuiltins x) (hlim : s.heap.NoLimit) (hg : s.gens = #[])
    (ha : s.heap.get? a = some { cls := .type "list", data := .seq vs.toArray }) (hr : Room k callerA)
    (F : ∀ base : Heap, K.In base → base.Ns mainGlobals mg → FnG P w K mg base CX k fa fd [x] sp) (hbind : ∀ (s : Shared) (u : Value), BindsTo s fd ⟨[u], []⟩ [(x, u)])
    (hsp : ∀ H : Hp, Only H → SqL K H a (ns.map V.int) → sp [.ref a] H (fun v _ => v = .bl true) fun _ _ _ => False)
    (hCX : ∀ H e s', CX [] H s (fun _ _ _ => False) e s' → False)
    {H : Hp} (hO : Only H) (hS : SqL K H a (ns.map V.int)) (hok : HOk P w H s.heap) (hA : ∀ b, H b ≠ none → b = a) (hK : H a ≠ none → K.lookup a = none) :
    codeAny (model P w) callerA (.call (.ref fa) ⟨[.ref a], []⟩) (fun r s' => r = .ok (.ret (.bool true)) ∧ OldK s.heap s'.heap ∧ s'.os = s.os ∧ AllBare s'.gens) s := by
  have free : ∀ b : Addr, b ≠ a → H b = none := fun b hb => Classical.byContradiction fun q => hb (hA b q)
  have ns_of : ∀ {b : Addr} {m : Str → Option Value}, s.heap.Ns b m → (hidT s.heap H).Ns b m := fun {b m} ⟨o, es, ep, e, d, r⟩ => ⟨o, es, ep, hidT_get e (free b fun q => by
    subst q
    rw [ha] at e
    cases e
    exact absurd (show Data.seq vs.toArray _ = Data.dict es ep from d) (by intro z; cases z)), d, r⟩
  have kin : K.In (hidT s.heap H) := fun b o e => hidT_get (KX b o e) (by
    by_cases q : H b = none
    · exact q
    · have hba := hA b q
      subst hba
      rw [hK q] at e
      cases e)
  have lim : (hidT s.heap H).NoLimit := let ⟨mc, h1, h2⟩ := hlim; ⟨mc, ns_of h1, h2⟩
  have e0 : Env0 P w K mg (hidT s.heap H) callerA [] s H := ⟨rfl, ⟨kin, ns_of hns, ⟨mb, ns_of hb, hbb⟩, lim⟩, fun b o e => of_hidT e, Nat.le_of_eq (hidT_size _ _), trivial, fun b z => absurd (show b ∈ ([] : List Addr) from z) (by simp), hok, .of_eq hg⟩
  refine codeAny_mono ((F _ kin (ns_of hns)).run callerA [] s H ⟨[.ref a], []⟩ [.ref a] [.ref a] _ _ rfl hr e0 (hbind s (.ref a)) (.cons rfl .nil) (hsp H hO hS)) fun r s' h => ?_
  match r, h with
  | .error e, h => exact (hCX H e s' h).elim
  | .ok .next, h => exact False.elim h
  | .ok .brk, h => exact False.elim h
  | .ok .cont, h => exact False.elim h
  | .ok (.ret u), ⟨v, H', os, bare, un, hok', r', q⟩ =>
    obtain rfl : v = .bl true := q
    obtain rfl : u = Value.bool true := r'
    refine ⟨rfl, OldK.of_keep fun b o e => ?_, os, bare⟩
    rcases hO b with z | ⟨ob, xs, z⟩
    · exact un.keep b o e z (by intro y; exact absurd (show b ∈ ([] : List Addr) from y) (by simp)) (by simp)
    · obtain ⟨e1, _⟩ := hok b _ z
      obtain ⟨e2, _⟩ := hok' b _ (un.frzs b ob _ z)
      rw [e] at e1
      cases e1
      exact e2
theorem callG {P : Program} {w : World} {K : PySem.W.Frag} {mg mb : Str → Option Value} {CX : CXT} {k : Nat} {fa a : Addr} {fd : FuncData} {x : Str} {sp : Sp} {s : Shared} {vs : List Value} {ns : List Int}
    (KX : K.In s.heap) (hns : s.heap.Ns mainGlobals mg) (hb : s.heap.Ns builtinsNs mb) (hbb : ∀ x : Str, x ≠ "__name__" → mb x = bootBuiltins x) (hlim : s.heap.NoLimit) (hg : s.gens = #[])
    (ha : s.heap.get? a = some { cls := .type "list", data := .seq vs.toArray }) (hi : IntsAre vs ns) (hl : ns.length ≤ sizeLine) (hr : Room k callerA)
    (F : ∀ base : Heap, K.In base → base.Ns mainGlobals mg → FnG P w K mg base CX k fa fd [x] sp) (hbind : ∀ (s : Shared) (u : Value), BindsTo s fd ⟨[u], []⟩ [(x, u)])
    (hsp : ∀ H : Hp, Only H → SqL K H a (ns.map V.int) → sp [.ref a] H (fun v _ => v = .bl true) fun _ _ _ => False)
    (hCX : ∀ H e s', CX [] H s (fun _ _ _ => False) e s' → False) :
    codeAny (model P w) callerA (.call (.ref fa) ⟨[.ref a], []⟩) (fun r s' => r = .ok (.ret (.bool true)) ∧ OldK s.heap s'.heap ∧ s'.os = s.os ∧ AllBare s'.gens) s := by
  have rv := vals_ints hi
  by_cases hk : K.lookup a = none
  · refine callG_core KX hns hb hbb hlim hg ha hr F hbind hsp hCX (H := fun b => if b = a then some (.frz { cls := .type "list", data := .seq vs.toArray } (.lst (ns.map V.int))) else none) (fun b => ?_) (.inl (.inr ⟨{ cls := .type "list", data := .seq vs.toArray }, if_pos rfl⟩)) (fun b u z => ?_) (fun b z => Classical.byContradiction fun hb => z (if_neg hb)) fun _ => hk
    · by_cases hb : b = a
      · exact .inr ⟨_, _, if_pos hb⟩
      · exact .inl (if_neg hb)
    · by_cases hb : b = a
      · subst hb
        have z' := (if_pos rfl).symm.trans z
        cases z'
        exact ⟨ha, by rw [List.length_map]; exact hl, vs, _, rv, ha⟩
      · have z' := (if_neg hb).symm.trans z
        cases z'
  · obtain ⟨o, hk⟩ := Option.ne_none_iff_exists'.mp hk
    have e := KX a o hk
    rw [ha] at e
    cases e
    exact callG_core KX hns hb hbb hlim hg ha hr F hbind hsp hCX (H := fun _ => none) (fun _ => .inl rfl) (.inr ⟨_, vs.toArray, _, hk, rfl, rfl, rfl, by rw [List.size_toArray, hi.length]; exact hl, by simpa using rv⟩) (fun b u z => by cases z) (fun b z => absurd rfl z) fun z => absurd rfl z
/-- a law, by such a def -/
theorem walkG {l : PySem.W.OpenLaw} {n k : Nat} {q : Program} {loose : List Str} {XP : (Str → Option Value) → Heap → Prop} {YP : World → Heap → Prop} {d : DefRec} {x : Str}
    (hn : l.most = some n) (hn2 : n ≤ sizeLine) (hdf : d.params.defaults = []) (hr : Room k callerA)
    (F : ∀ (w : World) (mg : Str → Option Value) (fa : Addr) (h : Heap), YP w h → h.Ns mainGlobals mg → mg d.name = some (.ref fa) →
      ∃ (K : PySem.W.Frag) (fd : FuncData) (sp : Sp), K.In h ∧ (∀ (s : Shared) (u : Value), BindsTo s fd ⟨[u], []⟩ [(x, u)]) ∧
        (∀ (H : Hp) (a : Addr) (ns : List Int), ns.length ≤ n → Only H → SqL K H a (ns.map V.int) → sp [.ref a] H (fun v _ => v = .bl true) fun _ _ _ => False) ∧
        ∀ base : Heap, K.In base → base.Ns mainGlobals mg → FnG l.prog w K mg base (L2.CX l.prog w) k fa fd [x] sp) :
    PySem.W.WalkO q loose XP YP l.row.toRowW d [] (fun f vs => PySem.call f vs) := by
  refine Att.attach_call hn hdf fun w s₀ s₁ mg mb fa o pm cd doc a vs ns G Y ho hd hcd hmg hobj hints hlen hg => ?_
  obtain ⟨K, fd, sp, KX, hb, hsp, hF⟩ := F w mg fa _ Y G.T.g hmg
  exact callG KX G.T.g G.T.b G.T.builtins G.T.nolimit hg hobj hints (Nat.le_trans hlen hn2) hr hF hb (fun H hO hS => hsp H a ns hlen hO hS) fun H e s' ⟨_, _, _, _, _, _, _, _, _, _, _, _, hE⟩ => hE
theorem fnG_den {P : Program} {w : World} {K : PySem.W.Frag} {mg : Str → Option Value} {base : Heap} {x qual : Str} {params : Arguments} {body : List Stmt} {scope : Scope} {dvs : List V} {kws : List (Str × V)} {f : Addr} {fd : FuncData} {N ps : List Str} {k : Nat} {G : Ctx} {m : DS}
    (F : FunD K x qual params body scope dvs kws f fd) (S : FnScope N ps scope)
    (hb : ∀ (cdv : Value) (A : Around) (outer : List PySem.Env) (s : Shared) (H : Hp) (E : XK), (A.deeper (envOfC qual scope s.heap.objs.size f cdv)).guards = some [] → Room k (A.deeper (envOfC qual scope s.heap.objs.size f cdv)) →
      PSs (cxOf (L2.CX P w) P w K mg base N qual scope f cdv A outer s H E) body (sS G (fun c d _ H => E c d H) m)) :
    FnG P w K mg base (L2.CX P w) (k + 1) f fd ps (sF G (dDef ps.length N.length m)) := by
  have len : ∀ vs H Q E, sF G (dDef ps.length N.length m) vs H Q E → vs.length = ps.length := fun vs H Q E ⟨ι, st, xs, rp, rvs, q⟩ => by
    unfold dDef at q
    split at q
    · rename_i h
      rw [← rvs.length, h]
    · exact q.elim
  refine fnG_of F S len fun cdv A outer s H vs Q E hg hr h => ⟨_, hb cdv A outer s H E hg hr, ?_⟩
  have hl := len vs H Q E h
  obtain ⟨ι, st, xs, rp, rvs, q⟩ := h
  unfold dDef at q
  rw [if_pos (by rw [rvs.length, hl])] at q
  refine ⟨ι, st, xs.map some ++ List.replicate (N.length - ps.length) none, rp, ?_, ?_⟩
  · refine ⟨?_, fun i d h => ?_⟩
    · unfold L2.start
      simp [rvs.length, hl]
    · by_cases hi : i < xs.length
      · rw [List.getElem?_append_left (by simpa using hi), List.getElem?_map] at h
        cases e : xs[i]? with
        | none => rw [e] at h; cases h
        | some y =>
          rw [e] at h
          cases h
          obtain ⟨v, h1, h2⟩ := rvs.get e
          refine ⟨v, ?_, h2⟩
          unfold L2.start
          rw [List.getElem?_append_left (by rw [List.length_map, ← rvs.length]; exact hi), List.getElem?_map, h1]
          rfl
      · rw [List.getElem?_append_right (by simpa using hi), List.getElem?_replicate] at h
        split at h <;> cases h
  · cases hm : m (xs.map some ++ List.replicate (N.length - ps.length) none) st with
    | nx env1 st1 =>
      rw [hm] at q
      exact fun ι' H' σ' e r _ => q ι' H' .non e r .non
    | rt d st1 =>
      rw [hm] at q
      exact q
    | ex xx env1 st1 =>
      rw [hm] at q
      exact fun ι' H' σ' dd ws e r _ h1 h2 => q ι' H' dd ws e r h1 h2
    | bk env1 st1 => rw [hm] at q; exact q.elim
    | ct env1 st1 => rw [hm] at q; exact q.elim
    | bad => rw [hm] at q; exact q.elim
/-- the law's def, by its body; then what is asked of it at the top -/
theorem GeG {P : Program} {w : World} {K : PySem.W.Frag} {mg : Str → Option Value} {base : Heap} {cls : Nat → Value} {k : Nat} {x : Str} {ps N : List Str} {st : Stmt} {ds : DS} {fd : FuncData} {f : Addr} (F : FunD K x x (defArgs st) (defBody st) (defScope st) [] [] f fd) (S : FnScope N ps (defScope st))
    (body : ∀ (cdv : Value) (A : Around) (outer : List PySem.Env) (s : Shared) (H : Hp) (E : XK), (A.deeper (envOfC x (defScope st) s.heap.objs.size f cdv)).guards = some [] → Room k (A.deeper (envOfC x (defScope st) s.heap.objs.size f cdv)) →
      PSs (cxOf (L2.CX P w) P w K mg base N x (defScope st) f cdv A outer s H E) (defBody st) (sS ⟨K, cls, none⟩ (fun c d _ H => E c d H) ds)) :
    FnG P w K mg base (L2.CX P w) (k + 1) f fd ps (sF ⟨K, cls, none⟩ (dDef ps.length N.length ds)) := fnG_den F S body
theorem sF_law {G : Ctx} {m : DF} {H : Hp} {a : Addr} {ns : List Int} (hO : Only H) (hS : SqL G.K H a (ns.map V.int)) {st' : Store} (h : m [.scr ns] [] = .ok (.bl true) st') : sF G m [.ref a] H (fun v _ => v = .bl true) fun _ _ _ => False := by
  have hs : ScrL G.K H a ns := by
    rcases hS with (q | ⟨o, q⟩) | q
    · rcases hO a with z | ⟨o, xs, z⟩
      · rw [z] at q; cases q
      · rw [z] at q; cases q
    · exact .inl ⟨o, q⟩
    · exact .inr q
  refine ⟨[], [], [.scr ns], ⟨rfl, List.nodup_nil, fun i c b h => by cases h⟩, .cons (.scr hs) .nil, ?_⟩
  rw [h]
  intro ι' H' v e r rv
  cases rv
  rfl
end Dn
set_option Elab.async false
set_option linter.all false
set_option maxRecDepth 100000
set_option maxHeartbeats 1000000
/-! Dn15: {k: v, ..} with keys that are numbers or texts -/
namespace Dn
open PySem PySem.Spec PyProof.Rows L2
def dPairs : List (DE × DE) → Env → Store → R (List (D × D))
  | [], _, st => .ok [] st
  | (k, v) :: r, env, st => (k env st).bind fun x st1 => (v env st1).bind fun y st2 => (dPairs r env st2).bind fun ps st3 => .ok ((x, y) :: ps) st3
def keyed1 : List (D × D) → Option (List (Key × D))
  | [] => some []
  | (x, y) :: r => (keyOf x).bind fun k => (keyed1 r).map ((k, y) :: ·)
def mergeD (kvs more : List (Key × D)) : List (Key × D) := more.foldl (fun acc kv => putD acc kv.1 kv.2) kvs
def endDisp (n : Nat) (ps : List (D × D)) (st : Store) : R D := match st[n]?, keyed1 ps with
  | some (.dK []), some kvs => if kvs.length ≤ 15 then .ok (.ref n) (st.set n (.dK (mergeD [] kvs))) else .bad
  | _, _ => .bad
def dDisp (ps : List (DE × DE)) : DE := fun env st => (dPairs ps env (st ++ [.dK []])).bind fun kvs st1 => endDisp st.length kvs st1
inductive RPs (G : Ctx) (ι : List Addr) (H : Hp) : List (D × D) → List (V × V) → Prop
  | nil : RPs G ι H [] []
  | cons {x y : D} {v w : V} {xs : List (D × D)} {vs : List (V × V)} : RV G ι H x v → RV G ι H y w → RPs G ι H xs vs → RPs G ι H ((x, y) :: xs) ((v, w) :: vs)
theorem RPs.mono {G : Ctx} {ι ι' : List Addr} {H H' : Hp} (e : Ext ι ι' H H') {xs : List (D × D)} {vs : List (V × V)} (h : RPs G ι H xs vs) : RPs G ι' H' xs vs := by
  induction h with
  | nil => exact .nil
  | cons a b _ ih => exact .cons (a.mono e) (b.mono e) ih
theorem RPs.keyed {G : Ctx} {ι : List Addr} {H : Hp} : ∀ {xs : List (D × D)} {vs : List (V × V)} {kvs : List (Key × D)}, RPs G ι H xs vs → keyed1 xs = some kvs → ∃ ws : List (Key × V), vs = ws.map (fun kv => (kV kv.1, kv.2)) ∧ RKV G ι H kvs ws
  | _, _, _, .nil, e => by simp [keyed1] at e; subst e; exact ⟨[], rfl, .nil⟩
  | _, _, _, .cons a b t, e => by
    simp only [keyed1, Option.bind_eq_some_iff, Option.map_eq_some_iff] at e
    obtain ⟨k, e1, r, e2, e3⟩ := e
    subst e3
    obtain ⟨ws, h1, h2⟩ := RPs.keyed t e2
    exact ⟨(k, _) :: ws, by rw [h1, key_ok a e1]; rfl, .cons b h2⟩
theorem RKV.mergeD {G : Ctx} {ι : List Addr} {H : Hp} : ∀ {more : List (Key × D)} {ms : List (Key × V)} {kvs : List (Key × D)} {ws : List (Key × V)}, RKV G ι H more ms → RKV G ι H kvs ws → RKV G ι H (Dn.mergeD kvs more) (mergeK ws ms)
  | [], _, _, _, .nil, h => h
  | (k, v) :: more, _, kvs, xs, .cons r t, h => by
    have z := RKV.mergeD t (h.put k r)
    exact z
theorem RKV.len {κ : Type} {G : Ctx} {ι : List Addr} {H : Hp} {kvs : List (κ × D)} {ws : List (κ × V)} (r : RKV G ι H kvs ws) : kvs.length = ws.length := by
  induction r with
  | nil => rfl
  | cons _ _ ih => rw [List.length_cons, List.length_cons, ih]
/-- the places of the pairs -/
inductive FitP (X : Cx) (G : Ctx) (W : WX) : List (Option Expr) → List Expr → List (DE × DE) → Prop
  | nil : FitP X G W [] [] []
  | cons {k v : Expr} {mk mv : DE} {ks : List (Option Expr)} {vs : List Expr} {ms : List (DE × DE)} : PE X k (sE G W mk) → PE X v (sE G W mv) → FitP X G W ks vs ms → FitP X G W (some k :: ks) (v :: vs) ((mk, mv) :: ms)
section
variable {X : Cx} {G : Ctx} {W : WX} {pos : Pos}
theorem FitP.pps : ∀ {ks : List (Option Expr)} {vs : List Expr} {ms : List (DE × DE)}, FitP X G W ks vs ms → PPs X pos ks vs (ms.map fun p => (sE G W p.1, sE G W p.2))
  | _, _, _, .nil => pps_nil
  | _, _, _, .cons a b t => pps_cons a b t.pps
theorem FitP.all : ∀ {ks : List (Option Expr)} {vs : List Expr} {ms : List (DE × DE)}, FitP X G W ks vs ms → ks.all (·.isSome) = true ∧ ks.length = vs.length
  | _, _, _, .nil => ⟨rfl, rfl⟩
  | _, _, _, .cons _ _ t => ⟨by simpa using t.all.1, by simp [t.all.2]⟩
theorem pairs_fit {σ : L2.St} : ∀ {ms : List (DE × DE)} {ι : List Addr} {st : Store} {env : Env} {H : Hp} {Q : List (V × V) → Hp → Prop} {f : List (D × D) → Store → R D} {Q' : VK}, Rep G ι st H → REnv G ι H env σ →
    okR G W ι H σ (RV G) Q' ((dPairs ms env st).bind f) → (∀ ps st1 ι1 H1 vs, Ext ι ι1 H H1 → Rep G ι1 st1 H1 → RPs G ι1 H1 ps vs → okR G W ι1 H1 σ (RV G) Q' (f ps st1) → Q vs H1) → tPairs (ms.map fun p => (sE G W p.1, sE G W p.2)) σ H Q
  | [], ι, st, env, H, Q, f, Q', rp, re, q, k => k [] st ι H [] (Ext.refl _ _) rp .nil q
  | (mk, mv) :: ms, ι, st, env, H, Q, f, Q', rp, re, q, k => by
    have e0 : (dPairs ((mk, mv) :: ms) env st).bind f = (mk env st).bind fun x st1 => (mv env st1).bind fun y st2 => (dPairs ms env st2).bind fun ps st3 => f ((x, y) :: ps) st3 := by
      show ((mk env st).bind _).bind f = _
      cases mk env st with
      | ok x st1 =>
        show ((mv env st1).bind _).bind f = _
        cases e : mv env st1 with
        | ok y st2 =>
          show ((dPairs ms env st2).bind _).bind f = (R.ok x st1).bind _
          rw [R.bind_ok, e, R.bind_ok]
          cases dPairs ms env st2 <;> rfl
        | exc z st2 => rw [R.bind_ok, e]; rfl
        | bad => rw [R.bind_ok, e]; rfl
      | exc z st2 => rfl
      | bad => rfl
    rw [e0] at q
    refine ⟨ι, st, env, rp, re, okR.bind q fun x st1 ι1 H1 v e1 rp1 rx q1 => ?_⟩
    refine ⟨ι1, st1, env, rp1, re.mono e1, okR.bind q1 fun y st2 ι2 H2 w e2 rp2 ry q2 => ?_⟩
    refine pairs_fit rp2 ((re.mono e1).mono e2) q2 fun ps st3 ι3 H3 vs e3 rp3 rps q3 => ?_
    exact k _ st3 ι3 H3 _ ((e1.trans e2).trans e3) rp3 (.cons ((rx.mono e2).mono e3) (ry.mono e3) rps) q3
theorem r_disp {ks : List (Option Expr)} {vs : List Expr} {ms : List (DE × DE)} (h : FitP X G W ks vs ms) (h0 : ks ≠ []) (h15 : ks.length ≤ 15) : PE X (.Dict ks vs pos) (sE G W (dDisp ms)) :=
  (pe_disp (pos := pos) h.pps h.all.1 h.all.2 h0 h15).imp fun σ H Q ⟨ι, st, env, rp, re, q⟩ p hp => by
    have rp1 : Rep G (ι ++ [p]) (st ++ [.dK []]) (upd H p (.dK [])) := rp.alloc hp ⟨[], upd_same, .nil⟩
    refine pairs_fit (Q' := Q) (f := fun kvs st1 => endDisp st.length kvs st1) rp1 (re.mono (Ext.push hp)) (okR.mono q (Ext.push hp)) fun ps st1 ι1 H1 ws e1 rp2 rps q1 => ?_
    unfold endDisp at q1
    split at q1
    · rename_i kvs e2 e3
      split at q1
      · rename_i hl
        have hn : ι1[st.length]? = some p := e1.ix (by rw [← rp.len]; simp)
        obtain ⟨u, hu, ru⟩ := rp2.cell _ _ p e2 hn
        cases ru
        obtain ⟨kws, h1, h2⟩ := rps.keyed e3
        refine ⟨hu, kws, h1, by rw [← RKV.len h2]; exact hl, ?_⟩
        have z : RKV G ι1 (upd _ p (.dK (mergeK [] kws))) (mergeD [] kvs) (mergeK [] kws) := RKV.mono (Ext.write hn hu rfl) (RKV.mergeD h2 .nil)
        exact q1 ι1 _ _ (Ext.write hn hu rfl) (rp2.write hn hu rfl ⟨_, upd_same, z⟩) (.ref hn)
      · exact q1.elim
    · exact q1.elim
end
end Dn
set_option Elab.async false
set_option linter.all false
set_option maxRecDepth 100000
set_option maxHeartbeats 4000000
namespace K06
open PySem PySem.Spec L2 Dn
/-! is_whole: 0 thing -/
def den_is_whole : DS := (dRet (dAnd (dCall bIsi (aCons (dVar 0) (aCons (dC (.ty "int")) aNil))) (dNot (dCall bIsi (aCons (dVar 0) (aCons (dC (.ty "bool")) aNil))))))
/-! is_pair: 0 thing -/
def den_is_pair (m_is_whole : DF) : DS := (dRet (dAnd (dCall bIsi (aCons (dVar 0) (aCons (dC (.ty "tuple")) aNil))) (dAnd (dBin vEq (dCall bLen (aCons (dVar 0) aNil)) (dC (.int 2))) (dAnd (dCall m_is_whole (aCons (dBin vIx (dVar 0) (dC (.int 0))) aNil)) (dCall m_is_whole (aCons (dBin vIx (dVar 0) (dC (.int 1))) aNil))))))
/-! has_form: 0 thing, 1 row, 2 pair -/
def den_has_form (m_is_pair : DF) : DS := (dSeq (dIf (dTOr (dTNot (dTest (dCall bIsi (aCons (dVar 0) (aCons (dC (.ty "tuple")) aNil))))) (dTest (dBin vEq (dCall bLen (aCons (dVar 0) aNil)) (dC (.int 0))))) (dRet (dC (.bl false))) dNext) (dSeq (dIf (dTNot (dTest (dCall bAll (aCons (dLc (iVal (dVar 0)) (gNm 1) dYes (dAnd (dCall bIsi (aCons (dVar 1) (aCons (dC (.ty "tuple")) aNil))) (dBin vGt (dCall bLen (aCons (dVar 1) aNil)) (dC (.int 0)))) [1]) aNil)))) (dRet (dC (.bl false))) dNext) (dRet (dCall bAll (aCons (dLc (iVal (dVar 0)) (gNm 1) dYes (dAnd (dBin vEq (dCall bLen (aCons (dVar 1) aNil)) (dCall bLen (aCons (dBin vIx (dVar 0) (dC (.int 0))) aNil))) (dCall bAll (aCons (dLc (iVal (dVar 1)) (gNm 2) dYes (dCall m_is_pair (aCons (dVar 2) aNil)) [2]) aNil))) [1]) aNil)))))
/-! look_gate: 0 gate, 1 met, 2 k, 3 side, 4 mark, 5 row, 6 pair -/
def den_look_gate (m_has_form : DF) : DS := (dSeq (dIf (dTNot (dTest (dCall m_has_form (aCons (dVar 0) aNil)))) dBad dNext) (dSeq (dAsg dNewT (gNm 1)) (dSeq (dFor (iEnumD (aCons (dLc2 (iVal (dVar 0)) (gNm 5) dYes (iVal (dVar 5)) (gNm 6) dYes (dVar 6) [5, 6] [6]) aNil)) (gTp 2 (gsCons (gNm 2) (gsCons (gTp 2 (gsCons (gNm 3) (gsCons (gNm 4) gsNil))) gsNil))) (dSeq (dIf (dTNot (dTest (dChain vLe vLt (dC (.int 0)) (dVar 3) (dCall bLen (aCons (dBin vIx (dVar 0) (dC (.int 0))) aNil))))) dBad dNext) (dSeq (dIf (dTNot (dTest (dChain vLe vLt (dC (.int 0)) (dVar 4) (dCall bLen (aCons (dVar 0) aNil))))) dBad dNext) (dSeq (dIf (dTest (dBin (vIn false) (dTup (aCons (dVar 3) (aCons (dVar 4) aNil))) (dVar 1))) dBad dNext) (dAsg (dC (.bl true)) (gSb (dVar 1) (dTup (aCons (dVar 3) (aCons (dVar 4) aNil))))))))) (dRet (dC (.bl true))))))
/-! sides_of: 0 gate -/
def den_sides_of : DS := (dRet (dCall bLen (aCons (dBin vIx (dVar 0) (dC (.int 0))) aNil)))
/-! marks_of: 0 gate -/
def den_marks_of : DS := (dRet (dCall bLen (aCons (dVar 0) aNil)))
/-! need_side: 0 gate, 1 side -/
def den_need_side (m_sides_of : DF) : DS := (dIf (dTNot (dTest (dChain vLe vLt (dC (.int 0)) (dVar 1) (dCall m_sides_of (aCons (dVar 0) aNil))))) dBad dNext)
/-! need_mark: 0 gate, 1 mark -/
def den_need_mark (m_marks_of : DF) : DS := (dIf (dTNot (dTest (dChain vLe vLt (dC (.int 0)) (dVar 1) (dCall m_marks_of (aCons (dVar 0) aNil))))) dBad dNext)
/-! passed: 0 gate, 1 side, 2 mark -/
def den_passed (m_need_side m_need_mark : DF) : DS := (dSeq (dDrop (dCall m_need_side (aCons (dVar 0) (aCons (dVar 1) aNil)))) (dSeq (dDrop (dCall m_need_mark (aCons (dVar 0) (aCons (dVar 2) aNil)))) (dRet (dBin vIx (dBin vIx (dVar 0) (dVar 2)) (dVar 1)))))
/-! turned_gate: 0 gate, 1 found, 2 mark, 3 row, 4 side, 5 pair -/
def den_turned_gate (m_marks_of m_sides_of : DF) : DS := (dSeq (dAsg dNewT (gNm 1)) (dSeq (dFor (iEnumD (aCons (dVar 0) aNil)) (gTp 2 (gsCons (gNm 2) (gsCons (gNm 3) gsNil))) (dDrop (dMeth "dict" mUpdT (dVar 1) (aCons (dDcT (iEnumD (aCons (dVar 3) aNil)) (gTp 2 (gsCons (gNm 4) (gsCons (gNm 5) gsNil))) dYes (dVar 5) (dTup (aCons (dVar 4) (aCons (dVar 2) aNil))) [4, 5]) aNil)))) (dRet (dCall bTuple (aCons (dLc (iRange1 (aCons (dCall m_marks_of (aCons (dVar 0) aNil)) aNil)) (gNm 2) dYes (dCall bTuple (aCons (dLc (iRange1 (aCons (dCall m_sides_of (aCons (dVar 0) aNil)) aNil)) (gNm 4) dYes (dBin vIx (dVar 1) (dTup (aCons (dVar 4) (aCons (dVar 2) aNil)))) [4]) aNil)) [2]) aNil)))))
/-! beside: 0 one, 1 other, 2 many, 3 sides, 4 rows, 5 mine, 6 row, 7 its, 8 more, 9 first, 10 side, 11 mark -/
def den_beside (m_sides_of m_marks_of : DF) : DS := (dSeq (dAsg (dTup (aCons (dCall m_marks_of (aCons (dVar 1) aNil)) (aCons (dCall m_sides_of (aCons (dVar 0) aNil)) (aCons (dLst aNil) aNil)))) (gTp 3 (gsCons (gNm 2) (gsCons (gNm 3) (gsCons (gNm 4) gsNil))))) (dSeq (dFor (iEnumD (aCons (dVar 0) aNil)) (gTp 2 (gsCons (gNm 5) (gsCons (gNm 6) gsNil))) (dFor (iEnumD (aCons (dVar 1) aNil)) (gTp 2 (gsCons (gNm 7) (gsCons (gNm 8) gsNil))) (dSeq (dAsg (dLc (iVal (dVar 6)) (gTp 2 (gsCons (gNm 10) (gsCons (gNm 11) gsNil))) dYes (dTup (aCons (dVar 10) (aCons (dBin vAdd (dBin vMul (dVar 11) (dVar 2)) (dVar 7)) aNil))) [10, 11]) (gNm 9)) (dDrop (dMeth "list" mAppend (dVar 4) (aCons (dCall bTuple (aCons (dBin vAdd (dVar 9) (dLc (iVal (dVar 8)) (gTp 2 (gsCons (gNm 10) (gsCons (gNm 11) gsNil))) dYes (dTup (aCons (dBin vAdd (dVar 3) (dVar 10)) (aCons (dBin vAdd (dBin vMul (dVar 5) (dVar 2)) (dVar 11)) aNil))) [10, 11])) aNil)) aNil)))))) (dRet (dCall bTuple (aCons (dVar 4) aNil)))))
/-! led_through: 0 gate, 1 side, 2 mark, 3 joint -/
def den_led_through : DS := (dSeq (dAsg (dBin vIx (dBin vIx (dVar 0) (dVar 2)) (dVar 1)) (gTp 2 (gsCons (gNm 1) (gsCons (gNm 2) gsNil)))) (dSeq (dWhile (dTest (dBin (vIn false) (dVar 1) (dVar 3))) (dAsg (dBin vIx (dBin vIx (dVar 0) (dVar 2)) (dBin vIx (dVar 3) (dVar 1))) (gTp 2 (gsCons (gNm 1) (gsCons (gNm 2) gsNil))))) (dRet (dTup (aCons (dVar 1) (aCons (dVar 2) aNil))))))
/-! closed: 0 gate, 1 first, 2 second, 3 joint, 4 stay, 5 rows, 6 mark, 7 ends, 8 side, 9 end -/
def den_closed (m_need_side m_sides_of m_marks_of m_led_through : DF) : DS := (dSeq (dDrop (dCall m_need_side (aCons (dVar 0) (aCons (dVar 1) aNil)))) (dSeq (dDrop (dCall m_need_side (aCons (dVar 0) (aCons (dVar 2) aNil)))) (dSeq (dIf (dTest (dBin vEq (dVar 1) (dVar 2))) dBad dNext) (dSeq (dIf (dTest (dBin vEq (dCall m_sides_of (aCons (dVar 0) aNil)) (dC (.int 2)))) dBad dNext) (dSeq (dAsg (dDisp [((dVar 1), (dVar 2)), ((dVar 2), (dVar 1))]) (gNm 3)) (dSeq (dAsg (dLc (iRange1 (aCons (dCall m_sides_of (aCons (dVar 0) aNil)) aNil)) (gNm 8) (dTest (dBin (vIn true) (dVar 8) (dVar 3))) (dVar 8) [8]) (gNm 4)) (dSeq (dAsg (dLst aNil) (gNm 5)) (dSeq (dFor (iRange1 (aCons (dCall m_marks_of (aCons (dVar 0) aNil)) aNil)) (gNm 6) (dSeq (dAsg (dLc (iVal (dVar 4)) (gNm 8) dYes (dCall m_led_through (aCons (dVar 0) (aCons (dVar 8) (aCons (dVar 6) (aCons (dVar 3) aNil))))) [8]) (gNm 7)) (dDrop (dMeth "list" mAppend (dVar 5) (aCons (dCall bTuple (aCons (dLc (iVal (dVar 7)) (gTp 2 (gsCons (gNm 8) (gsCons (gNm 9) gsNil))) dYes (dTup (aCons (dMeth "list" mIndex (dVar 4) (aCons (dVar 8) aNil)) (aCons (dVar 9) aNil))) [8, 9]) aNil)) aNil))))) (dRet (dCall bTuple (aCons (dVar 5) aNil)))))))))))
/-! _law_box: 0 _law_script, 1 _law_k, 2 _law_cell, 3 _law_seed -/
def den__law_box : DS := (dSeq (dAsg (dBin vAdd (dBin vMul (dC (.int 6421)) (dVar 1)) (dC (.int 37))) (gNm 2)) (dSeq (dIf (dTest (dBin vLt (dVar 1) (dCall bLen (aCons (dVar 0) aNil)))) (dAsg (dBin vIx (dVar 0) (dVar 1)) (gNm 2)) (dIf (dTest (dBin vGt (dCall bLen (aCons (dVar 0) aNil)) (dC (.int 0)))) (dAsg (dBin vAdd (dVar 2) (dBin vMul (dBin vMod (dBin vIx (dVar 0) (dBin vMod (dVar 1) (dCall bLen (aCons (dVar 0) aNil)))) (dC (.int 2147483629))) (dC (.int 69623)))) (gNm 2)) dNext)) (dSeq (dAsg (dBin vAdd (dBin vMod (dBin vAdd (dBin vMul (dBin vMod (dVar 2) (dC (.int 2147483629))) (dC (.int 48271))) (dBin vMul (dC (.int 40692)) (dVar 1))) (dC (.int 2147483629))) (dC (.int 1))) (gNm 3)) (dRet (dLst (aCons (dBin vIx (dLst (aCons (dC (.int 0)) (aCons (dVar 2) aNil))) (dCall bInt (aCons (dBin vGe (dVar 2) (dBin vPow (dC (.int 10)) (dC (.int 18)))) aNil))) (aCons (dVar 3) (aCons (dC (.int 0)) aNil))))))))
/-! _law_take: 0 _law_box_here, 1 _law_many, 2 _law_digit, 3 _law_one -/
def den__law_take : DS := (dSeq (dIf (dTest (dBin vGt (dBin vIx (dVar 0) (dC (.int 0))) (dC (.int 0)))) (dSeq (dAsg (dBin vMod (dBin vIx (dVar 0) (dC (.int 0))) (dVar 1)) (gNm 2)) (dSeq (dAsg (dBin vDiv (dBin vIx (dVar 0) (dC (.int 0))) (dVar 1)) (gSb (dVar 0) (dC (.int 0)))) (dRet (dVar 2)))) dNext) (dSeq (dAsg (dBin vAdd (dBin vIx (dVar 0) (dC (.int 2))) (dC (.int 1))) (gSb (dVar 0) (dC (.int 2)))) (dSeq (dAsg (dBin vMod (dBin vMul (dBin vAdd (dBin vIx (dVar 0) (dC (.int 1))) (dBin vMul (dC (.int 104729)) (dBin vIx (dVar 0) (dC (.int 2))))) (dC (.int 69623))) (dC (.int 2147483647))) (gNm 3)) (dSeq (dAsg (dBin vAdd (dBin vMod (dBin vAdd (dBin vMul (dVar 3) (dC (.int 48271))) (dC (.int 30103))) (dC (.int 2147483629))) (dC (.int 1))) (gSb (dVar 0) (dC (.int 1)))) (dRet (dBin vMod (dBin vDiv (dBin vAdd (dBin vMul (dVar 3) (dC (.int 2147483647))) (dBin vIx (dVar 0) (dC (.int 1)))) (dC (.int 8191))) (dVar 1)))))))
/-! _law_any_gate: 0 _law_box_here, 1 _law_sides, 2 _law_marks, 3 _law_left, 4 _law_found, 5 _law_mark, 6 _law_side -/
def den__law_any_gate (m__law_take : DF) : DS := (dSeq (dAsg (dTup (aCons (dLst aNil) (aCons (dLst aNil) aNil))) (gTp 2 (gsCons (gNm 3) (gsCons (gNm 4) gsNil)))) (dSeq (dFor (iRange1 (aCons (dVar 2) aNil)) (gNm 5) (dDrop (dMeth "list" mExtend (dVar 3) (aCons (dLc (iRange1 (aCons (dVar 1) aNil)) (gNm 6) dYes (dTup (aCons (dVar 6) (aCons (dVar 5) aNil))) [6]) aNil)))) (dSeq (dWhile (dTest (dBin vNe (dVar 3) (dLst aNil))) (dDrop (dMeth "list" mAppend (dVar 4) (aCons (dMeth "list" mPopAt (dVar 3) (aCons (dCall m__law_take (aCons (dVar 0) (aCons (dCall bLen (aCons (dVar 3) aNil)) aNil))) aNil)) aNil)))) (dRet (dCall bTuple (aCons (dLc (iRange1 (aCons (dVar 2) aNil)) (gNm 5) dYes (dCall bTuple (aCons (dSl (dVar 4) (dPart (dBin vMul (dVar 5) (dVar 1))) (dPart (dBin vAdd (dBin vMul (dVar 5) (dVar 1)) (dVar 1)))) aNil)) [5]) aNil))))))
/-! _law_even_gate: 0 _law_box_here, 1 _law_sides, 2 _law_marks, 3 _law_on, 4 _law_more, 5 _law_alone, 6 _law_found, 7 _law_mark, 8 _law_row, 9 _law_side, 10 _law_shown -/
def den__law_even_gate (m__law_take : DF) : DS := (dSeq (dPar [3, 4, 5] (aCons (dCall m__law_take (aCons (dVar 0) (aCons (dVar 1) aNil))) (aCons (dCall m__law_take (aCons (dVar 0) (aCons (dVar 2) aNil))) (aCons (dCall m__law_take (aCons (dVar 0) (aCons (dBin vAdd (dVar 1) (dC (.int 2))) aNil))) aNil)))) (dSeq (dAsg (dLst aNil) (gNm 6)) (dSeq (dFor (iRange1 (aCons (dVar 2) aNil)) (gNm 7) (dSeq (dAsg (dLst aNil) (gNm 8)) (dSeq (dFor (iRange1 (aCons (dVar 1) aNil)) (gNm 9) (dSeq (dAsg (dBin vMod (dBin vAdd (dVar 7) (dBin vIx (dLst (aCons (dVar 4) (aCons (dCall bInt (aCons (dBin vEq (dVar 9) (dVar 5)) aNil)) aNil))) (dCall bInt (aCons (dBin vLt (dVar 5) (dVar 1)) aNil)))) (dVar 2)) (gNm 10)) (dDrop (dMeth "list" mAppend (dVar 8) (aCons (dTup (aCons (dBin vMod (dBin vAdd (dBin vAdd (dVar 9) (dVar 10)) (dVar 3)) (dVar 1)) (aCons (dVar 10) aNil))) aNil))))) (dDrop (dMeth "list" mAppend (dVar 6) (aCons (dCall bTuple (aCons (dVar 8) aNil)) aNil)))))) (dRet (dCall bTuple (aCons (dVar 6) aNil))))))
/-! _law_gate: 0 _law_box_here, 1 _law_sides, 2 _law_marks -/
def den__law_gate (m__law_take m__law_even_gate m__law_any_gate : DF) : DS := (dSeq (dPar [1, 2] (aCons (dBin vAdd (dC (.int 1)) (dCall m__law_take (aCons (dVar 0) (aCons (dVar 1) aNil)))) (aCons (dBin vAdd (dC (.int 1)) (dCall m__law_take (aCons (dVar 0) (aCons (dVar 2) aNil)))) aNil))) (dSeq (dIf (dTest (dBin vEq (dCall m__law_take (aCons (dVar 0) (aCons (dC (.int 3)) aNil))) (dC (.int 0)))) (dRet (dCall m__law_even_gate (aCons (dVar 0) (aCons (dVar 1) (aCons (dVar 2) aNil))))) dNext) (dRet (dCall m__law_any_gate (aCons (dVar 0) (aCons (dVar 1) (aCons (dVar 2) aNil)))))))
/-! _law_pairs: 0 _law_box_here, 1 _law_sides, 2 _law_left, 3 _law_found, 4 _law_turn -/
def den__law_pairs (m__law_take : DF) : DS := (dSeq (dPar [2, 3] (aCons (dListRg (dVar 1)) (aCons (dLst aNil) aNil))) (dSeq (dFor (iRange1 (aCons (dC (.int 4)) aNil)) (gNm 4) (dDrop (dMeth "list" mAppend (dVar 3) (aCons (dMeth "list" mPopAt (dVar 2) (aCons (dCall m__law_take (aCons (dVar 0) (aCons (dCall bLen (aCons (dVar 2) aNil)) aNil))) aNil)) aNil)))) (dRet (dTup (aCons (dTup (aCons (dBin vIx (dVar 3) (dC (.int 0))) (aCons (dBin vIx (dVar 3) (dC (.int 1))) aNil))) (aCons (dTup (aCons (dBin vIx (dVar 3) (dC (.int 2))) (aCons (dBin vIx (dVar 3) (dC (.int 3))) aNil))) aNil))))))
/-! _law_behind: 0 _law_side, 1 _law_pair -/
def den__law_behind : DS := (dRet (dBin vSub (dBin vSub (dVar 0) (dCall bInt (aCons (dBin vLt (dBin vIx (dVar 1) (dC (.int 0))) (dVar 0)) aNil))) (dCall bInt (aCons (dBin vLt (dBin vIx (dVar 1) (dC (.int 1))) (dVar 0)) aNil))))
/-! _law_twice: 0 _law_gate_here, 1 _law_first, 2 _law_second, 3 _law_once -/
def den__law_twice (m_closed m__law_behind : DF) : DS := (dSeq (dAsg (dCall m_closed (aCons (dVar 0) (aCons (dBin vIx (dVar 1) (dC (.int 0))) (aCons (dBin vIx (dVar 1) (dC (.int 1))) aNil)))) (gNm 3)) (dRet (dCall m_closed (aCons (dVar 3) (aCons (dCall m__law_behind (aCons (dBin vIx (dVar 2) (dC (.int 0))) (aCons (dVar 1) aNil))) (aCons (dCall m__law_behind (aCons (dBin vIx (dVar 2) (dC (.int 1))) (aCons (dVar 1) aNil))) aNil))))))
/-! _law_row_right: 0 _law_box_here, 1 _law_gate_here, 2 _law_about, 3 _law_mark, 4 _law_rows, 5 _law_begun, 6 _law_turn, 7 _law_side, 8 _law_out, 9 _law_back -/
def den__law_row_right (m__law_take m_marks_of m_turned_gate m_sides_of m_passed : DF) : DS := (dSeq (dPar [2, 3, 4] (aCons (dCall m_turned_gate (aCons (dVar 1) aNil)) (aCons (dCall m__law_take (aCons (dVar 0) (aCons (dCall m_marks_of (aCons (dVar 1) aNil)) aNil))) (aCons (dLst aNil) aNil)))) (dSeq (dAsg (dVar 3) (gNm 5)) (dSeq (dFor (iRange1 (aCons (dC (.int 20)) aNil)) (gNm 6) (dSeq (dAsg (dCall m__law_take (aCons (dVar 0) (aCons (dCall m_sides_of (aCons (dVar 1) aNil)) aNil))) (gNm 7)) (dSeq (dAsg (dCall m_passed (aCons (dVar 1) (aCons (dVar 7) (aCons (dVar 3) aNil)))) (gTp 2 (gsCons (gNm 8) (gsCons (gNm 3) gsNil)))) (dDrop (dMeth "list" mAppend (dVar 4) (aCons (dTup (aCons (dVar 7) (aCons (dVar 8) aNil))) aNil)))))) (dSeq (dFor (iVal (dUn vRev (dVar 4))) (gTp 2 (gsCons (gNm 7) (gsCons (gNm 8) gsNil))) (dSeq (dAsg (dCall m_passed (aCons (dVar 2) (aCons (dVar 8) (aCons (dVar 3) aNil)))) (gTp 2 (gsCons (gNm 9) (gsCons (gNm 3) gsNil)))) (dIf (dTest (dBin vNe (dVar 9) (dVar 7))) (dRet (dC (.bl false))) dNext))) (dRet (dBin vEq (dVar 3) (dVar 5)))))))
/-! law: 0 _law_script, 1 _law_k, 2 _law_box_here, 3 _law_sides, 4 _law_more, 5 _law_gate_here, 6 _law_small, 7 _law_first, 8 _law_second, 9 _law_both, 10 _law_once, 11 _law_ahead -/
def den_law (m__law_box m__law_gate m__law_take m__law_any_gate m_beside m__law_even_gate m__law_pairs m__law_twice m_look_gate m_closed m_turned_gate m_sides_of m__law_row_right : DF) : DS := (dSeq (dFor (iRange1 (aCons (dCall bMax (aCons (dC (.int 2)) (aCons (dCall bMin (aCons (dC (.int 4)) (aCons (dCall bLen (aCons (dVar 0) aNil)) aNil))) aNil))) aNil)) (gNm 1) (dSeq (dAsg (dCall m__law_box (aCons (dVar 0) (aCons (dVar 1) aNil))) (gNm 2)) (dSeq (dPar [3, 4] (aCons (dBin vAdd (dC (.int 5)) (dCall m__law_take (aCons (dVar 2) (aCons (dC (.int 2)) aNil)))) (aCons (dCall m__law_gate (aCons (dVar 2) (aCons (dC (.int 3)) (aCons (dC (.int 3)) aNil)))) aNil))) (dSeq (dAsg (dCall m__law_any_gate (aCons (dVar 2) (aCons (dVar 3) (aCons (dBin vAdd (dC (.int 1)) (dCall m__law_take (aCons (dVar 2) (aCons (dC (.int 8)) aNil)))) aNil)))) (gNm 5)) (dSeq (dIf (dTest (dBin vEq (dCall m__law_take (aCons (dVar 2) (aCons (dC (.int 2)) aNil))) (dC (.int 0)))) (dSeq (dAsg (dCall m__law_any_gate (aCons (dVar 2) (aCons (dBin vSub (dVar 3) (dC (.int 3))) (aCons (dBin vAdd (dC (.int 1)) (dCall m__law_take (aCons (dVar 2) (aCons (dC (.int 4)) aNil)))) aNil)))) (gNm 6)) (dAsg (dCall m_beside (aCons (dCall m__law_any_gate (aCons (dVar 2) (aCons (dC (.int 3)) (aCons (dBin vAdd (dC (.int 1)) (dCall m__law_take (aCons (dVar 2) (aCons (dC (.int 4)) aNil)))) aNil)))) (aCons (dVar 6) aNil))) (gNm 5))) (dIf (dTest (dBin vEq (dCall m__law_take (aCons (dVar 2) (aCons (dC (.int 3)) aNil))) (dC (.int 0)))) (dAsg (dCall m__law_even_gate (aCons (dVar 2) (aCons (dVar 3) (aCons (dBin vAdd (dC (.int 1)) (dCall m__law_take (aCons (dVar 2) (aCons (dC (.int 8)) aNil)))) aNil)))) (gNm 5)) dNext)) (dSeq (dAsg (dCall m__law_pairs (aCons (dVar 2) (aCons (dVar 3) aNil))) (gTp 2 (gsCons (gNm 7) (gsCons (gNm 8) gsNil)))) (dSeq (dAsg (dCall m__law_twice (aCons (dVar 5) (aCons (dVar 7) (aCons (dVar 8) aNil)))) (gNm 9)) (dSeq (dIf (dTOr (dTest (dBin vNe (dCall m__law_twice (aCons (dVar 5) (aCons (dVar 8) (aCons (dVar 7) aNil)))) (dVar 9))) (dTest (dBin vIsNot (dCall m_look_gate (aCons (dVar 9) aNil)) (dC (.bl true))))) (dRet (dC (.bl false))) dNext) (dSeq (dAsg (dCall m_closed (aCons (dVar 5) (aCons (dBin vIx (dVar 7) (dC (.int 0))) (aCons (dBin vIx (dVar 7) (dC (.int 1))) aNil)))) (gNm 10)) (dSeq (dIf (dTest (dBin vNe (dCall m_closed (aCons (dCall m_turned_gate (aCons (dVar 5) aNil)) (aCons (dBin vIx (dVar 7) (dC (.int 0))) (aCons (dBin vIx (dVar 7) (dC (.int 1))) aNil)))) (dCall m_turned_gate (aCons (dVar 10) aNil)))) (dRet (dC (.bl false))) dNext) (dSeq (dIf (dTest (dBin vNe (dCall m_closed (aCons (dCall m_beside (aCons (dVar 5) (aCons (dVar 4) aNil))) (aCons (dBin vIx (dVar 7) (dC (.int 0))) (aCons (dBin vIx (dVar 7) (dC (.int 1))) aNil)))) (dCall m_beside (aCons (dVar 10) (aCons (dVar 4) aNil))))) (dRet (dC (.bl false))) dNext) (dSeq (dAsg (dCall m_sides_of (aCons (dVar 4) aNil)) (gNm 11)) (dSeq (dIf (dTest (dBin vNe (dCall m_closed (aCons (dCall m_beside (aCons (dVar 4) (aCons (dVar 5) aNil))) (aCons (dBin vAdd (dVar 11) (dBin vIx (dVar 7) (dC (.int 0)))) (aCons (dBin vAdd (dVar 11) (dBin vIx (dVar 7) (dC (.int 1)))) aNil)))) (dCall m_beside (aCons (dVar 4) (aCons (dVar 10) aNil))))) (dRet (dC (.bl false))) dNext) (dIf (dTOr (dTNot (dTest (dCall m__law_row_right (aCons (dVar 2) (aCons (dVar 10) aNil))))) (dTNot (dTest (dCall m__law_row_right (aCons (dVar 2) (aCons (dVar 5) aNil)))))) (dRet (dC (.bl false))) dNext)))))))))))))) (dRet (dC (.bl true))))
end K06
set_option Elab.async false
set_option linter.all false
set_option maxRecDepth 100000
set_option maxHeartbeats 1000000
/-! Pn1: what a drawn digit is -/
namespace Pn
open PySem PySem.Spec L2 Dn
/-! ### how denotations are run -/
theorem dDef_rt {n N : Nat} {m : DS} {xs : List D} {st st' : Store} {d : D} {env : Dn.Env} (hl : xs.length = n) (he : xs.map some ++ List.replicate (N - n) none = env) (h : m env st = .rt d st') : dDef n N m xs st = .ok d st' := by
  unfold dDef
  rw [if_pos hl, he, h]
theorem dDef_nx {n N : Nat} {m : DS} {xs : List D} {st st' : Store} {env env' : Dn.Env} (hl : xs.length = n) (he : xs.map some ++ List.replicate (N - n) none = env) (h : m env st = .nx env' st') : dDef n N m xs st = .ok .non st' := by
  unfold dDef
  rw [if_pos hl, he, h]
theorem dDef_ex {n N : Nat} {m : DS} {xs : List D} {st st' : Store} {x : Xc} {env env' : Dn.Env} (hl : xs.length = n) (he : xs.map some ++ List.replicate (N - n) none = env) (h : m env st = .ex x env' st') : dDef n N m xs st = .exc x st' := by
  unfold dDef
  rw [if_pos hl, he, h]
theorem dSeq_nx {m m' : DS} {env env1 : Dn.Env} {st st1 : Store} (h : m env st = .nx env1 st1) : dSeq m m' env st = m' env1 st1 := by unfold dSeq; rw [h]
section
variable {env env1 : Dn.Env} {st st1 : Store} {d x y : D} {m ma mb : DE} {n : Nat}
@[simp] theorem e_C : dC d env st = .ok d st := rfl
@[simp] theorem e_V0 {e : Dn.Env} : dVar 0 (some x :: e) st = .ok x st := rfl
@[simp] theorem e_VS {o : Option D} {i : Nat} {e : Dn.Env} : dVar (i + 1) (o :: e) st = dVar i e st := rfl
@[simp] theorem e_Bin {f : D → D → Store → R D} : dBin f ma mb env st = (ma env st).bind fun x st1 => (mb env st1).bind fun y st2 => f x y st2 := rfl
@[simp] theorem e_Un {f : D → Store → R D} : dUn f ma env st = (ma env st).bind f := rfl
@[simp] theorem e_Test : dTest m env st = (m env st).bind fun x st1 => match x with
  | .bl b => .ok b st1
  | _ => .bad := rfl
@[simp] theorem e_anil : aNil env st = .ok [] st := rfl
@[simp] theorem e_acons {mr : DA} : aCons m mr env st = (m env st).bind fun x st1 => (mr env st1).bind fun xs st2 => .ok (x :: xs) st2 := rfl
@[simp] theorem e_call {f : List D → Store → R D} {a : DA} : dCall f a env st = (a env st).bind f := rfl
@[simp] theorem e_seq {a b : DS} : dSeq a b env st = match a env st with
  | .nx env1 st1 => b env1 st1
  | r => r := rfl
@[simp] theorem e_if {n : DB} {a b : DS} : dIf n a b env st = (n env st).toS env fun k st1 => if k then a env st1 else b env st1 := rfl
@[simp] theorem e_next : dNext env st = .nx env st := rfl
@[simp] theorem e_ret : dRet m env st = (m env st).toS env fun d st1 => .rt d st1 := rfl
@[simp] theorem e_drop : dDrop m env st = (m env st).toS env fun _ st1 => .nx env st1 := rfl
@[simp] theorem e_asg {g : DG} : dAsg m g env st = (m env st).toS env fun d st1 => match g d env st1 with
  | .ok env2 st2 => .nx env2 st2
  | _ => .bad := rfl
@[simp] theorem e_gnm {i : Nat} : gNm i d env st = .ok (env.set i (some d)) st := rfl
@[simp] theorem e_gsb {mo mi : DE} : gSb mo mi d env st = (mo env st).bind fun o st1 => (mi env st1).bind fun i st2 => (vSet o i d st2).bind fun _ st3 => .ok env st3 := rfl
@[simp] theorem e_tup {a : DA} : dTup a env st = (a env st).bind mkTup := rfl
@[simp] theorem e_lst {a : DA} : dLst a env st = (a env st).bind mkLst := rfl
@[simp] theorem e_mod {i j : Int} (h : 0 < j) : vMod (.int i) (.int j) st = .ok (.int (i % j)) st := if_pos h
@[simp] theorem e_div {i j : Int} (h : 0 < j) (h2 : j < 1073741824) : vDiv (.int i) (.int j) st = .ok (.int (i / j)) st := if_pos ⟨h, h2⟩
@[simp] theorem e_add {i j : Int} : vAdd (.int i) (.int j) st = .ok (.int (i + j)) st := rfl
@[simp] theorem e_sub {i j : Int} : vSub (.int i) (.int j) st = .ok (.int (i - j)) st := rfl
@[simp] theorem e_cmp {p : Int → Int → Bool} {i j : Int} : vCmp p (.int i) (.int j) st = .ok (.bl (p i j)) st := rfl
theorem e_mulR {i j : Int} (h : small64 j = true) : vMul (.int i) (.int j) st = .ok (.int (i * j)) st := by
  show (if (small64 i || small64 j) = true then R.ok (D.int (i * j)) st else R.bad) = _
  rw [h, Bool.or_true, if_pos rfl]
theorem e_mulL {i j : Int} (h : small64 i = true) : vMul (.int i) (.int j) st = .ok (.int (i * j)) st := by
  show (if (small64 i || small64 j) = true then R.ok (D.int (i * j)) st else R.bad) = _
  rw [h, Bool.true_or, if_pos rfl]
theorem e_ixL {xs : List D} {i : Int} {j : Nat} (h : st[n]? = some (.lst xs)) (hi : ixN xs.length i = some j) (hx : xs[j]? = some x) : vIx (.ref n) (.int i) st = .ok x st := by
  simp only [vIx, h, ixD, atI, hi, Option.bind_some, hx]
theorem e_ixT {xs : List D} {i : Int} {j : Nat} (hi : ixN xs.length i = some j) (hx : xs[j]? = some x) : vIx (.tup xs) (.int i) st = .ok x st := by
  show ixD xs i st = _
  unfold ixD atI
  rw [hi, Option.bind_some, hx]
theorem e_setL {xs : List D} {i : Int} {j : Nat} (h : st[n]? = some (.lst xs)) (hi : ixN xs.length i = some j) : vSet (.ref n) (.int i) x st = .ok () (st.set n (.lst (xs.set j x))) := by
  simp only [vSet, h, hi]
end
def pTake : DS := (dSeq (dIf (dTest (dBin vGt (dBin vIx (dVar 0) (dC (.int 0))) (dC (.int 0)))) (dSeq (dAsg (dBin vMod (dBin vIx (dVar 0) (dC (.int 0))) (dVar 1)) (gNm 2)) (dSeq (dAsg (dBin vDiv (dBin vIx (dVar 0) (dC (.int 0))) (dVar 1)) (gSb (dVar 0) (dC (.int 0)))) (dRet (dVar 2)))) dNext) (dSeq (dAsg (dBin vAdd (dBin vIx (dVar 0) (dC (.int 2))) (dC (.int 1))) (gSb (dVar 0) (dC (.int 2)))) (dSeq (dAsg (dBin vMod (dBin vMul (dBin vAdd (dBin vIx (dVar 0) (dC (.int 1))) (dBin vMul (dC (.int 104729)) (dBin vIx (dVar 0) (dC (.int 2))))) (dC (.int 69623))) (dC (.int 2147483647))) (gNm 3)) (dSeq (dAsg (dBin vAdd (dBin vMod (dBin vAdd (dBin vMul (dVar 3) (dC (.int 48271))) (dC (.int 30103))) (dC (.int 2147483629))) (dC (.int 1))) (gSb (dVar 0) (dC (.int 1)))) (dRet (dBin vMod (dBin vDiv (dBin vAdd (dBin vMul (dVar 3) (dC (.int 2147483647))) (dBin vIx (dVar 0) (dC (.int 1)))) (dC (.int 8191))) (dVar 1)))))))
/-- the cell of a box -/
def boxC (v s c : Int) : Cell := .lst [.int v, .int s, .int c]
def one (s c : Int) : Int := (s + 104729 * (c + 1)) * 69623 % 2147483647
def seed (s c : Int) : Int := (one s c * 48271 + 30103) % 2147483629 + 1
def digit (v s c m : Int) : Int := if 0 < v then v % m else (one s c * 2147483647 + seed s c) / 8191 % m
def boxV (v m : Int) : Int := if 0 < v then v / m else v
def boxS (v s c : Int) : Int := if 0 < v then s else seed s c
def boxN (v c : Int) : Int := if 0 < v then c else c + 1
theorem digit_lt (v s c : Int) {m : Int} (h : 0 < m) : 0 ≤ digit v s c m ∧ digit v s c m < m := by
  unfold digit
  split
  · exact ⟨Int.emod_nonneg _ (by omega), Int.emod_lt_of_pos _ h⟩
  · exact ⟨Int.emod_nonneg _ (by omega), Int.emod_lt_of_pos _ h⟩
def mTake (xs : List D) (st : Store) : R D := match xs with
  | [.ref n, .int m] => (match st[n]? with
    | some (.lst [.int v, .int s, .int c]) => if 0 < m ∧ m < 1073741824 then .ok (.int (digit v s c m)) (st.set n (boxC (boxV v m) (boxS v s c) (boxN v c))) else .bad
    | _ => .bad)
  | _ => .bad
theorem set_wf {st : Store} (h : wf st) {n : Nat} {c : Cell} (hc : c.lt st.length = true) : wf (st.set n c) := fun c' hc' => by
  rw [List.length_set]
  rcases List.mem_or_eq_of_mem_set hc' with q | q
  · exact h c' q
  · rw [q]; exact hc
theorem take_run {st : Store} {n : Nat} {v s c m : Int} (h : st[n]? = some (boxC v s c)) (h1 : 0 < m) (h2 : m < 1073741824) :
    dDef 2 4 pTake [.ref n, .int m] st = .ok (.int (digit v s c m)) (st.set n (boxC (boxV v m) (boxS v s c) (boxN v c))) := by
  have hl : n < st.length := (List.getElem?_eq_some_iff.mp h).1
  have h' : st[n]? = some (.lst [.int v, .int s, .int c]) := h
  have g0 : ∀ {a b c' : D} {S : Store}, S[n]? = some (.lst [a, b, c']) → vIx (.ref n) (.int 0) S = .ok a S := fun e => e_ixL (j := 0) e rfl rfl
  have g1 : ∀ {a b c' : D} {S : Store}, S[n]? = some (.lst [a, b, c']) → vIx (.ref n) (.int 1) S = .ok b S := fun e => e_ixL (j := 1) e rfl rfl
  have g2 : ∀ {a b c' : D} {S : Store}, S[n]? = some (.lst [a, b, c']) → vIx (.ref n) (.int 2) S = .ok c' S := fun e => e_ixL (j := 2) e rfl rfl
  have s0 : ∀ {a b c' x : D} {S : Store}, S[n]? = some (.lst [a, b, c']) → vSet (.ref n) (.int 0) x S = .ok () (S.set n (.lst [x, b, c'])) := fun e => e_setL (j := 0) e rfl
  have s1 : ∀ {a b c' x : D} {S : Store}, S[n]? = some (.lst [a, b, c']) → vSet (.ref n) (.int 1) x S = .ok () (S.set n (.lst [a, x, c'])) := fun e => e_setL (j := 1) e rfl
  have s2 : ∀ {a b c' x : D} {S : Store}, S[n]? = some (.lst [a, b, c']) → vSet (.ref n) (.int 2) x S = .ok () (S.set n (.lst [a, b, x])) := fun e => e_setL (j := 2) e rfl
  by_cases hv : 0 < v
  · simp [dDef, pTake, g0 h', hv, h1, h2, s0 h', digit, boxV, boxS, boxN, boxC]
  · have hs : ∀ {x : Cell}, (st.set n x)[n]? = some x := List.getElem?_set_self hl
    have q1 : ∀ {a b c' : D}, vIx (.ref n) (.int 1) (st.set n (.lst [a, b, c'])) = .ok b (st.set n (.lst [a, b, c'])) := g1 hs
    have q2 : ∀ {a b c' : D}, vIx (.ref n) (.int 2) (st.set n (.lst [a, b, c'])) = .ok c' (st.set n (.lst [a, b, c'])) := g2 hs
    have r1 : ∀ {a b c' x : D}, vSet (.ref n) (.int 1) x (st.set n (.lst [a, b, c'])) = .ok () (st.set n (.lst [a, x, c'])) := fun {a b c' x} => by rw [s1 hs, List.set_set]
    have k1 : small64 104729 = true := by decide
    have k2 : small64 69623 = true := by decide
    have k3 : small64 48271 = true := by decide
    have k4 : small64 2147483647 = true := by decide
    simp [dDef, pTake, g0 h', hv, h1, h2, g2 h', s2 h', q1, q2, r1, digit, boxV, boxS, boxN, boxC, e_mulL k1, e_mulR k2, e_mulR k3, e_mulR k4, one, seed]
theorem boxC_lt (v s c : Int) (n : Nat) : (boxC v s c).lt n = true := by simp [boxC, Cell.lt]
theorem take_tr (xs : List D) (st : Store) (hw : wf st) (_ : D.lts st.length xs = true) : Tr st.length (dDef 2 4 pTake xs st) (mTake xs st) := by
  unfold mTake
  split
  · rename_i n m
    split
    · rename_i v s c h
      split
      · rename_i hm
        exact ⟨[], by rw [List.append_nil]; exact take_run h hm.1 hm.2, by simp, by simp, set_wf hw (boxC_lt _ _ _ _)⟩
      · trivial
    · trivial
  · trivial
end Pn
set_option Elab.async false
set_option linter.all false
set_option maxRecDepth 100000
set_option maxHeartbeats 1000000
/-! Pn2: loops, trimmed calls, pure data -/
namespace Pn
open PySem PySem.Spec L2 Dn
/-! ### a call, trimmed -/
/-- the cells ahead stand as they stood, or hold cells ahead alone -/
def Same (st st' : Store) : Prop := ∀ i c, i < st.length → st'[i]? = some c → st[i]? = some c ∨ Cell.lt st.length c = true
theorem Same.refl (st g : Store) : Same st (st ++ g) := fun i c hi h => .inl (by rw [List.getElem?_append_left hi] at h; exact h)
theorem Same.set {st : Store} {n : Nat} {c : Cell} (g : Store) (h : c.lt st.length = true) : Same st (st.set n c ++ g) := fun i c' hi h' => by
  rw [List.getElem?_append_left (by simpa using hi)] at h'
  by_cases e : n = i
  · subst e
    rw [List.getElem?_set_self hi] at h'
    cases h'
    exact .inr h
  · rw [List.getElem?_set_ne e] at h'
    exact .inl h'
theorem Same.wf {st st' : Store} (h : Same st st') (hw : Dn.wf st) (hl : st.length ≤ st'.length) : Dn.wf (st'.take st.length) := fun c hc => by
  have hl2 : (st'.take st.length).length = st.length := by rw [List.length_take]; omega
  rw [hl2]
  obtain ⟨i, hi, e⟩ := List.getElem_of_mem hc
  rw [hl2] at hi
  have h1 : st'[i]? = some c := by
    rw [← e, List.getElem_take]
    exact List.getElem?_eq_getElem _
  rcases h i c hi h1 with q | q
  · exact hw c (List.mem_of_getElem? q)
  · exact q
open Classical in
noncomputable def trimF (m : DF) : DF := fun xs st => match m xs st with
  | .ok d st' => if st.length ≤ st'.length ∧ D.lt st.length d = true ∧ Same st st' then .ok d (st'.take st.length) else .bad
  | .exc x st' => if st.length ≤ st'.length ∧ D.ltf st.length x.fs = true ∧ Same st st' then .exc x (st'.take st.length) else .bad
  | .bad => .bad
theorem trimF_tr (m : DF) (xs : List D) (st : Store) (hw : wf st) : Tr st.length (m xs st) (trimF m xs st) := by
  unfold trimF
  cases h : m xs st with
  | bad => trivial
  | ok d st' =>
    dsimp only
    split
    · rename_i hc
      obtain ⟨h1, h2, h3⟩ := hc
      have hl : (st'.take st.length).length = st.length := by rw [List.length_take]; omega
      exact ⟨st'.drop st.length, by rw [List.take_append_drop], by rw [hl]; exact Nat.le_refl _, by rw [hl]; exact h2, h3.wf hw h1⟩
    · trivial
  | exc x st' =>
    dsimp only
    split
    · rename_i hc
      obtain ⟨h1, h2, h3⟩ := hc
      have hl : (st'.take st.length).length = st.length := by rw [List.length_take]; omega
      exact ⟨st'.drop st.length, by rw [List.take_append_drop], by rw [hl]; exact Nat.le_refl _, by rw [hl]; exact h2, h3.wf hw h1⟩
    · trivial
theorem trimF_ok {m : DF} {xs : List D} {st st2 g : Store} {d : D} (h : m xs st = .ok d (st2 ++ g)) (hl : st2.length = st.length) (hd : D.lt st.length d = true) (hw : Same st (st2 ++ g)) : trimF m xs st = .ok d st2 := by
  unfold trimF
  rw [h]
  dsimp only
  rw [if_pos ⟨by rw [List.length_append]; omega, hd, hw⟩, ← hl, List.take_left]
theorem trimF_exc {m : DF} {xs : List D} {st st2 g : Store} {x : Xc} (h : m xs st = .exc x (st2 ++ g)) (hl : st2.length = st.length) (hd : D.ltf st.length x.fs = true) (hw : Same st (st2 ++ g)) : trimF m xs st = .exc x st2 := by
  unfold trimF
  rw [h]
  dsimp only
  rw [if_pos ⟨by rw [List.length_append]; omega, hd, hw⟩, ← hl, List.take_left]
/-- nothing ahead was touched -/
theorem trimF_pure {m : DF} {xs : List D} {st g : Store} {d : D} (h : m xs st = .ok d (st ++ g)) (hd : D.lt st.length d = true) : trimF m xs st = .ok d st := trimF_ok h rfl hd (Same.refl st g)
theorem Has.trimmed {P : Program} {w : World} {K : PySem.W.Frag} {mg : Str → Option Value} {base : Heap} {cls : Nat → Value} {k : Nat} {x : Str} {ps : List Str} {m : DF} (h : Has P w K mg base cls k x ps m) : Has P w K mg base cls k x ps (trimF m) := h.trim fun xs st hw _ => trimF_tr m xs st hw
/-! ### loops -/
theorem forL_run {chk : Store → Bool} {g : DG} {m : DS} (I : Nat → Dn.Env → Store → Prop) (hc : ∀ i env st, I i env st → chk st = true) : ∀ {xs : List D} {i0 : Nat} {env : Dn.Env} {st : Store}, I i0 env st →
    (∀ i x env st, xs[i]? = some x → I (i0 + i) env st → ∃ env1 st1 env2 st2, g x env st = .ok env1 st1 ∧ m env1 st1 = .nx env2 st2 ∧ I (i0 + i + 1) env2 st2) → ∃ env' st', forL chk g m xs env st = .nx env' st' ∧ I (i0 + xs.length) env' st'
  | [], i0, env, st, h, _ => ⟨env, st, by unfold forL; rw [if_pos (hc _ _ _ h)], h⟩
  | x :: xs, i0, env, st, h, hs => by
    obtain ⟨env1, st1, env2, st2, e1, e2, h2⟩ := hs 0 x env st rfl h
    obtain ⟨env', st', e3, h3⟩ := forL_run (xs := xs) I hc h2 fun i y env st hy hi => by
      have := hs (i + 1) y env st (by simpa using hy) (by have : i0 + (i + 1) = i0 + 0 + 1 + i := by omega
                                                          rw [this]; exact hi)
      obtain ⟨a, b, c, d, q1, q2, q3⟩ := this
      exact ⟨a, b, c, d, q1, q2, by have e : i0 + 0 + 1 + i + 1 = i0 + (i + 1) + 1 := by omega
                                    rw [e]; exact q3⟩
    refine ⟨env', st', ?_, by rw [List.length_cons]; have e : i0 + (xs.length + 1) = i0 + 0 + 1 + xs.length := by omega
                              rw [e]; exact h3⟩
    unfold forL
    rw [if_pos (hc _ _ _ h), e1]
    dsimp only
    rw [e2]
    exact e3
theorem whileL_run {n : DB} {m : DS} {Post : Dn.Env → Store → Prop} (I : Nat → Dn.Env → Store → Prop)
    (hs : ∀ j env st, I j env st → ∃ b st1, n env st = .ok b st1 ∧ (b = false → Post env st1) ∧ (b = true → ∃ env2 st2, m env st1 = .nx env2 st2 ∧ ∃ j', j' < j ∧ I j' env2 st2)) :
    ∀ (k j : Nat) (env : Dn.Env) (st : Store), I j env st → j < k → ∃ env' st', whileL n m k env st = .nx env' st' ∧ Post env' st'
  | 0, j, _, _, _, h => absurd h (Nat.not_lt_zero _)
  | k + 1, j, env, st, h, hj => by
    obtain ⟨b, st1, e1, hf, ht⟩ := hs j env st h
    unfold whileL
    rw [e1, R.toS_ok]
    cases b with
    | false => exact ⟨env, st1, by rw [if_neg Bool.false_ne_true], hf rfl⟩
    | true =>
      obtain ⟨env2, st2, e2, j', hj', h2⟩ := ht rfl
      obtain ⟨env', st', e3, hp⟩ := whileL_run I hs k j' env2 st2 h2 (by omega)
      exact ⟨env', st', by rw [if_pos rfl, e2]; exact e3, hp⟩
theorem lcL_run {chk : Store → Bool} {g : DG} {tt : DB} {te : DE} {env : Dn.Env} (I : Nat → List D → Store → Prop) (hc : ∀ i acc st, I i acc st → chk st = true) : ∀ {xs : List D} {i0 : Nat} {acc : List D} {st : Store}, I i0 acc st →
    (∀ i x acc st, xs[i]? = some x → I (i0 + i) acc st → ∃ env1 st1 b st2, g x env st = .ok env1 st1 ∧ tt env1 st1 = .ok b st2 ∧ (b = false → I (i0 + i + 1) acc st2) ∧ (b = true → acc.length < sizeLine ∧ ∃ y st3, te env1 st2 = .ok y st3 ∧ I (i0 + i + 1) (acc ++ [y]) st3)) →
    ∃ acc' st', lcL chk g tt te env xs acc st = .ok acc' st' ∧ I (i0 + xs.length) acc' st'
  | [], i0, acc, st, h, _ => ⟨acc, st, by unfold lcL; rw [if_pos (hc _ _ _ h)], h⟩
  | x :: xs, i0, acc, st, h, hs => by
    obtain ⟨env1, st1, b, st2, e1, e2, hf, ht⟩ := hs 0 x acc st rfl h
    have next : ∀ acc2 st2, I (i0 + 0 + 1) acc2 st2 → ∃ acc' st', lcL chk g tt te env xs acc2 st2 = .ok acc' st' ∧ I (i0 + (xs.length + 1)) acc' st' := fun acc2 st2 h2 => by
      obtain ⟨env', st', e3, h3⟩ := lcL_run (xs := xs) I hc h2 fun i y acc st hy hi => by
        have e0 : i0 + (i + 1) = i0 + 0 + 1 + i := by omega
        have := hs (i + 1) y acc st (by simpa using hy) (by rw [e0]; exact hi)
        rw [e0] at this
        exact this
      exact ⟨env', st', e3, by have e : i0 + (xs.length + 1) = i0 + 0 + 1 + xs.length := by omega
                               rw [e]; exact h3⟩
    unfold lcL
    rw [if_pos (hc _ _ _ h), e1]
    dsimp only
    rw [e2]
    cases b with
    | false => exact next acc st2 (hf rfl)
    | true =>
      obtain ⟨hl, y, st3, e3, h3⟩ := ht rfl
      dsimp only
      rw [e3]
      dsimp only
      rw [if_pos hl]
      exact next _ st3 h3
/-- a comprehension that maps, what is made meanwhile lying behind -/
theorem lcL_map {chk : Store → Bool} {g : DG} {te : DE} {env : Dn.Env} {st0 : Store} (f : D → D) (hc : ∀ q, chk (st0 ++ q) = true) {xs : List D} {acc : List D} {q : Store} (hl : acc.length + xs.length ≤ sizeLine)
    (hs : ∀ x ∈ xs, ∀ q, ∃ env1 q', g x env (st0 ++ q) = .ok env1 (st0 ++ q) ∧ te env1 (st0 ++ q) = .ok (f x) (st0 ++ q')) : ∃ q', lcL chk g dYes te env xs acc (st0 ++ q) = .ok (acc ++ xs.map f) (st0 ++ q') := by
  obtain ⟨acc', st', e, h1, q', h2⟩ := lcL_run (chk := chk) (g := g) (tt := dYes) (te := te) (env := env) (fun i a st => a = acc ++ (xs.take i).map f ∧ ∃ q, st = st0 ++ q) (fun i a st ⟨_, q, h⟩ => by rw [h]; exact hc q) (xs := xs) (i0 := 0) (acc := acc) (st := st0 ++ q) ⟨by simp, q, rfl⟩ (by
    rintro i x a st hx ⟨rfl, q, rfl⟩
    obtain ⟨env1, q', e1, e2⟩ := hs x (List.mem_of_getElem? hx) q
    have hi : i < xs.length := (List.getElem?_eq_some_iff.mp hx).1
    refine ⟨env1, _, true, _, e1, rfl, fun z => (by cases z), fun _ => ⟨by simp; omega, f x, _, e2, ?_, q', rfl⟩⟩
    have e0 : 0 + i + 1 = i + 1 := by omega
    rw [e0, List.take_add_one, hx]
    simp)
  rw [Nat.zero_add, List.take_length] at h1
  exact ⟨q', by rw [e, h1, h2]⟩
/-! ### pure data -/
def pd (d : D) : Option PyData := pyW (fun _ => none) d
mutual
theorem pyW_mono {rf : Nat → Option PyData} : ∀ {d : D} {p : PyData}, pyW (fun _ => none) d = some p → pyW rf d = some p
  | .non, _, h => h
  | .bl _, _, h => h
  | .int _, _, h => h
  | .str _, _, h => h
  | .tup xs, p, h => by
    simp only [pyW, Option.map_eq_some_iff] at h ⊢
    obtain ⟨ps, h1, h2⟩ := h
    exact ⟨ps, pyWs_mono h1, h2⟩
  | .ref _, _, h => by simp [pyW] at h
  | .err _ _, _, h => by simp [pyW] at h
  | .ty _, _, h => by simp [pyW] at h
  | .cl _, _, h => by simp [pyW] at h
  | .scr _, _, h => by simp [pyW] at h
theorem pyWs_mono {rf : Nat → Option PyData} : ∀ {xs : List D} {ps : List PyData}, pyWs (fun _ => none) xs = some ps → pyWs rf xs = some ps
  | [], _, h => h
  | x :: xs, ps, h => by
    simp only [pyWs, Option.bind_eq_some_iff, Option.map_eq_some_iff] at h ⊢
    obtain ⟨p, h1, qs, h2, h3⟩ := h
    exact ⟨p, pyW_mono h1, qs, pyWs_mono h2, h3⟩
end
theorem toPy_pd {st : Store} {d : D} {p : PyData} (h : pd d = some p) : toPy st d = some p := pyW_mono h
theorem toPy_lst {st : Store} {n : Nat} {xs : List D} {ps : List PyData} (e : st[n]? = some (.lst xs)) (h : pyWs (pyN st 2) xs = some ps) : toPy st (.ref n) = some (.list ps) := by
  show pyN st 3 n = _
  unfold pyN
  rw [e]
  dsimp only
  rw [h]
  rfl
theorem vEq_of {st : Store} {x y : D} {p q : PyData} (hx : toPy st x = some p) (hy : toPy st y = some q) (h1 : SeqAt.shaped p = true) (h2 : SeqAt.shaped q = true) : vEq x y st = .ok (.bl (PyData.eqv p q)) st := by
  unfold vEq
  rw [hx, hy]
  dsimp only
  rw [h1, h2]
  rfl
theorem vNe_of {st : Store} {x y : D} {p q : PyData} (hx : toPy st x = some p) (hy : toPy st y = some q) (h1 : SeqAt.shaped p = true) (h2 : SeqAt.shaped q = true) : vNe x y st = .ok (.bl (!PyData.eqv p q)) st := by
  unfold vNe
  rw [hx, hy]
  dsimp only
  rw [h1, h2]
  rfl
end Pn
set_option Elab.async false
set_option linter.all false
set_option maxRecDepth 100000
set_option maxHeartbeats 1000000
/-! Pn3: gates as data; any gate drawn -/
namespace Pn
open PySem PySem.Spec L2 Dn
abbrev Gate := List (List (Nat × Nat))
def pairD (p : Nat × Nat) : D := .tup [.int (p.1 : Nat), .int (p.2 : Nat)]
def rowD (r : List (Nat × Nat)) : D := .tup (r.map pairD)
def gateD (g : Gate) : D := .tup (g.map rowD)
def pairP (p : Nat × Nat) : PyData := .tuple [.int (p.1 : Nat), .int (p.2 : Nat)]
def rowP (r : List (Nat × Nat)) : PyData := .tuple (r.map pairP)
def gateP (g : Gate) : PyData := .tuple (g.map rowP)
@[simp] theorem pair_lt (n : Nat) (p : Nat × Nat) : D.lt n (pairD p) = true := by simp [pairD]
@[simp] theorem row_lt (n : Nat) (r : List (Nat × Nat)) : D.lt n (rowD r) = true := by
  rw [rowD, D.lt_tup, D.lts_all, List.all_map, List.all_eq_true]
  exact fun p _ => pair_lt n p
@[simp] theorem gate_lt (n : Nat) (g : Gate) : D.lt n (gateD g) = true := by
  rw [gateD, D.lt_tup, D.lts_all, List.all_map, List.all_eq_true]
  exact fun p _ => row_lt n p
theorem pyWs_map {α : Type} {rf : Nat → Option PyData} {f : α → D} {h : α → PyData} (e : ∀ a, pyW rf (f a) = some (h a)) : ∀ l : List α, pyWs rf (l.map f) = some (l.map h)
  | [] => rfl
  | a :: l => by simp [pyWs, e a, pyWs_map e l]
theorem pair_py {rf : Nat → Option PyData} (p : Nat × Nat) : pyW rf (pairD p) = some (pairP p) := by simp [pairD, pyW, pyWs, pairP]
theorem row_py {rf : Nat → Option PyData} (r : List (Nat × Nat)) : pyW rf (rowD r) = some (rowP r) := by simp [rowD, pyW, pyWs_map pair_py, rowP]
theorem gate_py {rf : Nat → Option PyData} (g : Gate) : pyW rf (gateD g) = some (gateP g) := by simp [gateD, pyW, pyWs_map row_py, gateP]
/-! data that may be compared -/
theorem canLay_all {ps : List PyData} (h : ∀ p ∈ ps, p.canLay0 = true) : PyData.canLayAll0 ps = true := by
  induction ps with
  | nil => simp [PyData.canLayAll0]
  | cons p ps ih => simp [PyData.canLayAll0, h p (List.mem_cons_self ..), ih fun q hq => h q (List.mem_cons_of_mem _ hq)]
theorem depth_all {ps : List PyData} {k : Nat} (h : ∀ p ∈ ps, p.depth ≤ k) : PyData.depthAll ps ≤ k := by
  induction ps with
  | nil => simp [PyData.depthAll]
  | cons p ps ih =>
    simp only [PyData.depthAll]
    exact Nat.max_le.mpr ⟨h p (List.mem_cons_self ..), ih fun q hq => h q (List.mem_cons_of_mem _ hq)⟩
/-- shallow data without dicts and odd texts -/
def Ok (k : Nat) (p : PyData) : Prop := p.canLay0 = true ∧ p.depth ≤ k
theorem Ok.mono {k j : Nat} {p : PyData} (h : Ok k p) (hj : k ≤ j) : Ok j p := ⟨h.1, Nat.le_trans h.2 hj⟩
theorem Ok.int (i : Int) : Ok 0 (.int i) := ⟨by simp [PyData.canLay0], by simp [PyData.depth]⟩
theorem Ok.bool (i : Bool) : Ok 0 (.bool i) := ⟨by simp [PyData.canLay0], by simp [PyData.depth]⟩
theorem Ok.none : Ok 0 .none := ⟨by simp [PyData.canLay0], by simp [PyData.depth]⟩
theorem Ok.tup {k : Nat} {ps : List PyData} (h : ∀ p ∈ ps, Ok k p) : Ok (k + 1) (.tuple ps) := ⟨by simp [PyData.canLay0, canLay_all fun p hp => (h p hp).1], by simp only [PyData.depth]; exact Nat.succ_le_succ (depth_all fun p hp => (h p hp).2)⟩
theorem Ok.lst {k : Nat} {ps : List PyData} (h : ∀ p ∈ ps, Ok k p) : Ok (k + 1) (.list ps) := ⟨by simp [PyData.canLay0, canLay_all fun p hp => (h p hp).1], by simp only [PyData.depth]; exact Nat.succ_le_succ (depth_all fun p hp => (h p hp).2)⟩
theorem Ok.shaped {k : Nat} {p : PyData} (h : Ok k p) (hk : k ≤ 64) : SeqAt.shaped p = true := by
  unfold SeqAt.shaped
  rw [h.1, Bool.true_and]
  exact decide_eq_true (Nat.le_trans h.2 hk)
theorem pair_ok (p : Nat × Nat) : Ok 1 (pairP p) := .tup fun q hq => by
  simp only [List.mem_cons, List.not_mem_nil, or_false] at hq
  rcases hq with rfl | rfl <;> exact .int _
theorem row_ok (r : List (Nat × Nat)) : Ok 2 (rowP r) := .tup fun q hq => by
  obtain ⟨p, _, rfl⟩ := List.mem_map.mp hq
  exact pair_ok p
theorem gate_ok (g : Gate) : Ok 3 (gateP g) := .tup fun q hq => by
  obtain ⟨p, _, rfl⟩ := List.mem_map.mp hq
  exact row_ok p
/-! ### places in a store -/
section
variable {A q : Store} {a b x : Cell} {n : Nat}
@[simp] theorem at0 : (A ++ a :: q)[A.length]? = some a := by rw [List.getElem?_append_right (Nat.le_refl _), Nat.sub_self]; rfl
@[simp] theorem at1 : (A ++ a :: b :: q)[A.length + 1]? = some b := by rw [List.getElem?_append_right (by omega)]; simp
@[simp] theorem st0 : (A ++ a :: q).set A.length x = A ++ x :: q := by rw [List.set_append_right _ _ (Nat.le_refl _), Nat.sub_self]; rfl
@[simp] theorem st1 : (A ++ a :: b :: q).set (A.length + 1) x = A ++ a :: x :: q := by rw [List.set_append_right _ _ (by omega)]; simp
theorem atA (h : A[n]? = some x) : (A ++ q)[n]? = some x := by rw [List.getElem?_append_left (List.getElem?_eq_some_iff.mp h).1, h]
theorem setA (h : n < A.length) : (A ++ q).set n x = A.set n x ++ q := List.set_append_left _ _ h
end
/-! ### any gate -/
noncomputable def FTake : DF := trimF (dDef 2 4 pTake)
theorem FTake_ok {st : Store} {n : Nat} {v s c m : Int} (h : st[n]? = some (boxC v s c)) (h1 : 0 < m) (h2 : m < 1073741824) : FTake [.ref n, .int m] st = .ok (.int (digit v s c m)) (st.set n (boxC (boxV v m) (boxS v s c) (boxN v c))) :=
  trimF_ok (g := []) (by rw [List.append_nil]; exact take_run h h1 h2) (by simp) (by simp) (Same.set [] (boxC_lt _ _ _ _))
def pAny (m__law_take : DF) : DS := (dSeq (dAsg (dTup (aCons (dLst aNil) (aCons (dLst aNil) aNil))) (gTp 2 (gsCons (gNm 3) (gsCons (gNm 4) gsNil)))) (dSeq (dFor (iRange1 (aCons (dVar 2) aNil)) (gNm 5) (dDrop (dMeth "list" mExtend (dVar 3) (aCons (dLc (iRange1 (aCons (dVar 1) aNil)) (gNm 6) dYes (dTup (aCons (dVar 6) (aCons (dVar 5) aNil))) [6]) aNil)))) (dSeq (dWhile (dTest (dBin vNe (dVar 3) (dLst aNil))) (dDrop (dMeth "list" mAppend (dVar 4) (aCons (dMeth "list" mPopAt (dVar 3) (aCons (dCall m__law_take (aCons (dVar 0) (aCons (dCall bLen (aCons (dVar 3) aNil)) aNil))) aNil)) aNil)))) (dRet (dCall bTuple (aCons (dLc (iRange1 (aCons (dVar 2) aNil)) (gNm 5) dYes (dCall bTuple (aCons (dSl (dVar 4) (dPart (dBin vMul (dVar 5) (dVar 1))) (dPart (dBin vAdd (dBin vMul (dVar 5) (dVar 1)) (dVar 1)))) aNil)) [5]) aNil))))))
section
variable {env : Dn.Env} {st : Store} {n : Nat}
@[simp] theorem e_for {it : DI} {g : DG} {m : DS} : dFor it g m env st = (it env st).toS env fun its st1 => forL its.2 g m its.1 env st1 := rfl
@[simp] theorem e_while {t : DB} {m : DS} : dWhile t m env st = whileL t m FU env st := rfl
@[simp] theorem e_meth {T : String} {f : D → List D → Store → R D} {m : DE} {ma : DA} : dMeth T f m ma env st = (m env st).bind fun o st1 => if recv T o st1 then (ma env st1).bind fun xs st2 => f o xs st2 else .bad := rfl
@[simp] theorem e_gtp {k : Nat} {gs : DGs} {xs : List D} : gTp k gs (.tup xs) env st = if xs.length = k then gs xs env st else .bad := rfl
@[simp] theorem e_gsn : gsNil [] env st = .ok env st := rfl
@[simp] theorem e_gsc {g : DG} {gs : DGs} {d : D} {ds : List D} : gsCons g gs (d :: ds) env st = match g d env st with
    | .ok env1 st1 => gs ds env1 st1
    | _ => .bad := rfl
theorem mkLst_ok {xs : List D} (h : xs.length ≤ sizeLine) : mkLst xs st = .ok (.ref st.length) (st ++ [.lst xs]) := by unfold mkLst; rw [if_pos h]; rfl
theorem mkTup_ok {xs : List D} (h : xs.length ≤ sizeLine) : mkTup xs st = .ok (.tup xs) st := by unfold mkTup; rw [if_pos h]
@[simp] theorem mkLst_nil : mkLst [] st = .ok (.ref st.length) (st ++ [.lst []]) := mkLst_ok (Nat.zero_le _)
@[simp] theorem mkTup2 {x y : D} : mkTup [x, y] st = .ok (.tup [x, y]) st := mkTup_ok (show 2 ≤ sizeLine by decide)
theorem small_nat {k : Nat} (h : k ≤ 1000000) : smallR (k : Int) = true := by
  unfold smallR
  simp only [Bool.and_eq_true, decide_eq_true_eq]
  omega
theorem sl_m : 1000000 ≤ sizeLine := by rw [sizeLine_eq]; decide
theorem sl_ge (k : Nat) (h : k ≤ 1000000) : k ≤ sizeLine := Nat.le_trans h sl_m
theorem iRange1_ok {e : DE} {k : Nat} (he : e env st = .ok (.int (k : Nat)) st) (h : k ≤ 1000000) : iRange1 (aCons e aNil) env st = .ok (rngD 0 k, fun _ => true) st := by
  have e1 : aCons e aNil env st = .ok [.int (k : Nat)] st := by simp [he]
  unfold iRange1
  rw [e1, Dn.R.bind_ok]
  dsimp only
  rw [if_pos (small_nat h)]
theorem rng_get {k i : Nat} {x : D} (h : (rngD 0 k)[i]? = some x) : i < k ∧ x = .int (i : Nat) := by
  unfold rngD at h
  rw [List.getElem?_map] at h
  obtain ⟨j, h1, h2⟩ := Option.map_eq_some_iff.mp h
  have hi := (List.getElem?_eq_some_iff.mp h1).1
  simp only [List.length_range] at hi
  rw [List.getElem?_range hi] at h1
  cases h1
  exact ⟨by omega, by rw [← h2]; simp⟩
@[simp] theorem rng_len {k : Nat} : (rngD 0 k).length = k := by simp [rngD]
theorem rng_mem {k : Nat} {x : D} (h : x ∈ rngD 0 k) : ∃ i : Nat, i < k ∧ x = .int (i : Nat) := by
  obtain ⟨i, hi⟩ := List.mem_iff_getElem?.mp h
  obtain ⟨h1, h2⟩ := rng_get hi
  exact ⟨i, h1, h2⟩
theorem rng_map {α : Type} (f : D → α) (k : Nat) : (rngD 0 k).map f = (List.range k).map fun i => f (.int (i : Nat)) := by
  unfold rngD
  rw [List.map_map]
  simp [Function.comp_def]
end
end Pn
set_option Elab.async false
set_option linter.all false
set_option maxRecDepth 100000
set_option maxHeartbeats 1000000
/-! Pn4: any gate drawn -/
namespace Pn
open PySem PySem.Spec L2 Dn
/-- all pairs of sides below s and marks below m, marks outside -/
def allP (s m : Nat) : List (Nat × Nat) := (List.range m).flatMap fun k => (List.range s).map fun i => (i, k)
/-- a gate of s sides and m marks -/
structure IsGate (s m : Nat) (g : Gate) : Prop where
  len : g.length = m
  rows : ∀ r ∈ g, r.length = s
  perm : g.flatten.Perm (allP s m)
theorem mem_allP {s m : Nat} {p : Nat × Nat} : p ∈ allP s m ↔ p.1 < s ∧ p.2 < m := by
  unfold allP
  simp only [List.mem_flatMap, List.mem_range, List.mem_map]
  constructor
  · rintro ⟨k, hk, i, hi, rfl⟩
    exact ⟨hi, hk⟩
  · rintro ⟨h1, h2⟩
    exact ⟨p.2, h2, p.1, h1, rfl⟩
theorem allP_len (s m : Nat) : (allP s m).length = s * m := by
  unfold allP
  rw [List.length_flatMap]
  simp only [List.length_map, List.length_range]
  induction m with
  | zero => simp
  | succ m ih => rw [List.range_succ, List.map_append, List.sum_append, ih]; simp [Nat.mul_succ]
theorem nodup_allP (s m : Nat) : (allP s m).Nodup := by
  unfold allP
  induction m with
  | zero => simp
  | succ m ih =>
    rw [List.range_succ, List.flatMap_append, List.nodup_append]
    refine ⟨ih, ?_, ?_⟩
    · simp only [List.flatMap_cons, List.flatMap_nil, List.append_nil]
      refine List.pairwise_map.mpr (List.nodup_range.imp fun {a b} h e => h (Prod.mk.inj e).1)
    · rintro a ha b hb rfl
      simp only [List.mem_flatMap, List.mem_range, List.mem_map] at ha hb
      obtain ⟨k, hk, i, hi, e⟩ := ha
      simp only [List.mem_singleton] at hb
      obtain ⟨k', e1, i', _, e2⟩ := hb
      rw [← e] at e2
      have := (Prod.mk.inj e2).2
      omega
/-! ### the first loop: all pairs, in order -/
section
variable {A : Store} {n : Nat} {v s c : Int}
theorem any_rows {sd mk : Nat} (h1 : sd ≤ 1000) (h2 : mk ≤ 1000) {x0 : D} {L : Nat} (hL : L = A.length) :
    ∃ x5 x6 q, forL (fun _ => true) (gNm 5) (dDrop (dMeth "list" mExtend (dVar 3) (aCons (dLc (iRange1 (aCons (dVar 1) aNil)) (gNm 6) dYes (dTup (aCons (dVar 6) (aCons (dVar 5) aNil))) [6]) aNil))) (rngD 0 mk) [some x0, some (.int (sd : Nat)), some (.int (mk : Nat)), some (.ref L), some (.ref (L + 1)), none, none] (A ++ [.lst [], .lst []]) =
      .nx [some x0, some (.int (sd : Nat)), some (.int (mk : Nat)), some (.ref L), some (.ref (L + 1)), x5, x6] (A ++ .lst ((allP sd mk).map pairD) :: .lst [] :: q) := by
  subst hL
  obtain ⟨env', st', e, x5, x6, q, e1, e2⟩ := forL_run (chk := fun _ => true) (g := gNm 5) (m := dDrop (dMeth "list" mExtend (dVar 3) (aCons (dLc (iRange1 (aCons (dVar 1) aNil)) (gNm 6) dYes (dTup (aCons (dVar 6) (aCons (dVar 5) aNil))) [6]) aNil)))
    (fun i env st => ∃ x5 x6 q, env = [some x0, some (.int (sd : Nat)), some (.int (mk : Nat)), some (.ref A.length), some (.ref (A.length + 1)), x5, x6] ∧ st = A ++ .lst ((allP sd i).map pairD) :: .lst [] :: q) (fun _ _ _ _ => rfl)
    (xs := rngD 0 mk) (i0 := 0) (env := [some x0, some (.int (sd : Nat)), some (.int (mk : Nat)), some (.ref A.length), some (.ref (A.length + 1)), none, none]) (st := A ++ [.lst [], .lst []]) ⟨none, none, [], rfl, by simp [allP]⟩ (by
      rintro i x env st hx ⟨x5, x6, q, rfl, rfl⟩
      rw [Nat.zero_add] at *
      obtain ⟨hi, rfl⟩ := rng_get hx
      obtain ⟨q', e⟩ := lcL_map (chk := fun _ => true) (g := gNm 6) (te := dTup (aCons (dVar 6) (aCons (dVar 5) aNil))) (env := [some x0, some (.int (sd : Nat)), some (.int (mk : Nat)), some (.ref A.length), some (.ref (A.length + 1)), some (.int (i : Nat)), none]) (st0 := A ++ .lst ((allP sd i).map pairD) :: .lst [] :: q)
        (fun x => .tup [x, .int (i : Nat)]) (fun _ => rfl) (xs := rngD 0 sd) (acc := []) (q := []) (by simp; exact sl_ge _ (by omega)) fun x hx q => by
          obtain ⟨j, hj, rfl⟩ := rng_mem hx
          exact ⟨_, q, rfl, by simp⟩
      rw [List.append_nil, List.nil_append] at e
      have e3 : (rngD 0 sd).map (fun x => D.tup [x, .int (i : Nat)]) = ((List.range sd).map fun j => (j, i)).map pairD := by
        rw [rng_map, List.map_map]
        rfl
      rw [e3] at e
      refine ⟨_, _, _, _, rfl, ?_, some (.int (i : Nat)), x6, q ++ q' ++ [.lst (((List.range sd).map fun j => (j, i)).map pairD)], rfl, rfl⟩
      have hw : dWipe [some x0, some (.int (sd : Nat)), some (.int (mk : Nat)), some (.ref A.length), some (.ref (A.length + 1)), some (.int (i : Nat)), x6] [6] = [some x0, some (.int (sd : Nat)), some (.int (mk : Nat)), some (.ref A.length), some (.ref (A.length + 1)), some (.int (i : Nat)), none] := rfl
      have hr : iRange1 (aCons (dVar 1) aNil) [some x0, some (.int (sd : Nat)), some (.int (mk : Nat)), some (.ref A.length), some (.ref (A.length + 1)), some (.int (i : Nat)), x6] (A ++ .lst ((allP sd i).map pairD) :: .lst [] :: q) = .ok (rngD 0 sd, fun _ => true) (A ++ .lst ((allP sd i).map pairD) :: .lst [] :: q) := iRange1_ok rfl (by omega)
      have hc : dLc (iRange1 (aCons (dVar 1) aNil)) (gNm 6) dYes (dTup (aCons (dVar 6) (aCons (dVar 5) aNil))) [6] [some x0, some (.int (sd : Nat)), some (.int (mk : Nat)), some (.ref A.length), some (.ref (A.length + 1)), some (.int (i : Nat)), x6] (A ++ .lst ((allP sd i).map pairD) :: .lst [] :: q) =
          .ok (.ref (A.length + (2 + (q ++ q').length))) (A ++ .lst ((allP sd i).map pairD) :: .lst [] :: (q ++ q' ++ [.lst (((List.range sd).map fun j => (j, i)).map pairD)])) := by
        unfold dLc
        rw [hr, Dn.R.bind_ok]
        dsimp only
        rw [hw, e, Dn.R.bind_ok]
        unfold Dn.alloc
        simp
        omega
      have hx : mExtend (.ref A.length) [.ref (A.length + (2 + (q ++ q').length))] (A ++ .lst ((allP sd i).map pairD) :: .lst [] :: (q ++ q' ++ [.lst (((List.range sd).map fun j => (j, i)).map pairD)])) =
          .ok .non (A ++ .lst ((allP sd (i + 1)).map pairD) :: .lst [] :: (q ++ q' ++ [.lst (((List.range sd).map fun j => (j, i)).map pairD)])) := by
        unfold mExtend
        dsimp only
        have g1 : (A ++ Cell.lst ((allP sd i).map pairD) :: Cell.lst [] :: (q ++ q' ++ [Cell.lst (((List.range sd).map fun j => (j, i)).map pairD)]))[A.length + (2 + (q ++ q').length)]? = some (Cell.lst (((List.range sd).map fun j => (j, i)).map pairD)) := by
          rw [List.getElem?_append_right (by omega)]
          have e0 : A.length + (2 + (q ++ q').length) - A.length = (q ++ q').length + 1 + 1 := by omega
          rw [e0, List.getElem?_cons_succ, List.getElem?_cons_succ, List.getElem?_append_right (Nat.le_refl _), Nat.sub_self]
          rfl
        rw [at0, g1]
        dsimp only
        rw [if_pos ?_, st0]
        · have e0 : allP sd (i + 1) = allP sd i ++ (List.range sd).map fun j => (j, i) := by
            unfold allP
            rw [List.range_succ, List.flatMap_append]
            simp
          rw [e0, List.map_append]
        · rw [List.length_map, List.length_map, allP_len, List.length_map, List.length_range]
          have : sd * i ≤ 1000 * 1000 := Nat.mul_le_mul h1 (by omega)
          have := sl_m
          have q : sizeLine = 16777216 := sizeLine_eq
          omega
      have hv : recv "list" (.ref A.length) (A ++ .lst ((allP sd i).map pairD) :: .lst [] :: q) = true := by
        unfold recv
        dsimp only
        rw [at0]
        rfl
      show dDrop _ [some x0, some (.int (sd : Nat)), some (.int (mk : Nat)), some (.ref A.length), some (.ref (A.length + 1)), some (.int (i : Nat)), x6] (A ++ .lst ((allP sd i).map pairD) :: .lst [] :: q) = _
      clear e hw hr
      generalize (q ++ q' ++ [Cell.lst (((List.range sd).map fun j => (j, i)).map pairD)]) = qq at *
      generalize A.length + (2 + (q ++ q').length) = K at *
      simp [hv, hc, hx])
  rw [Nat.zero_add, rng_len] at e2
  exact ⟨x5, x6, q, by rw [e, e1, e2]⟩
/-! ### the second loop: drawn one by one -/
theorem pairs_toPy {S : Store} {L : Nat} {l : List (Nat × Nat)} (h : S[L]? = some (.lst (l.map pairD))) : toPy S (.ref L) = some (.list (l.map pairP)) := toPy_lst h (pyWs_map pair_py l)
theorem pairs_ok (l : List (Nat × Nat)) : Ok 2 (.list (l.map pairP)) := .lst fun q hq => by
  obtain ⟨p, _, rfl⟩ := List.mem_map.mp hq
  exact pair_ok p
theorem ne_nil {S : Store} {L K : Nat} {l : List (Nat × Nat)} (h : S[L]? = some (.lst (l.map pairD))) (h2 : S[K]? = some (.lst [])) : vNe (.ref L) (.ref K) S = .ok (.bl (!l.isEmpty)) S := by
  rw [vNe_of (pairs_toPy h) (toPy_lst (ps := []) h2 rfl) ((pairs_ok l).shaped (by decide)) (Ok.shaped (k := 1) (.lst fun q hq => by cases hq) (by decide))]
  cases l <;> simp [PyData.eqv, PyData.eqvAll]
theorem erase_perm {α : Type} : ∀ (l : List α) (k : Nat) (h : k < l.length), (l[k] :: l.eraseIdx k).Perm l
  | [], k, h => by simp at h
  | a :: l, 0, h => by simp
  | a :: l, k + 1, h => by
    have ih := erase_perm l k (by simpa using h)
    simp only [List.getElem_cons_succ, List.eraseIdx_cons_succ]
    exact (List.Perm.swap _ _ _).trans (ih.cons a)
theorem any_while (h : A[n]? = some (boxC v s c)) {x1 x2 x5 x6 : Option D} {L : Nat} (hL : L = A.length) {left found : List (Nat × Nat)} {q : Store} (hlen : left.length + found.length ≤ 1000000) :
    ∃ (found' : List (Nat × Nat)) (v' s' c' : Int) (q' : Store), whileL (dTest (dBin vNe (dVar 3) (dLst aNil))) (dDrop (dMeth "list" mAppend (dVar 4) (aCons (dMeth "list" mPopAt (dVar 3) (aCons (dCall FTake (aCons (dVar 0) (aCons (dCall bLen (aCons (dVar 3) aNil)) aNil))) aNil)) aNil))) FU [some (.ref n), x1, x2, some (.ref L), some (.ref (L + 1)), x5, x6] (A ++ .lst (left.map pairD) :: .lst (found.map pairD) :: q) =
      .nx [some (.ref n), x1, x2, some (.ref L), some (.ref (L + 1)), x5, x6] (A.set n (boxC v' s' c') ++ .lst [] :: .lst (found'.map pairD) :: q') ∧ found'.Perm (left ++ found) := by
  subst hL
  have hn : n < A.length := (List.getElem?_eq_some_iff.mp h).1
  have hself : A.set n (boxC v s c) = A := by
    apply List.ext_getElem?
    intro i
    by_cases e : n = i
    · subst e; rw [List.getElem?_set_self hn, h]
    · rw [List.getElem?_set_ne e]
  obtain ⟨env', st', e, found', v', s', c', q', e1, e2, hp⟩ := whileL_run (n := dTest (dBin vNe (dVar 3) (dLst aNil))) (m := dDrop (dMeth "list" mAppend (dVar 4) (aCons (dMeth "list" mPopAt (dVar 3) (aCons (dCall FTake (aCons (dVar 0) (aCons (dCall bLen (aCons (dVar 3) aNil)) aNil))) aNil)) aNil)))
    (Post := fun env st => ∃ (found' : List (Nat × Nat)) (v' s' c' : Int) (q' : Store), env = [some (.ref n), x1, x2, some (.ref A.length), some (.ref (A.length + 1)), x5, x6] ∧ st = A.set n (boxC v' s' c') ++ .lst [] :: .lst (found'.map pairD) :: q' ∧ found'.Perm (left ++ found))
    (fun j env st => ∃ (l f : List (Nat × Nat)) (v s c : Int) (q : Store), j = l.length ∧ env = [some (.ref n), x1, x2, some (.ref A.length), some (.ref (A.length + 1)), x5, x6] ∧ st = A.set n (boxC v s c) ++ .lst (l.map pairD) :: .lst (f.map pairD) :: q ∧ (l ++ f).Perm (left ++ found)) (by
      rintro j env st ⟨l, f, v, s, c, q, rfl, rfl, rfl, hp⟩
      have hB : (A.set n (boxC v s c)).length = A.length := List.length_set
      have hBn : (A.set n (boxC v s c))[n]? = some (boxC v s c) := List.getElem?_set_self hn
      have hss : ∀ x, (A.set n (boxC v s c)).set n x = A.set n x := fun x => List.set_set ..
      have hsz : l.length + f.length ≤ 1000000 := by
        have := hp.length_eq
        simp only [List.length_append] at this
        omega
      generalize hBe : A.set n (boxC v s c) = B at *
      have a0 : ∀ {a : Cell} {r : Store}, (B ++ a :: r)[A.length]? = some a := fun {a r} => by rw [← hB]; exact at0
      have a1 : ∀ {a b : Cell} {r : Store}, (B ++ a :: b :: r)[A.length + 1]? = some b := fun {a b r} => by rw [← hB]; exact at1
      have t0 : ∀ {a x : Cell} {r : Store}, (B ++ a :: r).set A.length x = B ++ x :: r := fun {a x r} => by rw [← hB]; exact st0
      have t1 : ∀ {a b x : Cell} {r : Store}, (B ++ a :: b :: r).set (A.length + 1) x = B ++ a :: x :: r := fun {a b x r} => by rw [← hB]; exact st1
      have hK : ∀ {S : Store} {x : Cell}, (S ++ [x])[S.length]? = some x := fun {S x} => by simp
      have c1 : vNe (.ref A.length) (.ref (B ++ Cell.lst (l.map pairD) :: Cell.lst (f.map pairD) :: q).length) ((B ++ Cell.lst (l.map pairD) :: Cell.lst (f.map pairD) :: q) ++ [.lst []]) = .ok (.bl (!l.isEmpty)) ((B ++ Cell.lst (l.map pairD) :: Cell.lst (f.map pairD) :: q) ++ [.lst []]) :=
        ne_nil (atA a0) hK
      refine ⟨!l.isEmpty, (B ++ Cell.lst (l.map pairD) :: Cell.lst (f.map pairD) :: q) ++ [.lst []], ?_, fun hb => ?_, fun hb => ?_⟩
      · generalize (B ++ Cell.lst (l.map pairD) :: Cell.lst (f.map pairD) :: q) = S at *
        simp [c1]
      · have hl : l = [] := by cases l with
          | nil => rfl
          | cons a t => cases hb
        subst hl
        exact ⟨f, v, s, c, q ++ [.lst []], rfl, by rw [hBe]; simp, hp⟩
      · have hpos : 0 < l.length := by
          cases l with
          | nil => cases hb
          | cons a t => simp
        have e0 : (B ++ Cell.lst (l.map pairD) :: Cell.lst (f.map pairD) :: q) ++ [.lst []] = B ++ Cell.lst (l.map pairD) :: Cell.lst (f.map pairD) :: (q ++ [.lst []]) := by simp
        rw [e0]
        generalize q ++ [Cell.lst []] = q at *
        obtain ⟨hd1, hd2⟩ := digit_lt v s c (m := (l.length : Nat)) (by omega)
        obtain ⟨k, hk⟩ := Int.eq_ofNat_of_zero_le hd1
        have hkl : k < l.length := by rw [hk] at hd2; omega
        have hlen1 : bLen [.ref A.length] (B ++ Cell.lst (l.map pairD) :: Cell.lst (f.map pairD) :: q) = .ok (.int (l.length : Nat)) (B ++ Cell.lst (l.map pairD) :: Cell.lst (f.map pairD) :: q) := by
          simp only [bLen, a0, List.length_map]
        have htk : FTake [.ref n, .int (l.length : Nat)] (B ++ Cell.lst (l.map pairD) :: Cell.lst (f.map pairD) :: q) = .ok (.int (k : Nat)) (B.set n (boxC (boxV v (l.length : Nat)) (boxS v s c) (boxN v c)) ++ Cell.lst (l.map pairD) :: Cell.lst (f.map pairD) :: q) := by
          rw [FTake_ok (atA hBn) (by omega) (by omega), hk, setA (by rw [hB]; exact hn)]
        rw [hss] at htk
        generalize hBe2 : A.set n (boxC (boxV v (l.length : Nat)) (boxS v s c) (boxN v c)) = C at *
        have hC : C.length = A.length := by rw [← hBe2]; exact List.length_set
        have b0 : ∀ {a : Cell} {r : Store}, (C ++ a :: r)[A.length]? = some a := fun {a r} => by rw [← hC]; exact at0
        have b1 : ∀ {a b : Cell} {r : Store}, (C ++ a :: b :: r)[A.length + 1]? = some b := fun {a b r} => by rw [← hC]; exact at1
        have u0 : ∀ {a x : Cell} {r : Store}, (C ++ a :: r).set A.length x = C ++ x :: r := fun {a x r} => by rw [← hC]; exact st0
        have u1 : ∀ {a b x : Cell} {r : Store}, (C ++ a :: b :: r).set (A.length + 1) x = C ++ a :: x :: r := fun {a b x r} => by rw [← hC]; exact st1
        have hpop : mPopAt (.ref A.length) [.int (k : Nat)] (C ++ Cell.lst (l.map pairD) :: Cell.lst (f.map pairD) :: q) = .ok (pairD l[k]) (C ++ Cell.lst ((l.eraseIdx k).map pairD) :: Cell.lst (f.map pairD) :: q) := by
          unfold mPopAt
          dsimp only
          rw [b0]
          dsimp only
          rw [if_pos (by omega), seqIndex_of (by omega) (by rw [List.length_map]; omega)]
          dsimp only
          rw [Int.toNat_natCast, List.getElem?_map, List.getElem?_eq_getElem hkl]
          simp only [Option.map_some]
          rw [u0, ← DT.map_erase]
        have happ : mAppend (.ref (A.length + 1)) [pairD l[k]] (C ++ Cell.lst ((l.eraseIdx k).map pairD) :: Cell.lst (f.map pairD) :: q) = .ok .non (C ++ Cell.lst ((l.eraseIdx k).map pairD) :: Cell.lst ((f ++ [l[k]]).map pairD) :: q) := by
          unfold mAppend
          dsimp only
          rw [b1]
          dsimp only
          rw [if_pos (by rw [List.length_map]; have q : sizeLine = 16777216 := sizeLine_eq
                         omega), u1]
          simp
        have r0 : recv "list" (.ref A.length) (B ++ Cell.lst (l.map pairD) :: Cell.lst (f.map pairD) :: q) = true := by unfold recv; dsimp only; rw [a0]; rfl
        have r1 : recv "list" (.ref (A.length + 1)) (B ++ Cell.lst (l.map pairD) :: Cell.lst (f.map pairD) :: q) = true := by unfold recv; dsimp only; rw [a1]; rfl
        refine ⟨[some (.ref n), x1, x2, some (.ref A.length), some (.ref (A.length + 1)), x5, x6], C ++ Cell.lst ((l.eraseIdx k).map pairD) :: Cell.lst ((f ++ [l[k]]).map pairD) :: q, ?_, (l.eraseIdx k).length, ?_, l.eraseIdx k, f ++ [l[k]], _, _, _, q, rfl, rfl, by rw [hBe2], ?_⟩
        · simp [r1, r0, hlen1, htk, hpop, happ]
        · rw [List.length_eraseIdx]; split <;> omega
        · refine List.Perm.trans ?_ hp
          have hg := erase_perm l k hkl
          have : (l.eraseIdx k ++ (f ++ [l[k]])).Perm (l[k] :: l.eraseIdx k ++ f) := by
            rw [← List.append_assoc]
            exact (List.perm_append_comm).trans (by simp)
          exact this.trans (hg.append_right f))
    FU left.length [some (.ref n), x1, x2, some (.ref A.length), some (.ref (A.length + 1)), x5, x6] (A ++ .lst (left.map pairD) :: .lst (found.map pairD) :: q) ⟨left, found, v, s, c, q, rfl, rfl, by rw [hself], List.Perm.refl _⟩ (by unfold FU; omega)
  exact ⟨found', v', s', c', q', by rw [e, e1, e2], hp⟩
end
end Pn
set_option Elab.async false
set_option linter.all false
set_option maxRecDepth 100000
set_option maxHeartbeats 1000000
/-! Pn5: any gate drawn, its rows -/
namespace Pn
open PySem PySem.Spec L2 Dn
def chunk (s : Nat) (l : List (Nat × Nat)) (k : Nat) : List (Nat × Nat) := (l.drop (k * s)).take s
theorem chunks_take (s : Nat) (l : List (Nat × Nat)) : ∀ m, ((List.range m).map (chunk s l)).flatten = l.take (m * s)
  | 0 => by simp
  | m + 1 => by
    rw [List.range_succ, List.map_append, List.flatten_append, chunks_take s l m]
    have e : (m + 1) * s = m * s + s := by rw [Nat.add_mul, Nat.one_mul]
    rw [e, List.take_add]
    simp [chunk]
theorem cut_chunk {s k : Nat} {l : List (Nat × Nat)} (h : k * s + s ≤ l.length) : cutD (l.map pairD) (some ((k * s : Nat) : Int)) (some ((k * s + s : Nat) : Int)) = (chunk s l k).map pairD := by
  unfold cutD
  rw [HT.sIx_nat, HT.sIx_nat, List.length_map, Nat.min_eq_left (show k * s ≤ l.length by omega), Nat.min_eq_left h, Nat.add_sub_cancel_left, ← List.map_drop, ← List.map_take]
  rfl
theorem isGate_chunks {s m : Nat} {l : List (Nat × Nat)} (h : l.Perm (allP s m)) : IsGate s m ((List.range m).map (chunk s l)) := by
  have hl : l.length = m * s := by rw [h.length_eq, allP_len, Nat.mul_comm]
  refine ⟨by simp, fun r hr => ?_, ?_⟩
  · obtain ⟨k, hk, rfl⟩ := List.mem_map.mp hr
    have hk : k < m := List.mem_range.mp hk
    unfold chunk
    have : (k + 1) * s ≤ m * s := Nat.mul_le_mul_right s hk
    rw [Nat.add_mul, Nat.one_mul] at this
    rw [List.length_take, List.length_drop, hl]
    omega
  · rw [chunks_take, ← hl, List.take_length]
    exact h
noncomputable def FAny : DF := trimF (dDef 3 7 (pAny FTake))
section
variable {A : Store} {n : Nat} {v s c : Int}
theorem any_ok {sd mk : Nat} (h1 : sd ≤ 1000) (h2 : mk ≤ 1000) (h : A[n]? = some (boxC v s c)) : ∃ g v' s' c', FAny [.ref n, .int (sd : Nat), .int (mk : Nat)] A = .ok (gateD g) (A.set n (boxC v' s' c')) ∧ IsGate sd mk g := by
  have hn : n < A.length := (List.getElem?_eq_some_iff.mp h).1
  obtain ⟨x5, x6, q, e1⟩ := any_rows (A := A) h1 h2 (x0 := .ref n) (L := A.length) rfl
  have hml : sd * mk ≤ 1000000 := by
    have := Nat.mul_le_mul h1 h2
    omega
  obtain ⟨found, v', s', c', q', e2, hp⟩ := any_while h (x1 := some (.int (sd : Nat))) (x2 := some (.int (mk : Nat))) (x5 := x5) (x6 := x6) (L := A.length) rfl (left := allP sd mk) (found := []) (q := q) (by rw [allP_len]; simpa using hml)
  rw [List.append_nil] at hp
  have hl : found.length = mk * sd := by rw [hp.length_eq, allP_len, Nat.mul_comm]
  generalize hB : A.set n (boxC v' s' c') = B at *
  have hBl : B.length = A.length := by rw [← hB]; exact List.length_set
  have b1 : ∀ {a b : Cell} {r : Store}, (B ++ a :: b :: r)[A.length + 1]? = some b := fun {a b r} => by rw [← hBl]; exact at1
  -- the rows
  obtain ⟨q2, e3⟩ := lcL_map (chk := fun _ => true) (g := gNm 5) (te := dCall bTuple (aCons (dSl (dVar 4) (dPart (dBin vMul (dVar 5) (dVar 1))) (dPart (dBin vAdd (dBin vMul (dVar 5) (dVar 1)) (dVar 1)))) aNil)) (env := [some (.ref n), some (.int (sd : Nat)), some (.int (mk : Nat)), some (.ref A.length), some (.ref (A.length + 1)), none, x6])
    (st0 := B ++ .lst [] :: .lst (found.map pairD) :: q') (fun x => match x with
      | .int k => rowD (chunk sd found k.toNat)
      | _ => .non) (fun _ => rfl) (xs := rngD 0 mk) (acc := []) (q := []) (by simp; exact sl_ge _ (by omega)) (fun x hx q => by
      obtain ⟨k, hk, rfl⟩ := rng_mem hx
      have hks : (k + 1) * sd ≤ mk * sd := Nat.mul_le_mul_right sd hk
      rw [Nat.add_mul, Nat.one_mul] at hks
      refine ⟨[some (.ref n), some (.int (sd : Nat)), some (.int (mk : Nat)), some (.ref A.length), some (.ref (A.length + 1)), some (.int (k : Nat)), x6], q ++ [.lst ((chunk sd found k).map pairD)], rfl, ?_⟩
      have k1 : Dn.small64 (k : Int) = true := by
        unfold Dn.small64
        simp only [Bool.and_eq_true, decide_eq_true_eq]
        omega
      have hsl : ∀ S : Store, S[A.length + 1]? = some (.lst (found.map pairD)) → vSl (.ref (A.length + 1)) (some ((k : Int) * (sd : Int))) (some ((k : Int) * (sd : Int) + (sd : Int))) S = .ok (.ref S.length) (S ++ [.lst ((chunk sd found k).map pairD)]) := fun S hS => by
        unfold vSl
        dsimp only
        rw [hS]
        dsimp only
        have c1 : (k : Int) * (sd : Int) = ((k * sd : Nat) : Int) := by simp
        have c2 : (k : Int) * (sd : Int) + (sd : Int) = ((k * sd + sd : Nat) : Int) := by simp
        rw [c2, c1, cut_chunk (by omega)]
        rfl
      have hat : ((B ++ .lst [] :: .lst (found.map pairD) :: q') ++ q)[A.length + 1]? = some (.lst (found.map pairD)) := atA b1
      have e0 : (B ++ .lst [] :: .lst (found.map pairD) :: q') ++ (q ++ [.lst ((chunk sd found k).map pairD)]) = ((B ++ .lst [] :: .lst (found.map pairD) :: q') ++ q) ++ [.lst ((chunk sd found k).map pairD)] := by simp
      rw [e0]
      generalize ((B ++ .lst [] :: .lst (found.map pairD) :: q') ++ q) = S at *
      have hlast : (S ++ [Cell.lst ((chunk sd found k).map pairD)])[S.length]? = some (.lst ((chunk sd found k).map pairD)) := by simp
      have ht : bTuple [.ref S.length] (S ++ [Cell.lst ((chunk sd found k).map pairD)]) = .ok (rowD (chunk sd found k)) (S ++ [Cell.lst ((chunk sd found k).map pairD)]) := by
        unfold bTuple
        dsimp only
        rw [hlast]
        rfl
      generalize hE : [some (D.ref n), some (D.int (sd : Nat)), some (D.int (mk : Nat)), some (D.ref A.length), some (D.ref (A.length + 1)), some (D.int (k : Nat)), x6] = E at *
      have v4 : ∀ T, dVar 4 E T = .ok (.ref (A.length + 1)) T := fun T => by rw [← hE]; rfl
      have v5 : ∀ T, dVar 5 E T = .ok (.int (k : Nat)) T := fun T => by rw [← hE]; rfl
      have v1 : ∀ T, dVar 1 E T = .ok (.int (sd : Nat)) T := fun T => by rw [← hE]; rfl
      have m1 : ∀ T, dBin vMul (dVar 5) (dVar 1) E T = .ok (.int ((k : Int) * (sd : Int))) T := fun T => by
        unfold dBin
        rw [v5, Dn.R.bind_ok, v1, Dn.R.bind_ok]
        exact e_mulL k1
      have m2 : ∀ T, dBin vAdd (dBin vMul (dVar 5) (dVar 1)) (dVar 1) E T = .ok (.int ((k : Int) * (sd : Int) + (sd : Int))) T := fun T => by
        show (dBin vMul (dVar 5) (dVar 1) E T).bind _ = _
        rw [m1, Dn.R.bind_ok, v1, Dn.R.bind_ok]
        rfl
      have m3 : dSl (dVar 4) (dPart (dBin vMul (dVar 5) (dVar 1))) (dPart (dBin vAdd (dBin vMul (dVar 5) (dVar 1)) (dVar 1))) E S = .ok (.ref S.length) (S ++ [Cell.lst ((chunk sd found k).map pairD)]) := by
        unfold dSl dPart
        rw [v4, Dn.R.bind_ok, m1, Dn.R.bind_ok]
        dsimp only
        rw [Dn.R.bind_ok, m2, Dn.R.bind_ok]
        dsimp only
        rw [Dn.R.bind_ok]
        exact hsl S hat
      show (aCons _ aNil E S).bind bTuple = _
      show ((dSl _ _ _ E S).bind _).bind bTuple = _
      rw [m3, Dn.R.bind_ok]
      show bTuple [.ref S.length] _ = _
      rw [ht]
      rfl)
  rw [List.append_nil, List.nil_append] at e3
  have e4 : ((rngD 0 mk).map fun x => match x with
      | .int k => rowD (chunk sd found k.toNat)
      | _ => .non) = ((List.range mk).map (chunk sd found)).map rowD := by
    rw [rng_map, List.map_map]
    simp [Function.comp_def]
  rw [e4] at e3
  refine ⟨(List.range mk).map (chunk sd found), v', s', c', trimF_ok (g := .lst [] :: .lst (found.map pairD) :: (q' ++ q2 ++ [.lst (((List.range mk).map (chunk sd found)).map rowD)])) ?_ (by rw [hB]; exact hBl) (by simp) (Same.set _ (boxC_lt _ _ _ _)), isGate_chunks hp⟩
  rw [hB]
  have sA : dAsg (dTup (aCons (dLst aNil) (aCons (dLst aNil) aNil))) (gTp 2 (gsCons (gNm 3) (gsCons (gNm 4) gsNil))) [some (.ref n), some (.int (sd : Nat)), some (.int (mk : Nat)), none, none, none, none] A =
      .nx [some (.ref n), some (.int (sd : Nat)), some (.int (mk : Nat)), some (.ref A.length), some (.ref (A.length + 1)), none, none] (A ++ [.lst [], .lst []]) := by
    simp
  have sB : dFor (iRange1 (aCons (dVar 2) aNil)) (gNm 5) (dDrop (dMeth "list" mExtend (dVar 3) (aCons (dLc (iRange1 (aCons (dVar 1) aNil)) (gNm 6) dYes (dTup (aCons (dVar 6) (aCons (dVar 5) aNil))) [6]) aNil))) [some (.ref n), some (.int (sd : Nat)), some (.int (mk : Nat)), some (.ref A.length), some (.ref (A.length + 1)), none, none] (A ++ [.lst [], .lst []]) =
      .nx [some (.ref n), some (.int (sd : Nat)), some (.int (mk : Nat)), some (.ref A.length), some (.ref (A.length + 1)), x5, x6] (A ++ .lst ((allP sd mk).map pairD) :: .lst [] :: q) := by
    unfold dFor
    rw [iRange1_ok (k := mk) rfl (by omega), R.toS_ok]
    exact e1
  have sD : dRet (dCall bTuple (aCons (dLc (iRange1 (aCons (dVar 2) aNil)) (gNm 5) dYes (dCall bTuple (aCons (dSl (dVar 4) (dPart (dBin vMul (dVar 5) (dVar 1))) (dPart (dBin vAdd (dBin vMul (dVar 5) (dVar 1)) (dVar 1)))) aNil)) [5]) aNil)) [some (.ref n), some (.int (sd : Nat)), some (.int (mk : Nat)), some (.ref A.length), some (.ref (A.length + 1)), x5, x6] (B ++ .lst [] :: .lst (found.map pairD) :: q') =
      .rt (gateD ((List.range mk).map (chunk sd found))) (B ++ .lst [] :: .lst (found.map pairD) :: (q' ++ q2 ++ [.lst (((List.range mk).map (chunk sd found)).map rowD)])) := by
    have l1 : dLc (iRange1 (aCons (dVar 2) aNil)) (gNm 5) dYes (dCall bTuple (aCons (dSl (dVar 4) (dPart (dBin vMul (dVar 5) (dVar 1))) (dPart (dBin vAdd (dBin vMul (dVar 5) (dVar 1)) (dVar 1)))) aNil)) [5] [some (.ref n), some (.int (sd : Nat)), some (.int (mk : Nat)), some (.ref A.length), some (.ref (A.length + 1)), x5, x6] (B ++ .lst [] :: .lst (found.map pairD) :: q') =
        .ok (.ref ((B ++ .lst [] :: .lst (found.map pairD) :: q') ++ q2).length) (((B ++ .lst [] :: .lst (found.map pairD) :: q') ++ q2) ++ [.lst (((List.range mk).map (chunk sd found)).map rowD)]) := by
      unfold dLc
      rw [iRange1_ok (k := mk) rfl (by omega), Dn.R.bind_ok]
      dsimp only
      have hw : dWipe [some (.ref n), some (.int (sd : Nat)), some (.int (mk : Nat)), some (.ref A.length), some (.ref (A.length + 1)), x5, x6] [5] = [some (.ref n), some (.int (sd : Nat)), some (.int (mk : Nat)), some (.ref A.length), some (.ref (A.length + 1)), none, x6] := rfl
      rw [hw, e3, Dn.R.bind_ok]
      rfl
    have e0 : B ++ .lst [] :: .lst (found.map pairD) :: (q' ++ q2 ++ [.lst (((List.range mk).map (chunk sd found)).map rowD)]) = ((B ++ .lst [] :: .lst (found.map pairD) :: q') ++ q2) ++ [.lst (((List.range mk).map (chunk sd found)).map rowD)] := by simp
    rw [e0]
    generalize ((B ++ .lst [] :: .lst (found.map pairD) :: q') ++ q2) = S at *
    have hl : (S ++ [Cell.lst (((List.range mk).map (chunk sd found)).map rowD)])[S.length]? = some (Cell.lst (((List.range mk).map (chunk sd found)).map rowD)) := by simp
    have ht : bTuple [.ref S.length] (S ++ [Cell.lst (((List.range mk).map (chunk sd found)).map rowD)]) = .ok (gateD ((List.range mk).map (chunk sd found))) (S ++ [Cell.lst (((List.range mk).map (chunk sd found)).map rowD)]) := by
      unfold bTuple
      dsimp only
      rw [hl]
      rfl
    show ((dLc _ _ _ _ _ _ _).bind _ |>.bind bTuple).toS _ _ = _
    rw [l1, Dn.R.bind_ok]
    show (bTuple [.ref S.length] _).toS _ _ = _
    rw [ht]
    rfl
  refine dDef_rt rfl rfl ?_
  unfold pAny
  exact (dSeq_nx sA).trans ((dSeq_nx sB).trans ((dSeq_nx (show dWhile _ _ _ _ = _ from e2)).trans sD))
end
end Pn
set_option Elab.async false
set_option linter.all false
set_option maxRecDepth 100000
set_option maxHeartbeats 1000000
/-! Pn6: an even gate drawn, a gate drawn, a box -/
namespace Pn
open PySem PySem.Spec L2 Dn
theorem e_eqI {i j : Int} {st : Store} : vEq (.int i) (.int j) st = .ok (.bl (decide (i = j))) st := by
  rw [vEq_of (p := .int i) (q := .int j) rfl rfl ((Ok.int i).shaped (by decide)) ((Ok.int j).shaped (by decide))]
  simp only [PyData.eqv]
  by_cases h : i = j <;> simp [h]
theorem subset_perm {α : Type} [BEq α] [LawfulBEq α] : ∀ {l l' : List α}, l.Nodup → (∀ x ∈ l, x ∈ l') → l'.length ≤ l.length → l.Perm l'
  | [], l', _, _, h => by
    have : l' = [] := List.length_eq_zero_iff.mp (by simpa using h)
    rw [this]
  | x :: l, l', hn, hs, h => by
    obtain ⟨hx, hn'⟩ := List.nodup_cons.mp hn
    have hm := hs x (List.mem_cons_self ..)
    have ih := subset_perm (l := l) (l' := l'.erase x) hn' (fun y hy => (List.mem_erase_of_ne (fun e => by subst e; exact hx hy)).mpr (hs y (List.mem_cons_of_mem _ hy))) (by rw [List.length_erase_of_mem hm]; simp at h; omega)
    exact (ih.cons x).trans (List.perm_cons_erase hm).symm
/-! ### the gate by sums -/
def evenSh (s m more alone k i : Nat) : Nat := (k + (if alone < s then (if i = alone then 1 else 0) else more)) % m
def evenP (s m on more alone k i : Nat) : Nat × Nat := ((i + evenSh s m more alone k i + on) % s, evenSh s m more alone k i)
def evenG (s m on more alone : Nat) : Gate := (List.range m).map fun k => (List.range s).map fun i => evenP s m on more alone k i
theorem mod_add_inj {a b c m : Nat} (ha : a < m) (hb : b < m) (h : (a + c) % m = (b + c) % m) : a = b := by
  rcases Nat.le_total a b with q | q
  · have e := Nat.sub_mod_eq_zero_of_mod_eq h.symm
    rw [Nat.add_sub_add_right, Nat.mod_eq_of_lt (by omega)] at e
    omega
  · have e := Nat.sub_mod_eq_zero_of_mod_eq h
    rw [Nat.add_sub_add_right, Nat.mod_eq_of_lt (by omega)] at e
    omega
theorem evenP_inj {s m on more alone k i k' i' : Nat} (hi : i < s) (hi' : i' < s) (hk : k < m) (hk' : k' < m) (h : evenP s m on more alone k i = evenP s m on more alone k' i') : i = i' ∧ k = k' := by
  unfold evenP at h
  obtain ⟨h1, h2⟩ := Prod.mk.inj h
  rw [h2] at h1
  have e : i = i' := by
    refine mod_add_inj (c := evenSh s m more alone k' i' + on) hi hi' ?_
    rw [← Nat.add_assoc, ← Nat.add_assoc]
    exact h1
  subst e
  unfold evenSh at h2
  exact ⟨rfl, mod_add_inj hk hk' h2⟩
theorem evenG_flat (s m on more alone : Nat) : (evenG s m on more alone).flatten = (allP s m).map fun p => evenP s m on more alone p.2 p.1 := by
  unfold evenG allP
  rw [List.map_flatMap, List.flatMap_def]
  simp [Function.comp_def]
theorem nodup_map {α β : Type} {f : α → β} {l : List α} (hn : l.Nodup) (h : ∀ a ∈ l, ∀ b ∈ l, f a = f b → a = b) : (l.map f).Nodup := by
  have hn' : List.Pairwise (fun a b => a ≠ b) l := hn
  show List.Pairwise (fun a b => a ≠ b) _
  exact List.pairwise_map.mpr (hn'.imp_of_mem fun {a b} ha hb hne e => hne (h a ha b hb e))
theorem isGate_even {s m on more alone : Nat} (hs : 0 < s) (hm : 0 < m) : IsGate s m (evenG s m on more alone) := by
  refine ⟨by simp [evenG], fun r hr => ?_, ?_⟩
  · obtain ⟨k, _, rfl⟩ := List.mem_map.mp hr
    simp
  · rw [evenG_flat]
    refine subset_perm (nodup_map (nodup_allP s m) fun a ha b hb e => ?_) (fun p hp => ?_) (by simp)
    · obtain ⟨h1, h2⟩ := mem_allP.mp ha
      obtain ⟨h3, h4⟩ := mem_allP.mp hb
      obtain ⟨e1, e2⟩ := evenP_inj h1 h3 h2 h4 e
      exact Prod.ext e1 e2
    · obtain ⟨q, _, rfl⟩ := List.mem_map.mp hp
      exact mem_allP.mpr ⟨Nat.mod_lt _ hs, Nat.mod_lt _ hm⟩
/-! ### drawing -/
theorem draw {A : Store} {n : Nat} {v s c : Int} (h : A[n]? = some (boxC v s c)) {m : Nat} (h1 : 0 < m) (h2 : m ≤ 1000000) : ∃ (d : Nat) (v' s' c' : Int), d < m ∧ FTake [.ref n, .int (m : Nat)] A = .ok (.int (d : Nat)) (A.set n (boxC v' s' c')) := by
  obtain ⟨hd1, hd2⟩ := digit_lt v s c (m := (m : Nat)) (by omega)
  obtain ⟨k, hk⟩ := Int.eq_ofNat_of_zero_le hd1
  exact ⟨k, _, _, _, by omega, by rw [FTake_ok h (by omega) (by omega), hk]⟩
theorem draw_set {A : Store} {n : Nat} (hn : n < A.length) {v s c : Int} {m : Nat} (h1 : 0 < m) (h2 : m ≤ 1000000) : ∃ (d : Nat) (v' s' c' : Int), d < m ∧ FTake [.ref n, .int (m : Nat)] (A.set n (boxC v s c)) = .ok (.int (d : Nat)) (A.set n (boxC v' s' c')) := by
  obtain ⟨d, v', s', c', h, e⟩ := draw (A := A.set n (boxC v s c)) (List.getElem?_set_self hn) h1 h2
  exact ⟨d, v', s', c', h, by rw [e, List.set_set]⟩
def pEven (m__law_take : DF) : DS := (dSeq (dPar [3, 4, 5] (aCons (dCall m__law_take (aCons (dVar 0) (aCons (dVar 1) aNil))) (aCons (dCall m__law_take (aCons (dVar 0) (aCons (dVar 2) aNil))) (aCons (dCall m__law_take (aCons (dVar 0) (aCons (dBin vAdd (dVar 1) (dC (.int 2))) aNil))) aNil)))) (dSeq (dAsg (dLst aNil) (gNm 6)) (dSeq (dFor (iRange1 (aCons (dVar 2) aNil)) (gNm 7) (dSeq (dAsg (dLst aNil) (gNm 8)) (dSeq (dFor (iRange1 (aCons (dVar 1) aNil)) (gNm 9) (dSeq (dAsg (dBin vMod (dBin vAdd (dVar 7) (dBin vIx (dLst (aCons (dVar 4) (aCons (dCall bInt (aCons (dBin vEq (dVar 9) (dVar 5)) aNil)) aNil))) (dCall bInt (aCons (dBin vLt (dVar 5) (dVar 1)) aNil)))) (dVar 2)) (gNm 10)) (dDrop (dMeth "list" mAppend (dVar 8) (aCons (dTup (aCons (dBin vMod (dBin vAdd (dBin vAdd (dVar 9) (dVar 10)) (dVar 3)) (dVar 1)) (aCons (dVar 10) aNil))) aNil))))) (dDrop (dMeth "list" mAppend (dVar 6) (aCons (dCall bTuple (aCons (dVar 8) aNil)) aNil)))))) (dRet (dCall bTuple (aCons (dVar 6) aNil))))))
section
variable {n : Nat} {sd mk on more al : Nat}
def eBody : DS := dSeq (dAsg (dBin vMod (dBin vAdd (dVar 7) (dBin vIx (dLst (aCons (dVar 4) (aCons (dCall bInt (aCons (dBin vEq (dVar 9) (dVar 5)) aNil)) aNil))) (dCall bInt (aCons (dBin vLt (dVar 5) (dVar 1)) aNil)))) (dVar 2)) (gNm 10)) (dDrop (dMeth "list" mAppend (dVar 8) (aCons (dTup (aCons (dBin vMod (dBin vAdd (dBin vAdd (dVar 9) (dVar 10)) (dVar 3)) (dVar 1)) (aCons (dVar 10) aNil))) aNil)))
def eEnv (n sd mk on more al F : Nat) (x7 x8 x9 x10 : Option D) : Dn.Env := [some (.ref n), some (.int (sd : Nat)), some (.int (mk : Nat)), some (.int (on : Nat)), some (.int (more : Nat)), some (.int (al : Nat)), some (.ref F), x7, x8, x9, x10]
theorem eBody_ok {S q : Store} {F k i : Nat} {row : List (Nat × Nat)} {x10 : Option D} (h1 : 0 < sd) (h2 : 0 < mk) (hr : row.length < 1000000) : ∃ q' x10', eBody (eEnv n sd mk on more al F (some (.int (k : Nat))) (some (.ref S.length)) (some (.int (i : Nat))) x10) (S ++ .lst (row.map pairD) :: q) =
    .nx (eEnv n sd mk on more al F (some (.int (k : Nat))) (some (.ref S.length)) (some (.int (i : Nat))) x10') (S ++ .lst ((row ++ [evenP sd mk on more al k i]).map pairD) :: q') := by
  obtain ⟨T, hTe⟩ : ∃ T : Store, T = S ++ .lst (row.map pairD) :: q := ⟨_, rfl⟩
  obtain ⟨T2, hT2e⟩ : ∃ T2 : Store, T2 = T ++ [.lst [.int (more : Nat), .int (if (i : Int) = (al : Int) then 1 else 0)]] := ⟨_, rfl⟩
  have hT : T2[T.length]? = some (.lst [.int (more : Nat), .int (if (i : Int) = (al : Int) then 1 else 0)]) := by rw [hT2e]; simp
  have g1 : vIx (.ref T.length) (.int (if (al : Int) < (sd : Int) then 1 else 0)) T2 = .ok (.int ((if al < sd then (if i = al then 1 else 0) else more : Nat) : Int)) T2 := by
    by_cases ha : al < sd
    · have ha' : (al : Int) < (sd : Int) := by omega
      rw [if_pos ha', if_pos ha]
      refine (e_ixL (j := 1) hT rfl rfl).trans ?_
      by_cases hi : i = al
      · rw [if_pos hi, if_pos (by omega)]; rfl
      · rw [if_neg hi, if_neg (by omega)]; rfl
    · have ha' : ¬ (al : Int) < (sd : Int) := by omega
      rw [if_neg ha', if_neg ha]
      exact e_ixL (j := 0) hT rfl rfl
  rw [← hTe]
  obtain ⟨E, hE⟩ : ∃ E, E = eEnv n sd mk on more al F (some (.int (k : Nat))) (some (.ref S.length)) (some (.int (i : Nat))) x10 := ⟨_, rfl⟩
  rw [← hE]
  have v1 : ∀ T, dVar 1 E T = .ok (.int (sd : Nat)) T := fun T => by rw [hE]; rfl
  have v2 : ∀ T, dVar 2 E T = .ok (.int (mk : Nat)) T := fun T => by rw [hE]; rfl
  have v4 : ∀ T, dVar 4 E T = .ok (.int (more : Nat)) T := fun T => by rw [hE]; rfl
  have v5 : ∀ T, dVar 5 E T = .ok (.int (al : Nat)) T := fun T => by rw [hE]; rfl
  have v7 : ∀ T, dVar 7 E T = .ok (.int (k : Nat)) T := fun T => by rw [hE]; rfl
  have v9 : ∀ T, dVar 9 E T = .ok (.int (i : Nat)) T := fun T => by rw [hE]; rfl
  have i1 : ∀ {p : Prop} [Decidable p] {T : Store}, bInt [.bl (decide p)] T = .ok (.int (if p then 1 else 0)) T := fun {p _ T} => by
    show R.ok (D.int (if (decide p) = true then 1 else 0)) T = _
    by_cases hp : p <;> simp [hp]
  have A0 : dLst (aCons (dVar 4) (aCons (dCall bInt (aCons (dBin vEq (dVar 9) (dVar 5)) aNil)) aNil)) E T = .ok (.ref T.length) T2 := by
    simp only [e_lst, e_acons, e_call, e_Bin, e_anil, v4, v9, v5, Dn.R.bind_ok, e_eqI, i1]
    rw [hT2e]
    exact mkLst_ok (show 2 ≤ sizeLine by decide)
  have A1 : dBin vMod (dBin vAdd (dVar 7) (dBin vIx (dLst (aCons (dVar 4) (aCons (dCall bInt (aCons (dBin vEq (dVar 9) (dVar 5)) aNil)) aNil))) (dCall bInt (aCons (dBin vLt (dVar 5) (dVar 1)) aNil)))) (dVar 2) E T = .ok (.int (evenSh sd mk more al k i : Nat)) T2 := by
    simp only [e_acons, e_call, e_Bin, e_anil, v7, v5, v1, v2, Dn.R.bind_ok, A0, e_cmp, i1, g1, e_add]
    rw [e_mod (by omega)]
    rfl
  obtain ⟨E2, hE2⟩ : ∃ E2, E2 = eEnv n sd mk on more al F (some (.int (k : Nat))) (some (.ref S.length)) (some (.int (i : Nat))) (some (.int (evenSh sd mk more al k i : Nat))) := ⟨_, rfl⟩
  have A2 : dAsg (dBin vMod (dBin vAdd (dVar 7) (dBin vIx (dLst (aCons (dVar 4) (aCons (dCall bInt (aCons (dBin vEq (dVar 9) (dVar 5)) aNil)) aNil))) (dCall bInt (aCons (dBin vLt (dVar 5) (dVar 1)) aNil)))) (dVar 2)) (gNm 10) E T = .nx E2 T2 := by
    rw [e_asg, A1, R.toS_ok, hE, hE2]
    rfl
  have w0 : ∀ T, dVar 1 E2 T = .ok (.int (sd : Nat)) T := fun T => by rw [hE2]; rfl
  have w3 : ∀ T, dVar 3 E2 T = .ok (.int (on : Nat)) T := fun T => by rw [hE2]; rfl
  have w8 : ∀ T, dVar 8 E2 T = .ok (.ref S.length) T := fun T => by rw [hE2]; rfl
  have w9 : ∀ T, dVar 9 E2 T = .ok (.int (i : Nat)) T := fun T => by rw [hE2]; rfl
  have w10 : ∀ T, dVar 10 E2 T = .ok (.int (evenSh sd mk more al k i : Nat)) T := fun T => by rw [hE2]; rfl
  have hT2 : T2 = S ++ .lst (row.map pairD) :: (q ++ [.lst [.int (more : Nat), .int (if (i : Int) = (al : Int) then 1 else 0)]]) := by rw [hT2e, hTe]; simp
  generalize q ++ [Cell.lst [.int (more : Nat), .int (if (i : Int) = (al : Int) then 1 else 0)]] = q2 at hT2
  have r0 : recv "list" (.ref S.length) T2 = true := by unfold recv; dsimp only; rw [hT2, at0]; rfl
  have B1 : mAppend (.ref S.length) [pairD (evenP sd mk on more al k i)] T2 = .ok .non (S ++ .lst ((row ++ [evenP sd mk on more al k i]).map pairD) :: q2) := by
    unfold mAppend
    dsimp only
    rw [hT2, at0]
    dsimp only
    rw [if_pos (by rw [List.length_map]; have q : sizeLine = 16777216 := sizeLine_eq
                   omega), st0]
    simp
  have B2 : dTup (aCons (dBin vMod (dBin vAdd (dBin vAdd (dVar 9) (dVar 10)) (dVar 3)) (dVar 1)) (aCons (dVar 10) aNil)) E2 T2 = .ok (pairD (evenP sd mk on more al k i)) T2 := by
    simp only [e_tup, e_acons, e_Bin, e_anil, w9, w10, w3, w0, Dn.R.bind_ok, e_add]
    rw [e_mod (by omega), Dn.R.bind_ok, Dn.R.bind_ok, mkTup2]
    rfl
  refine ⟨q2, some (.int (evenSh sd mk more al k i : Nat)), ?_⟩
  rw [← hE2]
  unfold eBody
  refine (dSeq_nx A2).trans ?_
  simp only [e_drop, e_meth, w8, Dn.R.bind_ok, r0, if_true, e_acons, e_anil, B2, B1, R.toS_ok]
theorem eRow_ok {S : Store} {F k : Nat} {x9 x10 : Option D} (h1 : 0 < sd) (h2 : 0 < mk) (hs : sd ≤ 1000) : ∃ q' x9' x10', forL (fun _ => true) (gNm 9) eBody (rngD 0 sd) (eEnv n sd mk on more al F (some (.int (k : Nat))) (some (.ref S.length)) x9 x10) (S ++ [.lst []]) =
    .nx (eEnv n sd mk on more al F (some (.int (k : Nat))) (some (.ref S.length)) x9' x10') (S ++ .lst (((List.range sd).map (evenP sd mk on more al k)).map pairD) :: q') := by
  obtain ⟨env', st', e, x9', x10', q', e1, e2⟩ := forL_run (chk := fun _ => true) (g := gNm 9) (m := eBody)
    (fun i env st => ∃ x9 x10 q, env = eEnv n sd mk on more al F (some (.int (k : Nat))) (some (.ref S.length)) x9 x10 ∧ st = S ++ .lst (((List.range i).map (evenP sd mk on more al k)).map pairD) :: q) (fun _ _ _ _ => rfl)
    (xs := rngD 0 sd) (i0 := 0) (env := eEnv n sd mk on more al F (some (.int (k : Nat))) (some (.ref S.length)) x9 x10) (st := S ++ [.lst []]) ⟨x9, x10, [], rfl, by simp⟩ (by
      rintro i x env st hx ⟨x9, x10, q, rfl, rfl⟩
      rw [Nat.zero_add] at *
      obtain ⟨hi, rfl⟩ := rng_get hx
      obtain ⟨q', x10', e⟩ := eBody_ok (n := n) (on := on) (more := more) (al := al) (S := S) (q := q) (F := F) (k := k) (i := i) (row := (List.range i).map (evenP sd mk on more al k)) (x10 := x10) h1 h2 (by simp; omega)
      refine ⟨_, _, _, _, rfl, e, some (.int (i : Nat)), x10', q', rfl, ?_⟩
      rw [List.range_succ]
      simp)
  rw [Nat.zero_add, rng_len] at e2
  exact ⟨q', x9', x10', by rw [e, e1, e2]⟩
def oBody : DS := dSeq (dAsg (dLst aNil) (gNm 8)) (dSeq (dFor (iRange1 (aCons (dVar 1) aNil)) (gNm 9) eBody) (dDrop (dMeth "list" mAppend (dVar 6) (aCons (dCall bTuple (aCons (dVar 8) aNil)) aNil))))
theorem oBody_ok {B q : Store} {k : Nat} {rows : Gate} {x8 x9 x10 : Option D} (h1 : 0 < sd) (h2 : 0 < mk) (hs : sd ≤ 1000) (hr : rows.length < 1000000) : ∃ q' x8' x9' x10', oBody (eEnv n sd mk on more al B.length (some (.int (k : Nat))) x8 x9 x10) (B ++ .lst (rows.map rowD) :: q) =
    .nx (eEnv n sd mk on more al B.length (some (.int (k : Nat))) x8' x9' x10') (B ++ .lst ((rows ++ [(List.range sd).map (evenP sd mk on more al k)]).map rowD) :: q') := by
  obtain ⟨S, hS⟩ : ∃ S : Store, S = B ++ .lst (rows.map rowD) :: q := ⟨_, rfl⟩
  rw [← hS]
  obtain ⟨q', x9', x10', e⟩ := eRow_ok (n := n) (on := on) (more := more) (al := al) (S := S) (F := B.length) (k := k) (x9 := x9) (x10 := x10) h1 h2 hs
  have s1 : dAsg (dLst aNil) (gNm 8) (eEnv n sd mk on more al B.length (some (.int (k : Nat))) x8 x9 x10) S = .nx (eEnv n sd mk on more al B.length (some (.int (k : Nat))) (some (.ref S.length)) x9 x10) (S ++ [.lst []]) := by
    rw [e_asg, e_lst, e_anil, Dn.R.bind_ok, mkLst_nil, R.toS_ok]
    rfl
  have s2 : dFor (iRange1 (aCons (dVar 1) aNil)) (gNm 9) eBody (eEnv n sd mk on more al B.length (some (.int (k : Nat))) (some (.ref S.length)) x9 x10) (S ++ [.lst []]) = .nx (eEnv n sd mk on more al B.length (some (.int (k : Nat))) (some (.ref S.length)) x9' x10') (S ++ .lst (((List.range sd).map (evenP sd mk on more al k)).map pairD) :: q') := by
    unfold dFor
    rw [iRange1_ok (k := sd) rfl (by omega), R.toS_ok]
    exact e
  obtain ⟨E, hE⟩ : ∃ E, E = eEnv n sd mk on more al B.length (some (.int (k : Nat))) (some (.ref S.length)) x9' x10' := ⟨_, rfl⟩
  obtain ⟨T, hT⟩ : ∃ T : Store, T = S ++ .lst (((List.range sd).map (evenP sd mk on more al k)).map pairD) :: q' := ⟨_, rfl⟩
  have v6 : ∀ T, dVar 6 E T = .ok (.ref B.length) T := fun T => by rw [hE]; rfl
  have v8 : ∀ T, dVar 8 E T = .ok (.ref S.length) T := fun T => by rw [hE]; rfl
  have hT2 : T = B ++ .lst (rows.map rowD) :: (q ++ .lst (((List.range sd).map (evenP sd mk on more al k)).map pairD) :: q') := by rw [hT, hS]; simp
  have r0 : recv "list" (.ref B.length) T = true := by unfold recv; dsimp only; rw [hT2, at0]; rfl
  have t1 : bTuple [.ref S.length] T = .ok (rowD ((List.range sd).map (evenP sd mk on more al k))) T := by
    unfold bTuple
    dsimp only
    rw [hT, at0]
    rfl
  have a1 : mAppend (.ref B.length) [rowD ((List.range sd).map (evenP sd mk on more al k))] T = .ok .non (B ++ .lst ((rows ++ [(List.range sd).map (evenP sd mk on more al k)]).map rowD) :: (q ++ .lst (((List.range sd).map (evenP sd mk on more al k)).map pairD) :: q')) := by
    unfold mAppend
    dsimp only
    rw [hT2, at0]
    dsimp only
    rw [if_pos (by rw [List.length_map]; have q : sizeLine = 16777216 := sizeLine_eq
                   omega), st0]
    simp
  refine ⟨q ++ .lst (((List.range sd).map (evenP sd mk on more al k)).map pairD) :: q', some (.ref S.length), x9', x10', ?_⟩
  unfold oBody
  refine (dSeq_nx s1).trans ((dSeq_nx s2).trans ?_)
  rw [← hE, ← hT]
  simp only [e_drop, e_meth, v6, v8, Dn.R.bind_ok, r0, if_true, e_acons, e_anil, e_call, t1, a1, R.toS_ok]
noncomputable def FEven : DF := trimF (dDef 3 11 (pEven FTake))
theorem even_ok {A : Store} {v s c : Int} (hs0 : 0 < sd) (hm0 : 0 < mk) (h1 : sd ≤ 1000) (h2 : mk ≤ 1000) (h : A[n]? = some (boxC v s c)) : ∃ g v' s' c', FEven [.ref n, .int (sd : Nat), .int (mk : Nat)] A = .ok (gateD g) (A.set n (boxC v' s' c')) ∧ IsGate sd mk g := by
  have hn : n < A.length := (List.getElem?_eq_some_iff.mp h).1
  obtain ⟨on, v1, s1, c1, hd1, t1⟩ := draw h hs0 (by omega : sd ≤ 1000000)
  obtain ⟨more, v2, s2, c2, hd2, t2⟩ := draw_set hn (v := v1) (s := s1) (c := c1) hm0 (by omega : mk ≤ 1000000)
  obtain ⟨al, v3, s3, c3, hd3, t3⟩ := draw_set hn (v := v2) (s := s2) (c := c2) (m := sd + 2) (by omega) (by omega)
  obtain ⟨B, hB⟩ : ∃ B, B = A.set n (boxC v3 s3 c3) := ⟨_, rfl⟩
  have hBl : B.length = A.length := by rw [hB]; exact List.length_set
  rw [← hB] at t3
  have p1 : dPar [3, 4, 5] (aCons (dCall FTake (aCons (dVar 0) (aCons (dVar 1) aNil))) (aCons (dCall FTake (aCons (dVar 0) (aCons (dVar 2) aNil))) (aCons (dCall FTake (aCons (dVar 0) (aCons (dBin vAdd (dVar 1) (dC (.int 2))) aNil))) aNil))) [some (.ref n), some (.int (sd : Nat)), some (.int (mk : Nat)), none, none, none, none, none, none, none, none] A =
      .nx [some (.ref n), some (.int (sd : Nat)), some (.int (mk : Nat)), some (.int (on : Nat)), some (.int (more : Nat)), some (.int (al : Nat)), none, none, none, none, none] B := by
    have t3' : FTake [.ref n, .int ((sd : Nat) + 2 : Int)] (A.set n (boxC v2 s2 c2)) = .ok (.int (al : Nat)) B := t3
    unfold dPar
    simp only [e_acons, e_anil, e_call, e_V0, e_VS, Dn.R.bind_ok, t1, t2, e_Bin, e_C, e_add, t3', R.toS_ok]
    rfl
  have p2 : dAsg (dLst aNil) (gNm 6) [some (.ref n), some (.int (sd : Nat)), some (.int (mk : Nat)), some (.int (on : Nat)), some (.int (more : Nat)), some (.int (al : Nat)), none, none, none, none, none] B = .nx (eEnv n sd mk on more al B.length none none none none) (B ++ [.lst []]) := by
    rw [e_asg, e_lst, e_anil, Dn.R.bind_ok, mkLst_nil, R.toS_ok]
    rfl
  obtain ⟨env', st', e, x7, x8, x9, x10, q, e1, e2⟩ := forL_run (chk := fun _ => true) (g := gNm 7) (m := oBody)
    (fun i env st => ∃ x7 x8 x9 x10 q, env = eEnv n sd mk on more al B.length x7 x8 x9 x10 ∧ st = B ++ .lst (((List.range i).map fun k => (List.range sd).map (evenP sd mk on more al k)).map rowD) :: q) (fun _ _ _ _ => rfl)
    (xs := rngD 0 mk) (i0 := 0) (env := eEnv n sd mk on more al B.length none none none none) (st := B ++ [.lst []]) ⟨none, none, none, none, [], rfl, by simp⟩ (by
      rintro i x env st hx ⟨x7, x8, x9, x10, q, rfl, rfl⟩
      rw [Nat.zero_add] at *
      obtain ⟨hi, rfl⟩ := rng_get hx
      obtain ⟨q', x8', x9', x10', e⟩ := oBody_ok (n := n) (on := on) (more := more) (al := al) (B := B) (q := q) (k := i) (rows := (List.range i).map fun k => (List.range sd).map (evenP sd mk on more al k)) (x8 := x8) (x9 := x9) (x10 := x10) hs0 hm0 h1 (by simp; omega)
      refine ⟨_, _, _, _, rfl, e, some (.int (i : Nat)), x8', x9', x10', q', rfl, ?_⟩
      rw [List.range_succ]
      simp)
  rw [Nat.zero_add, rng_len] at e2
  have p3 : dFor (iRange1 (aCons (dVar 2) aNil)) (gNm 7) oBody (eEnv n sd mk on more al B.length none none none none) (B ++ [.lst []]) = .nx (eEnv n sd mk on more al B.length x7 x8 x9 x10) (B ++ .lst ((evenG sd mk on more al).map rowD) :: q) := by
    unfold dFor
    rw [iRange1_ok (k := mk) rfl (by omega), R.toS_ok]
    dsimp only
    rw [e, e1, e2]
    rfl
  have p4 : dRet (dCall bTuple (aCons (dVar 6) aNil)) (eEnv n sd mk on more al B.length x7 x8 x9 x10) (B ++ .lst ((evenG sd mk on more al).map rowD) :: q) = .rt (gateD (evenG sd mk on more al)) (B ++ .lst ((evenG sd mk on more al).map rowD) :: q) := by
    have t : bTuple [.ref B.length] (B ++ .lst ((evenG sd mk on more al).map rowD) :: q) = .ok (gateD (evenG sd mk on more al)) (B ++ .lst ((evenG sd mk on more al).map rowD) :: q) := by
      unfold bTuple
      dsimp only
      rw [at0]
      rfl
    show (bTuple [.ref B.length] _).toS _ _ = _
    rw [t]
    rfl
  refine ⟨evenG sd mk on more al, v3, s3, c3, trimF_ok (g := .lst ((evenG sd mk on more al).map rowD) :: q) ?_ (by simp) (by simp) (Same.set _ (boxC_lt _ _ _ _)), isGate_even hs0 hm0⟩
  rw [← hB]
  refine dDef_rt rfl rfl ?_
  exact (dSeq_nx p1).trans ((dSeq_nx p2).trans ((dSeq_nx p3).trans p4))
end
end Pn
set_option Elab.async false
set_option linter.all false
set_option maxHeartbeats 1000000
set_option maxRecDepth 100000
namespace Pn
open PySem PySem.Spec L2 Dn
/-! ### evaluation, what is made meanwhile lying behind -/
def Ev (A : Store) (E : Dn.Env) (m : DE) (v : D) : Prop := ∀ S, A <+: S → ∃ g, m E S = .ok v (S ++ g)
def EvB (A : Store) (E : Dn.Env) (m : DB) (b : Bool) : Prop := ∀ S, A <+: S → ∃ g, m E S = .ok b (S ++ g)
def EvA (A : Store) (E : Dn.Env) (m : DA) (vs : List D) : Prop := ∀ S, A <+: S → ∃ g, m E S = .ok vs (S ++ g)
def EvL (A : Store) (E : Dn.Env) (m : DE) (xs : List D) : Prop := ∀ S, A <+: S → ∃ n g, m E S = .ok (.ref n) (S ++ g) ∧ (S ++ g)[n]? = some (.lst xs)
def EvI (A : Store) (E : Dn.Env) (m : DI) (xs : List D) : Prop := ∀ S, A <+: S → ∃ g chk, m E S = .ok (xs, chk) (S ++ g) ∧ ∀ g', chk (S ++ g ++ g') = true
def EvR (A : Store) (E : Dn.Env) (m : DS) (v : D) : Prop := ∀ S, A <+: S → ∃ g, m E S = .rt v (S ++ g)
def EvN (A : Store) (E : Dn.Env) (m : DS) (E' : Dn.Env) : Prop := ∀ S, A <+: S → ∃ g, m E S = .nx E' (S ++ g)
/-- an operation that reads alone -/
def Op2 (A : Store) (f : D → D → Store → R D) (x y z : D) : Prop := ∀ S, A <+: S → f x y S = .ok z S
def OpF (A : Store) (f : DF) (vs : List D) (z : D) : Prop := ∀ S, A <+: S → f vs S = .ok z S
section
variable {A A' S : Store} {E E' : Dn.Env} {x y z v : D} {m ma mb mc : DE} {b b' : Bool} {xs vs : List D}
theorem pre_ext (h : A <+: S) (g : Store) : A <+: S ++ g := h.trans (List.prefix_append ..)
theorem pre_at {c : Cell} {n : Nat} (h : A <+: S) (e : A[n]? = some c) : S[n]? = some c := by
  obtain ⟨q, rfl⟩ := h
  exact atA e
theorem pre_len (h : A <+: S) : A.length ≤ S.length := h.length_le
theorem Ev.mono (h : Ev A E m v) (hA : A <+: A') : Ev A' E m v := fun S hS => h S (hA.trans hS)
theorem OpF.mono {f : DF} (h : OpF A f vs v) (hA : A <+: A') : OpF A' f vs v := fun S hS => h S (hA.trans hS)
theorem EvL.mono (h : EvL A E m xs) (hA : A <+: A') : EvL A' E m xs := fun S hS => h S (hA.trans hS)
theorem Ev.c (d : D) : Ev A E (dC d) d := fun S _ => ⟨[], by rw [List.append_nil]; rfl⟩
theorem Ev.var {i : Nat} (h : E[i]? = some (some v)) : Ev A E (dVar i) v := fun S _ => ⟨[], by rw [List.append_nil]; unfold dVar; rw [h]⟩
theorem Ev.bin {f : D → D → Store → R D} (ha : Ev A E ma x) (hb : Ev A E mb y) (hf : Op2 A f x y z) : Ev A E (dBin f ma mb) z := fun S hS => by
  obtain ⟨g1, e1⟩ := ha S hS
  obtain ⟨g2, e2⟩ := hb _ (pre_ext hS g1)
  refine ⟨g1 ++ g2, ?_⟩
  rw [e_Bin, e1, Dn.R.bind_ok, e2, Dn.R.bind_ok, hf _ (pre_ext (pre_ext hS g1) g2), List.append_assoc]
theorem EvA.nil : EvA A E aNil [] := fun S _ => ⟨[], by rw [List.append_nil]; rfl⟩
theorem EvA.cons {ma : DA} (h : Ev A E m x) (ha : EvA A E ma xs) : EvA A E (aCons m ma) (x :: xs) := fun S hS => by
  obtain ⟨g1, e1⟩ := h S hS
  obtain ⟨g2, e2⟩ := ha _ (pre_ext hS g1)
  refine ⟨g1 ++ g2, ?_⟩
  rw [e_acons, e1, Dn.R.bind_ok, e2, Dn.R.bind_ok, List.append_assoc]
theorem Ev.tup {ma : DA} (h : EvA A E ma xs) (hl : xs.length ≤ sizeLine) : Ev A E (dTup ma) (.tup xs) := fun S hS => by
  obtain ⟨g1, e1⟩ := h S hS
  exact ⟨g1, by rw [e_tup, e1, Dn.R.bind_ok, mkTup_ok hl]⟩
theorem Ev.tup2 (h : Ev A E ma x) (h2 : Ev A E mb y) : Ev A E (dTup (aCons ma (aCons mb aNil))) (.tup [x, y]) := Ev.tup (.cons h (.cons h2 .nil)) (show 2 ≤ sizeLine by decide)
theorem EvL.lst {ma : DA} (h : EvA A E ma xs) (hl : xs.length ≤ sizeLine) : EvL A E (dLst ma) xs := fun S hS => by
  obtain ⟨g1, e1⟩ := h S hS
  refine ⟨(S ++ g1).length, g1 ++ [.lst xs], ?_, ?_⟩
  · rw [e_lst, e1, Dn.R.bind_ok, mkLst_ok hl, List.append_assoc]
  · rw [← List.append_assoc]; exact at0
theorem Ev.call {f : DF} {ma : DA} (h : EvA A E ma vs) (hf : OpF A f vs v) : Ev A E (dCall f ma) v := fun S hS => by
  obtain ⟨g1, e1⟩ := h S hS
  exact ⟨g1, by rw [e_call, e1, Dn.R.bind_ok, hf _ (pre_ext hS g1)]⟩
theorem Ev.callL {f : DF} (h : EvL A E m xs) (hf : ∀ S n, S[n]? = some (.lst xs) → f [.ref n] S = .ok v S) : Ev A E (dCall f (aCons m aNil)) v := fun S hS => by
  obtain ⟨n, g1, e1, h1⟩ := h S hS
  exact ⟨g1, by rw [e_call, e_acons, e1, Dn.R.bind_ok, e_anil, Dn.R.bind_ok, Dn.R.bind_ok, hf _ _ h1]⟩
theorem tuple_at {n : Nat} (h : S[n]? = some (.lst xs)) : bTuple [.ref n] S = .ok (.tup xs) S := by
  unfold bTuple
  dsimp only
  rw [h]
theorem len_at {n : Nat} (h : S[n]? = some (.lst xs)) : bLen [.ref n] S = .ok (.int xs.length) S := by
  unfold bLen
  dsimp only
  rw [h]
theorem len_tup : OpF A bLen [.tup xs] (.int xs.length) := fun _ _ => rfl
theorem blsOf_map {α : Type} (f : α → Bool) : ∀ l : List α, blsOf (l.map fun a => D.bl (f a)) = some (l.map f)
  | [] => rfl
  | a :: l => by simp [blsOf, blsOf_map f l]
theorem all_at {α : Type} {f : α → Bool} {l : List α} {n : Nat} (h : S[n]? = some (.lst (l.map fun a => D.bl (f a)))) : bAll [.ref n] S = .ok (.bl (l.all f)) S := by
  unfold bAll
  dsimp only
  unfold lstAt
  dsimp only
  rw [h]
  dsimp only
  rw [Option.bind_some, blsOf_map]
  simp [List.all_map, Function.comp_def]
theorem EvB.test (h : Ev A E m (.bl b)) : EvB A E (dTest m) b := fun S hS => by
  obtain ⟨g, e⟩ := h S hS
  exact ⟨g, by rw [e_Test, e, Dn.R.bind_ok]⟩
theorem EvB.not {n : DB} (h : EvB A E n b) : EvB A E (dTNot n) (!b) := fun S hS => by
  obtain ⟨g, e⟩ := h S hS
  exact ⟨g, by unfold dTNot; rw [e, Dn.R.bind_ok]⟩
theorem EvB.or {n n' : DB} (h : EvB A E n b) (h' : b = false → EvB A E n' b') : EvB A E (dTOr n n') (b || b') := fun S hS => by
  obtain ⟨g, e⟩ := h S hS
  cases b with
  | true => exact ⟨g, by unfold dTOr; rw [e, Dn.R.bind_ok]; rfl⟩
  | false =>
    obtain ⟨g2, e2⟩ := h' rfl _ (pre_ext hS g)
    exact ⟨g ++ g2, by unfold dTOr; rw [e, Dn.R.bind_ok, if_neg Bool.false_ne_true, e2, List.append_assoc]; rfl⟩
theorem Ev.and (h : Ev A E ma (.bl b)) (h' : b = true → Ev A E mb (.bl b')) : Ev A E (dAnd ma mb) (.bl (b && b')) := fun S hS => by
  obtain ⟨g, e⟩ := h S hS
  cases b with
  | false => exact ⟨g, by unfold dAnd; rw [e, Dn.R.bind_ok]; rfl⟩
  | true =>
    obtain ⟨g2, e2⟩ := h' rfl _ (pre_ext hS g)
    exact ⟨g ++ g2, by unfold dAnd; rw [e, Dn.R.bind_ok]; dsimp only; rw [e2, List.append_assoc]; rfl⟩
theorem Ev.not (h : Ev A E ma (.bl b)) : Ev A E (dNot ma) (.bl !b) := fun S hS => by
  obtain ⟨g, e⟩ := h S hS
  exact ⟨g, by unfold dNot; rw [e, Dn.R.bind_ok]⟩
theorem Ev.chain {f f' : D → D → Store → R D} (ha : Ev A E ma x) (hb : Ev A E mb y) (hf : Op2 A f x y (.bl true)) (hc : Ev A E mc z) (hf' : Op2 A f' y z v) : Ev A E (dChain f f' ma mb mc) v := fun S hS => by
  obtain ⟨g1, e1⟩ := ha S hS
  obtain ⟨g2, e2⟩ := hb _ (pre_ext hS g1)
  obtain ⟨g3, e3⟩ := hc _ (pre_ext (pre_ext hS g1) g2)
  refine ⟨g1 ++ g2 ++ g3, ?_⟩
  unfold dChain
  rw [e1, Dn.R.bind_ok, e2, Dn.R.bind_ok, hf _ (pre_ext (pre_ext hS g1) g2), Dn.R.bind_ok]
  dsimp only
  rw [e3, Dn.R.bind_ok, hf' _ (pre_ext (pre_ext (pre_ext hS g1) g2) g3)]
  simp
/-! walks -/
theorem EvI.tup (h : Ev A E m (.tup xs)) : EvI A E (iVal m) xs := fun S hS => by
  obtain ⟨g, e⟩ := h S hS
  exact ⟨g, fun _ => true, by unfold iVal; rw [e, Dn.R.bind_ok]; rfl, fun _ => rfl⟩
theorem EvI.enum (h : Ev A E m (.tup xs)) : EvI A E (iEnumD (aCons m aNil)) (enumD 0 xs) := fun S hS => by
  obtain ⟨g, e⟩ := h S hS
  refine ⟨g, fun _ => true, ?_, fun _ => rfl⟩
  have e1 : aCons m aNil E S = .ok [.tup xs] (S ++ g) := by simp [e]
  unfold iEnumD
  rw [e1, Dn.R.bind_ok]
  rfl
theorem EvI.enumL (h : EvL A E m xs) : EvI A E (iEnumD (aCons m aNil)) (enumD 0 xs) := fun S hS => by
  obtain ⟨n, g, e, hn⟩ := h S hS
  refine ⟨g, fun st' => isLst st' n xs, ?_, fun g' => ?_⟩
  · have e1 : aCons m aNil E S = .ok [.ref n] (S ++ g) := by simp [e]
    unfold iEnumD
    rw [e1, Dn.R.bind_ok]
    dsimp only
    unfold seq2Of
    dsimp only
    rw [hn]
    rfl
  · show isLst (S ++ g ++ g') n xs = true
    unfold isLst
    rw [atA hn]
    simp
theorem EvI.range {k : Nat} (h : Ev A E m (.int (k : Nat))) (hk : k ≤ 1000000) : EvI A E (iRange1 (aCons m aNil)) (rngD 0 k) := fun S hS => by
  obtain ⟨g, e⟩ := h S hS
  refine ⟨g, fun _ => true, ?_, fun _ => rfl⟩
  have e1 : aCons m aNil E S = .ok [.int (k : Nat)] (S ++ g) := by simp [e]
  unfold iRange1
  rw [e1, Dn.R.bind_ok]
  dsimp only
  rw [if_pos (small_nat hk)]
/-! comprehensions -/
theorem EvL.lc {it : DI} {g : DG} {te : DE} {ws : List Nat} (f : D → D) (hi : EvI A E it xs) (hl : xs.length ≤ sizeLine) (hs : ∀ x ∈ xs, ∃ E', (∀ S, g x (dWipe E ws) S = .ok E' S) ∧ Ev A E' te (f x)) : EvL A E (dLc it g dYes te ws) (xs.map f) := fun S hS => by
  obtain ⟨g1, chk, e1, hc⟩ := hi S hS
  obtain ⟨q', e2⟩ := lcL_map (chk := chk) (g := g) (te := te) (env := dWipe E ws) (st0 := S ++ g1) f hc (xs := xs) (acc := []) (q := []) (by simpa using hl) (fun x hx q => by
    obtain ⟨E', h1, h2⟩ := hs x hx
    obtain ⟨g2, h3⟩ := h2 _ (pre_ext (pre_ext hS g1) q)
    exact ⟨E', q ++ g2, h1 _, by rw [h3]; simp⟩)
  rw [List.append_nil] at e2
  refine ⟨(S ++ g1 ++ q').length, g1 ++ q' ++ [.lst (xs.map f)], ?_, ?_⟩
  · unfold dLc
    rw [e1, Dn.R.bind_ok]
    dsimp only
    rw [e2, Dn.R.bind_ok]
    unfold Dn.alloc
    simp
  · have e : S ++ (g1 ++ q' ++ [.lst (xs.map f)]) = (S ++ g1 ++ q') ++ [Cell.lst (xs.map f)] := by simp
    rw [e]
    exact at0
/-- the same over data of one's own -/
theorem EvL.lcA {α : Type} {l : List α} {h : α → D} {it : DI} {g : DG} {te : DE} {ws : List Nat} (f : α → D) (hi : EvI A E it (l.map h)) (hl : l.length ≤ sizeLine) (hs : ∀ x ∈ l, ∃ E', (∀ S, g (h x) (dWipe E ws) S = .ok E' S) ∧ Ev A E' te (f x)) : EvL A E (dLc it g dYes te ws) (l.map f) := fun S hS => by
  obtain ⟨g1, chk, e1, hc⟩ := hi S hS
  obtain ⟨acc', st', e2, e3, q', e4⟩ := lcL_run (chk := chk) (g := g) (tt := dYes) (te := te) (env := dWipe E ws) (fun i acc st => acc = (l.take i).map f ∧ ∃ q, st = S ++ g1 ++ q) (fun i a st ⟨_, q, h⟩ => by rw [h]; exact hc q) (xs := l.map h) (i0 := 0) (acc := []) (st := S ++ g1) ⟨by simp, [], by simp⟩ (by
    rintro i x a st hx ⟨rfl, q, rfl⟩
    rw [List.getElem?_map] at hx
    obtain ⟨y, hy, rfl⟩ := Option.map_eq_some_iff.mp hx
    obtain ⟨E', h1, h2⟩ := hs y (List.mem_of_getElem? hy)
    obtain ⟨g2, h3⟩ := h2 _ (pre_ext (pre_ext hS g1) q)
    have hi : i < l.length := (List.getElem?_eq_some_iff.mp hy).1
    refine ⟨E', _, true, _, h1 _, rfl, fun z => (by cases z), fun _ => ⟨by simp; omega, f y, _, h3, ?_, q ++ g2, by simp⟩⟩
    have e0 : 0 + i + 1 = i + 1 := by omega
    rw [e0, List.take_add_one, hy]
    simp)
  rw [Nat.zero_add, List.length_map, List.take_length] at e3
  refine ⟨(S ++ g1 ++ q').length, g1 ++ q' ++ [.lst (l.map f)], ?_, ?_⟩
  · unfold dLc
    rw [e1, Dn.R.bind_ok]
    dsimp only
    rw [e2, Dn.R.bind_ok, e3, e4]
    unfold Dn.alloc
    simp
  · have e : S ++ (g1 ++ q' ++ [.lst (l.map f)]) = (S ++ g1 ++ q') ++ [Cell.lst (l.map f)] := by simp
    rw [e]
    exact at0
/-! statements -/
theorem EvR.ret (h : Ev A E m v) : EvR A E (dRet m) v := fun S hS => by
  obtain ⟨g, e⟩ := h S hS
  exact ⟨g, by rw [e_ret, e, R.toS_ok]⟩
theorem EvN.next : EvN A E dNext E := fun S _ => ⟨[], by simp⟩
theorem EvN.asg {i : Nat} (h : Ev A E m v) : EvN A E (dAsg m (gNm i)) (E.set i (some v)) := fun S hS => by
  obtain ⟨g, e⟩ := h S hS
  exact ⟨g, by rw [e_asg, e, R.toS_ok]; rfl⟩
theorem EvN.seqR {a c : DS} (h : EvN A E a E') (h' : EvR A E' c v) : EvR A E (dSeq a c) v := fun S hS => by
  obtain ⟨g, e⟩ := h S hS
  obtain ⟨g2, e2⟩ := h' _ (pre_ext hS g)
  exact ⟨g ++ g2, by rw [dSeq_nx e, e2, List.append_assoc]⟩
theorem EvN.seq {a c : DS} {E2 : Dn.Env} (h : EvN A E a E') (h' : EvN A E' c E2) : EvN A E (dSeq a c) E2 := fun S hS => by
  obtain ⟨g, e⟩ := h S hS
  obtain ⟨g2, e2⟩ := h' _ (pre_ext hS g)
  exact ⟨g ++ g2, by rw [dSeq_nx e, e2, List.append_assoc]⟩
theorem EvR.seq {a c : DS} (h : EvR A E a v) : EvR A E (dSeq a c) v := fun S hS => by
  obtain ⟨g, e⟩ := h S hS
  exact ⟨g, by rw [e_seq, e]⟩
theorem EvN.ifF {n : DB} {a c : DS} (h : EvB A E n false) (h' : EvN A E c E') : EvN A E (dIf n a c) E' := fun S hS => by
  obtain ⟨g, e⟩ := h S hS
  obtain ⟨g2, e2⟩ := h' _ (pre_ext hS g)
  exact ⟨g ++ g2, by rw [e_if, e, R.toS_ok, if_neg Bool.false_ne_true, e2, List.append_assoc]⟩
theorem EvN.ifT {n : DB} {a c : DS} (h : EvB A E n true) (h' : EvN A E a E') : EvN A E (dIf n a c) E' := fun S hS => by
  obtain ⟨g, e⟩ := h S hS
  obtain ⟨g2, e2⟩ := h' _ (pre_ext hS g)
  exact ⟨g ++ g2, by rw [e_if, e, R.toS_ok, if_pos rfl, e2, List.append_assoc]⟩
/-- a def that returns data and leaves nothing -/
theorem EvR.trim {m : DS} {a k : Nat} {vs : List D} (h : EvR A (vs.map some ++ List.replicate (k - a) none) m v) (hl : vs.length = a) (hv : ∀ n, D.lt n v = true) : OpF A (trimF (dDef a k m)) vs v := fun S hS => by
  obtain ⟨g, e⟩ := h S hS
  exact trimF_pure (g := g) (dDef_rt hl rfl e) (hv _)
end
end Pn
set_option Elab.async false
set_option linter.all false
set_option maxHeartbeats 1000000
set_option maxRecDepth 100000
namespace Pn
open PySem PySem.Spec L2 Dn
def den_is_whole : DS := (dRet (dAnd (dCall bIsi (aCons (dVar 0) (aCons (dC (.ty "int")) aNil))) (dNot (dCall bIsi (aCons (dVar 0) (aCons (dC (.ty "bool")) aNil))))))
def den_is_pair (m_is_whole : DF) : DS := (dRet (dAnd (dCall bIsi (aCons (dVar 0) (aCons (dC (.ty "tuple")) aNil))) (dAnd (dBin vEq (dCall bLen (aCons (dVar 0) aNil)) (dC (.int 2))) (dAnd (dCall m_is_whole (aCons (dBin vIx (dVar 0) (dC (.int 0))) aNil)) (dCall m_is_whole (aCons (dBin vIx (dVar 0) (dC (.int 1))) aNil))))))
def den_has_form (m_is_pair : DF) : DS := (dSeq (dIf (dTOr (dTNot (dTest (dCall bIsi (aCons (dVar 0) (aCons (dC (.ty "tuple")) aNil))))) (dTest (dBin vEq (dCall bLen (aCons (dVar 0) aNil)) (dC (.int 0))))) (dRet (dC (.bl false))) dNext) (dSeq (dIf (dTNot (dTest (dCall bAll (aCons (dLc (iVal (dVar 0)) (gNm 1) dYes (dAnd (dCall bIsi (aCons (dVar 1) (aCons (dC (.ty "tuple")) aNil))) (dBin vGt (dCall bLen (aCons (dVar 1) aNil)) (dC (.int 0)))) [1]) aNil)))) (dRet (dC (.bl false))) dNext) (dRet (dCall bAll (aCons (dLc (iVal (dVar 0)) (gNm 1) dYes (dAnd (dBin vEq (dCall bLen (aCons (dVar 1) aNil)) (dCall bLen (aCons (dBin vIx (dVar 0) (dC (.int 0))) aNil))) (dCall bAll (aCons (dLc (iVal (dVar 1)) (gNm 2) dYes (dCall m_is_pair (aCons (dVar 2) aNil)) [2]) aNil))) [1]) aNil)))))
def den_look_gate (m_has_form : DF) : DS := (dSeq (dIf (dTNot (dTest (dCall m_has_form (aCons (dVar 0) aNil)))) dBad dNext) (dSeq (dAsg dNewT (gNm 1)) (dSeq (dFor (iEnumD (aCons (dLc2 (iVal (dVar 0)) (gNm 5) dYes (iVal (dVar 5)) (gNm 6) dYes (dVar 6) [5, 6] [6]) aNil)) (gTp 2 (gsCons (gNm 2) (gsCons (gTp 2 (gsCons (gNm 3) (gsCons (gNm 4) gsNil))) gsNil))) (dSeq (dIf (dTNot (dTest (dChain vLe vLt (dC (.int 0)) (dVar 3) (dCall bLen (aCons (dBin vIx (dVar 0) (dC (.int 0))) aNil))))) dBad dNext) (dSeq (dIf (dTNot (dTest (dChain vLe vLt (dC (.int 0)) (dVar 4) (dCall bLen (aCons (dVar 0) aNil))))) dBad dNext) (dSeq (dIf (dTest (dBin (vIn false) (dTup (aCons (dVar 3) (aCons (dVar 4) aNil))) (dVar 1))) dBad dNext) (dAsg (dC (.bl true)) (gSb (dVar 1) (dTup (aCons (dVar 3) (aCons (dVar 4) aNil))))))))) (dRet (dC (.bl true))))))
def den_sides_of : DS := (dRet (dCall bLen (aCons (dBin vIx (dVar 0) (dC (.int 0))) aNil)))
def den_marks_of : DS := (dRet (dCall bLen (aCons (dVar 0) aNil)))
def den_turned_gate (m_marks_of m_sides_of : DF) : DS := (dSeq (dAsg dNewT (gNm 1)) (dSeq (dFor (iEnumD (aCons (dVar 0) aNil)) (gTp 2 (gsCons (gNm 2) (gsCons (gNm 3) gsNil))) (dDrop (dMeth "dict" mUpdT (dVar 1) (aCons (dDcT (iEnumD (aCons (dVar 3) aNil)) (gTp 2 (gsCons (gNm 4) (gsCons (gNm 5) gsNil))) dYes (dVar 5) (dTup (aCons (dVar 4) (aCons (dVar 2) aNil))) [4, 5]) aNil)))) (dRet (dCall bTuple (aCons (dLc (iRange1 (aCons (dCall m_marks_of (aCons (dVar 0) aNil)) aNil)) (gNm 2) dYes (dCall bTuple (aCons (dLc (iRange1 (aCons (dCall m_sides_of (aCons (dVar 0) aNil)) aNil)) (gNm 4) dYes (dBin vIx (dVar 1) (dTup (aCons (dVar 4) (aCons (dVar 2) aNil)))) [4]) aNil)) [2]) aNil)))))
def den_beside (m_sides_of m_marks_of : DF) : DS := (dSeq (dAsg (dTup (aCons (dCall m_marks_of (aCons (dVar 1) aNil)) (aCons (dCall m_sides_of (aCons (dVar 0) aNil)) (aCons (dLst aNil) aNil)))) (gTp 3 (gsCons (gNm 2) (gsCons (gNm 3) (gsCons (gNm 4) gsNil))))) (dSeq (dFor (iEnumD (aCons (dVar 0) aNil)) (gTp 2 (gsCons (gNm 5) (gsCons (gNm 6) gsNil))) (dFor (iEnumD (aCons (dVar 1) aNil)) (gTp 2 (gsCons (gNm 7) (gsCons (gNm 8) gsNil))) (dSeq (dAsg (dLc (iVal (dVar 6)) (gTp 2 (gsCons (gNm 10) (gsCons (gNm 11) gsNil))) dYes (dTup (aCons (dVar 10) (aCons (dBin vAdd (dBin vMul (dVar 11) (dVar 2)) (dVar 7)) aNil))) [10, 11]) (gNm 9)) (dDrop (dMeth "list" mAppend (dVar 4) (aCons (dCall bTuple (aCons (dBin vAdd (dVar 9) (dLc (iVal (dVar 8)) (gTp 2 (gsCons (gNm 10) (gsCons (gNm 11) gsNil))) dYes (dTup (aCons (dBin vAdd (dVar 3) (dVar 10)) (aCons (dBin vAdd (dBin vMul (dVar 5) (dVar 2)) (dVar 11)) aNil))) [10, 11])) aNil)) aNil)))))) (dRet (dCall bTuple (aCons (dVar 4) aNil)))))
def den__law_box : DS := (dSeq (dAsg (dBin vAdd (dBin vMul (dC (.int 6421)) (dVar 1)) (dC (.int 37))) (gNm 2)) (dSeq (dIf (dTest (dBin vLt (dVar 1) (dCall bLen (aCons (dVar 0) aNil)))) (dAsg (dBin vIx (dVar 0) (dVar 1)) (gNm 2)) (dIf (dTest (dBin vGt (dCall bLen (aCons (dVar 0) aNil)) (dC (.int 0)))) (dAsg (dBin vAdd (dVar 2) (dBin vMul (dBin vMod (dBin vIx (dVar 0) (dBin vMod (dVar 1) (dCall bLen (aCons (dVar 0) aNil)))) (dC (.int 2147483629))) (dC (.int 69623)))) (gNm 2)) dNext)) (dSeq (dAsg (dBin vAdd (dBin vMod (dBin vAdd (dBin vMul (dBin vMod (dVar 2) (dC (.int 2147483629))) (dC (.int 48271))) (dBin vMul (dC (.int 40692)) (dVar 1))) (dC (.int 2147483629))) (dC (.int 1))) (gNm 3)) (dRet (dLst (aCons (dBin vIx (dLst (aCons (dC (.int 0)) (aCons (dVar 2) aNil))) (dCall bInt (aCons (dBin vGe (dVar 2) (dBin vPow (dC (.int 10)) (dC (.int 18)))) aNil))) (aCons (dVar 3) (aCons (dC (.int 0)) aNil))))))))
def den__law_take : DS := (dSeq (dIf (dTest (dBin vGt (dBin vIx (dVar 0) (dC (.int 0))) (dC (.int 0)))) (dSeq (dAsg (dBin vMod (dBin vIx (dVar 0) (dC (.int 0))) (dVar 1)) (gNm 2)) (dSeq (dAsg (dBin vDiv (dBin vIx (dVar 0) (dC (.int 0))) (dVar 1)) (gSb (dVar 0) (dC (.int 0)))) (dRet (dVar 2)))) dNext) (dSeq (dAsg (dBin vAdd (dBin vIx (dVar 0) (dC (.int 2))) (dC (.int 1))) (gSb (dVar 0) (dC (.int 2)))) (dSeq (dAsg (dBin vMod (dBin vMul (dBin vAdd (dBin vIx (dVar 0) (dC (.int 1))) (dBin vMul (dC (.int 104729)) (dBin vIx (dVar 0) (dC (.int 2))))) (dC (.int 69623))) (dC (.int 2147483647))) (gNm 3)) (dSeq (dAsg (dBin vAdd (dBin vMod (dBin vAdd (dBin vMul (dVar 3) (dC (.int 48271))) (dC (.int 30103))) (dC (.int 2147483629))) (dC (.int 1))) (gSb (dVar 0) (dC (.int 1)))) (dRet (dBin vMod (dBin vDiv (dBin vAdd (dBin vMul (dVar 3) (dC (.int 2147483647))) (dBin vIx (dVar 0) (dC (.int 1)))) (dC (.int 8191))) (dVar 1)))))))
def den__law_alike : DS := (dSeq (dAsg (dLst (aCons (dTup (aCons (dVar 0) (aCons (dVar 1) aNil))) aNil)) (gNm 2)) (dSeq (dWhile (dTest (dBin vNe (dVar 2) (dLst aNil))) (dSeq (dAsg (dMeth "list" mPop (dVar 2) aNil) (gTp 2 (gsCons (gNm 3) (gsCons (gNm 4) gsNil)))) (dIf (dTest (dCall bIsi (aCons (dVar 4) (aCons (dTup (aCons (dC (.ty "tuple")) (aCons (dC (.ty "list")) aNil))) aNil)))) (dSeq (dIf (dTOr (dTest (dBin vNe (dCall bIsi (aCons (dVar 3) (aCons (dC (.ty "tuple")) aNil))) (dCall bIsi (aCons (dVar 4) (aCons (dC (.ty "tuple")) aNil))))) (dTest (dBin vNe (dCall bIsi (aCons (dVar 3) (aCons (dC (.ty "list")) aNil))) (dCall bIsi (aCons (dVar 4) (aCons (dC (.ty "list")) aNil)))))) (dRet (dC (.bl false))) dNext) (dSeq (dIf (dTest (dBin vNe (dCall bLen (aCons (dVar 3) aNil)) (dCall bLen (aCons (dVar 4) aNil)))) (dRet (dC (.bl false))) dNext) (dDrop (dMeth "list" mExtend (dVar 2) (aCons (dListZip (aCons (dVar 3) (aCons (dVar 4) aNil))) aNil))))) (dIf (dTOr (dTest (dCall bIsi (aCons (dVar 3) (aCons (dTup (aCons (dC (.ty "tuple")) (aCons (dC (.ty "list")) (aCons (dC (.ty "dict")) aNil)))) aNil)))) (dTOr (dTest (dBin vNe (dCall bIsi (aCons (dVar 3) (aCons (dC (.ty "bool")) aNil))) (dCall bIsi (aCons (dVar 4) (aCons (dC (.ty "bool")) aNil))))) (dTest (dBin vNe (dVar 3) (dVar 4))))) (dRet (dC (.bl false))) dNext)))) (dRet (dC (.bl true)))))
def den__law_any_gate (m__law_take : DF) : DS := (dSeq (dAsg (dTup (aCons (dLst aNil) (aCons (dLst aNil) aNil))) (gTp 2 (gsCons (gNm 3) (gsCons (gNm 4) gsNil)))) (dSeq (dFor (iRange1 (aCons (dVar 2) aNil)) (gNm 5) (dDrop (dMeth "list" mExtend (dVar 3) (aCons (dLc (iRange1 (aCons (dVar 1) aNil)) (gNm 6) dYes (dTup (aCons (dVar 6) (aCons (dVar 5) aNil))) [6]) aNil)))) (dSeq (dWhile (dTest (dBin vNe (dVar 3) (dLst aNil))) (dDrop (dMeth "list" mAppend (dVar 4) (aCons (dMeth "list" mPopAt (dVar 3) (aCons (dCall m__law_take (aCons (dVar 0) (aCons (dCall bLen (aCons (dVar 3) aNil)) aNil))) aNil)) aNil)))) (dRet (dCall bTuple (aCons (dLc (iRange1 (aCons (dVar 2) aNil)) (gNm 5) dYes (dCall bTuple (aCons (dSl (dVar 4) (dPart (dBin vMul (dVar 5) (dVar 1))) (dPart (dBin vAdd (dBin vMul (dVar 5) (dVar 1)) (dVar 1)))) aNil)) [5]) aNil))))))
def den__law_even_gate (m__law_take : DF) : DS := (dSeq (dPar [3, 4, 5] (aCons (dCall m__law_take (aCons (dVar 0) (aCons (dVar 1) aNil))) (aCons (dCall m__law_take (aCons (dVar 0) (aCons (dVar 2) aNil))) (aCons (dCall m__law_take (aCons (dVar 0) (aCons (dBin vAdd (dVar 1) (dC (.int 2))) aNil))) aNil)))) (dSeq (dAsg (dLst aNil) (gNm 6)) (dSeq (dFor (iRange1 (aCons (dVar 2) aNil)) (gNm 7) (dSeq (dAsg (dLst aNil) (gNm 8)) (dSeq (dFor (iRange1 (aCons (dVar 1) aNil)) (gNm 9) (dSeq (dAsg (dBin vMod (dBin vAdd (dVar 7) (dBin vIx (dLst (aCons (dVar 4) (aCons (dCall bInt (aCons (dBin vEq (dVar 9) (dVar 5)) aNil)) aNil))) (dCall bInt (aCons (dBin vLt (dVar 5) (dVar 1)) aNil)))) (dVar 2)) (gNm 10)) (dDrop (dMeth "list" mAppend (dVar 8) (aCons (dTup (aCons (dBin vMod (dBin vAdd (dBin vAdd (dVar 9) (dVar 10)) (dVar 3)) (dVar 1)) (aCons (dVar 10) aNil))) aNil))))) (dDrop (dMeth "list" mAppend (dVar 6) (aCons (dCall bTuple (aCons (dVar 8) aNil)) aNil)))))) (dRet (dCall bTuple (aCons (dVar 6) aNil))))))
def den__law_gate (m__law_take m__law_even_gate m__law_any_gate : DF) : DS := (dSeq (dPar [1, 2] (aCons (dBin vAdd (dC (.int 1)) (dCall m__law_take (aCons (dVar 0) (aCons (dVar 1) aNil)))) (aCons (dBin vAdd (dC (.int 1)) (dCall m__law_take (aCons (dVar 0) (aCons (dVar 2) aNil)))) aNil))) (dSeq (dIf (dTest (dBin vEq (dCall m__law_take (aCons (dVar 0) (aCons (dC (.int 3)) aNil))) (dC (.int 0)))) (dRet (dCall m__law_even_gate (aCons (dVar 0) (aCons (dVar 1) (aCons (dVar 2) aNil))))) dNext) (dRet (dCall m__law_any_gate (aCons (dVar 0) (aCons (dVar 1) (aCons (dVar 2) aNil)))))))
def den__law_due : DS := (dSeq (dPar [2, 3, 4] (aCons (dLst aNil) (aCons (dCall bLen (aCons (dVar 1) aNil)) (aCons (dCall bLen (aCons (dBin vIx (dVar 0) (dC (.int 0))) aNil)) aNil)))) (dSeq (dFor (iRange1 (aCons (dBin vMul (dCall bLen (aCons (dVar 0) aNil)) (dVar 3)) aNil)) (gNm 5) (dSeq (dPar [6, 7] (aCons (dBin vDiv (dVar 5) (dVar 3)) (aCons (dBin vSub (dVar 5) (dBin vMul (dBin vDiv (dVar 5) (dVar 3)) (dVar 3))) aNil))) (dSeq (dAsg (dLst aNil) (gNm 8)) (dSeq (dFor (iVal (dBin vIx (dVar 0) (dVar 6))) (gTp 2 (gsCons (gNm 9) (gsCons (gNm 10) gsNil))) (dDrop (dMeth "list" mAppend (dVar 8) (aCons (dTup (aCons (dVar 9) (aCons (dBin vAdd (dBin vMul (dVar 10) (dVar 3)) (dVar 7)) aNil))) aNil)))) (dSeq (dFor (iVal (dBin vIx (dVar 1) (dVar 7))) (gTp 2 (gsCons (gNm 9) (gsCons (gNm 10) gsNil))) (dDrop (dMeth "list" mAppend (dVar 8) (aCons (dTup (aCons (dBin vAdd (dVar 4) (dVar 9)) (aCons (dBin vAdd (dBin vMul (dVar 6) (dVar 3)) (dVar 10)) aNil))) aNil)))) (dDrop (dMeth "list" mAppend (dVar 2) (aCons (dCall bTuple (aCons (dVar 8) aNil)) aNil)))))))) (dRet (dCall bTuple (aCons (dVar 2) aNil)))))
def den_law_k04 (m__law_box m__law_gate m_beside m__law_alike m__law_due m_look_gate m_turned_gate : DF) : DS := (dSeq (dFor (iRange1 (aCons (dCall bMax (aCons (dC (.int 2)) (aCons (dCall bMin (aCons (dC (.int 4)) (aCons (dCall bLen (aCons (dVar 0) aNil)) aNil))) aNil))) aNil)) (gNm 1) (dSeq (dAsg (dCall m__law_box (aCons (dVar 0) (aCons (dVar 1) aNil))) (gNm 2)) (dSeq (dPar [3, 4, 5] (aCons (dCall m__law_gate (aCons (dVar 2) (aCons (dC (.int 4)) (aCons (dC (.int 5)) aNil)))) (aCons (dCall m__law_gate (aCons (dVar 2) (aCons (dC (.int 4)) (aCons (dC (.int 5)) aNil)))) (aCons (dCall m__law_gate (aCons (dVar 2) (aCons (dC (.int 2)) (aCons (dC (.int 3)) aNil)))) aNil)))) (dSeq (dAsg (dCall bRepr (aCons (dLst (aCons (dVar 3) (aCons (dVar 4) (aCons (dVar 5) aNil)))) aNil)) (gNm 6)) (dSeq (dFor (iVal (dTup (aCons (dTup (aCons (dVar 3) (aCons (dVar 4) aNil))) (aCons (dTup (aCons (dVar 4) (aCons (dVar 3) aNil))) (aCons (dTup (aCons (dVar 3) (aCons (dVar 3) aNil))) (aCons (dTup (aCons (dVar 5) (aCons (dVar 4) aNil))) (aCons (dTup (aCons (dVar 3) (aCons (dVar 4) aNil))) aNil))))))) (gTp 2 (gsCons (gNm 7) (gsCons (gNm 8) gsNil))) (dSeq (dAsg (dCall m_beside (aCons (dVar 7) (aCons (dVar 8) aNil))) (gNm 9)) (dIf (dTOr (dTNot (dTest (dCall m__law_alike (aCons (dVar 9) (aCons (dCall m__law_due (aCons (dVar 7) (aCons (dVar 8) aNil))) aNil))))) (dTest (dBin vIsNot (dCall m_look_gate (aCons (dVar 9) aNil)) (dC (.bl true))))) (dRet (dC (.bl false))) dNext))) (dSeq (dIf (dTest (dBin vNe (dCall m_beside (aCons (dCall m_beside (aCons (dVar 5) (aCons (dVar 3) aNil))) (aCons (dVar 4) aNil))) (dCall m_beside (aCons (dVar 5) (aCons (dCall m_beside (aCons (dVar 3) (aCons (dVar 4) aNil))) aNil))))) (dRet (dC (.bl false))) dNext) (dSeq (dIf (dTest (dBin vNe (dCall m_turned_gate (aCons (dCall m_beside (aCons (dVar 3) (aCons (dVar 4) aNil))) aNil)) (dCall m_beside (aCons (dCall m_turned_gate (aCons (dVar 3) aNil)) (aCons (dCall m_turned_gate (aCons (dVar 4) aNil)) aNil))))) (dRet (dC (.bl false))) dNext) (dIf (dTest (dBin vNe (dCall bRepr (aCons (dLst (aCons (dVar 3) (aCons (dVar 4) (aCons (dVar 5) aNil)))) aNil)) (dVar 6))) (dRet (dC (.bl false))) dNext)))))))) (dRet (dC (.bl true))))
end Pn
set_option Elab.async false
set_option linter.all false
set_option maxHeartbeats 1000000
set_option maxRecDepth 100000
namespace Pn
open PySem PySem.Spec L2 Dn
section
variable {A S : Store} {E : Dn.Env}
theorem op_add {i j : Int} : Op2 A vAdd (.int i) (.int j) (.int (i + j)) := fun _ _ => rfl
theorem op_sub {i j : Int} : Op2 A vSub (.int i) (.int j) (.int (i - j)) := fun _ _ => rfl
theorem op_mod {i j : Int} (h : 0 < j) : Op2 A vMod (.int i) (.int j) (.int (i % j)) := fun _ _ => e_mod h
theorem op_div {i j : Int} (h : 0 < j) (h2 : j < 1073741824) : Op2 A vDiv (.int i) (.int j) (.int (i / j)) := fun _ _ => e_div h h2
theorem op_cmp {p : Int → Int → Bool} {i j : Int} : Op2 A (vCmp p) (.int i) (.int j) (.bl (p i j)) := fun _ _ => rfl
theorem op_mulR {i j : Int} (h : small64 j = true) : Op2 A vMul (.int i) (.int j) (.int (i * j)) := fun _ _ => e_mulR h
theorem op_mulL {i j : Int} (h : small64 i = true) : Op2 A vMul (.int i) (.int j) (.int (i * j)) := fun _ _ => e_mulL h
theorem op_ixT {xs : List D} {i : Int} {j : Nat} {x : D} (hi : ixN xs.length i = some j) (hx : xs[j]? = some x) : Op2 A vIx (.tup xs) (.int i) x := fun _ _ => e_ixT hi hx
theorem op_eqI {i j : Int} : Op2 A vEq (.int i) (.int j) (.bl (decide (i = j))) := fun _ _ => e_eqI
theorem ixN_nat {k i : Nat} (h : i < k) : ixN k (i : Int) = some i := by
  unfold ixN
  split
  · rw [if_pos (by omega)]; simp
  · omega
theorem small_of {k : Nat} (h : k < 1000000) : Dn.small64 (k : Int) = true := by
  unfold Dn.small64
  simp only [Bool.and_eq_true, decide_eq_true_eq]
  omega
theorem isi_tup {xs : List D} : OpF A bIsi [.tup xs, .ty "tuple"] (.bl true) := fun _ _ => rfl
theorem isi_int {i : Int} : OpF A bIsi [.int i, .ty "int"] (.bl true) := fun _ _ => rfl
theorem isi_intb {i : Int} : OpF A bIsi [.int i, .ty "bool"] (.bl false) := fun _ _ => rfl
noncomputable def FWhole : DF := trimF (dDef 1 1 den_is_whole)
theorem whole_ok {i : Int} : OpF A FWhole [.int i] (.bl true) :=
  EvR.trim (EvR.ret (Ev.and (b := true) (b' := true) (Ev.call (.cons (.var rfl) (.cons (.c _) .nil)) isi_int) fun _ => Ev.not (b := false) (Ev.call (.cons (.var rfl) (.cons (.c _) .nil)) isi_intb))) rfl fun _ => rfl
noncomputable def FPair : DF := trimF (dDef 1 1 (den_is_pair FWhole))
theorem pairF_ok {p : Nat × Nat} : OpF A FPair [pairD p] (.bl true) :=
  EvR.trim (EvR.ret (Ev.and (b := true) (b' := true) (Ev.call (.cons (.var rfl) (.cons (.c _) .nil)) isi_tup) fun _ =>
    Ev.and (b := true) (b' := true) (Ev.bin (Ev.call (.cons (.var rfl) .nil) len_tup) (.c _) op_eqI) fun _ =>
    Ev.and (b := true) (b' := true) (Ev.call (.cons (Ev.bin (.var rfl) (.c _) (op_ixT (j := 0) rfl rfl)) .nil) whole_ok) fun _ =>
    Ev.call (.cons (Ev.bin (.var rfl) (.c _) (op_ixT (j := 1) rfl rfl)) .nil) whole_ok)) rfl fun _ => rfl
/-- the shape of a gate -/
structure Shape (s m : Nat) (g : Gate) : Prop where
  len : g.length = m
  rows : ∀ r ∈ g, r.length = s
  s0 : 0 < s
  m0 : 0 < m
  s1 : s ≤ 1000
  m1 : m ≤ 1000
noncomputable def FForm : DF := trimF (dDef 1 3 (den_has_form FPair))
theorem form_ok {s m : Nat} {g : Gate} (h : Shape s m g) : OpF A FForm [gateD g] (.bl true) := by
  have hm := h.m0
  have hs := h.s0
  have hs1 := h.s1
  have hm1 := h.m1
  have hl := h.len
  have hg0 : ∃ r, g[0]? = some r := ⟨g[0]'(by omega), List.getElem?_eq_getElem _⟩
  obtain ⟨r0, hr0⟩ := hg0
  have hr0l := h.rows r0 (List.mem_of_getElem? hr0)
  refine EvR.trim (EvN.seqR (EvN.ifF (EvB.or (b := false) (b' := false) (EvB.not (b := true) (EvB.test (Ev.call (.cons (.var rfl) (.cons (.c _) .nil)) isi_tup))) fun _ => ?_) .next) (EvN.seqR (EvN.ifF (EvB.not (b := true) (EvB.test ?_)) .next) (EvR.ret ?_))) rfl fun _ => rfl
  · have e := EvB.test (Ev.bin (A := A) (E := [some (gateD g), none, none]) (Ev.call (.cons (.var (i := 0) (v := gateD g) rfl) .nil) len_tup) (.c (.int 0)) op_eqI)
    rw [show decide ((((g.map rowD).length : Nat) : Int) = 0) = false from decide_eq_false (by rw [List.length_map]; omega)] at e
    exact e
  · have e := Ev.callL (A := A) (E := [some (gateD g), none, none]) (EvL.lcA (ws := [1]) (g := gNm 1) (te := (dAnd (dCall bIsi (aCons (dVar 1) (aCons (dC (.ty "tuple")) aNil))) (dBin vGt (dCall bLen (aCons (dVar 1) aNil)) (dC (.int 0))))) (l := g) (h := rowD) (fun r => .bl (decide (0 < r.length))) (EvI.tup (.var (i := 0) rfl)) (sl_ge _ (by omega)) fun r _ => ⟨_, fun _ => rfl, ?_⟩) fun S n hn => all_at hn
    · rw [show (g.all fun r => decide (0 < r.length)) = true from List.all_eq_true.mpr fun r hr => decide_eq_true (by have := h.rows r hr; omega)] at e
      exact e
    · have e2 := Ev.and (A := A) (E := [some (gateD g), some (rowD r), none]) (b := true) (Ev.call (.cons (.var (i := 1) (v := rowD r) rfl) (.cons (.c _) .nil)) isi_tup) fun _ => Ev.bin (Ev.call (.cons (.var (i := 1) (v := rowD r) rfl) .nil) len_tup) (.c (.int 0)) (op_cmp (p := fun i j => decide (j < i)))
      rw [List.length_map, Bool.true_and] at e2
      simp only [Int.natCast_pos] at e2
      exact e2
  · have e := Ev.callL (A := A) (E := [some (gateD g), none, none]) (EvL.lcA (ws := [1]) (g := gNm 1) (te := (dAnd (dBin vEq (dCall bLen (aCons (dVar 1) aNil)) (dCall bLen (aCons (dBin vIx (dVar 0) (dC (.int 0))) aNil))) (dCall bAll (aCons (dLc (iVal (dVar 1)) (gNm 2) dYes (dCall FPair (aCons (dVar 2) aNil)) [2]) aNil)))) (l := g) (h := rowD) (fun r => .bl true) (EvI.tup (.var (i := 0) rfl)) (sl_ge _ (by omega)) fun r hr => ⟨_, fun _ => rfl, ?_⟩) fun S n hn => all_at hn
    · rw [show (g.all fun r => true) = true from List.all_eq_true.mpr fun r hr => rfl] at e
      exact e
    · have hrl := h.rows r hr
      have e2 := Ev.and (A := A) (E := [some (gateD g), some (rowD r), none]) (b := true) (b' := true) (ma := dBin vEq (dCall bLen (aCons (dVar 1) aNil)) (dCall bLen (aCons (dBin vIx (dVar 0) (dC (.int 0))) aNil))) (mb := (dCall bAll (aCons (dLc (iVal (dVar 1)) (gNm 2) dYes (dCall FPair (aCons (dVar 2) aNil)) [2]) aNil))) ?_ fun _ => ?_
      · exact e2
      · have e3 := Ev.bin (A := A) (E := [some (gateD g), some (rowD r), none]) (Ev.call (.cons (.var (i := 1) (v := rowD r) rfl) .nil) len_tup) (Ev.call (.cons (Ev.bin (.var (i := 0) (v := gateD g) rfl) (.c (.int 0)) (op_ixT (x := rowD r0) (j := 0) (ixN_nat (i := 0) (by rw [List.length_map]; omega)) (by rw [List.getElem?_map, hr0]; rfl))) .nil) len_tup) op_eqI
        rw [List.length_map, List.length_map, hrl, hr0l] at e3
        simpa using e3
      · have e3 := Ev.callL (A := A) (E := [some (gateD g), some (rowD r), none]) (EvL.lcA (ws := [2]) (g := gNm 2) (te := dCall FPair (aCons (dVar 2) aNil)) (l := r) (h := pairD) (fun r => .bl true) (EvI.tup (.var (i := 1) rfl)) (sl_ge _ (by omega)) fun p hp => ⟨_, fun _ => rfl, Ev.call (.cons (.var rfl) .nil) pairF_ok⟩) fun S n hn => all_at hn
        rw [show (r.all fun r => true) = true from List.all_eq_true.mpr fun r hr => rfl] at e3
        exact e3
noncomputable def FSides : DF := trimF (dDef 1 1 den_sides_of)
noncomputable def FMarks : DF := trimF (dDef 1 1 den_marks_of)
theorem sides_ok {s m : Nat} {g : Gate} (h : Shape s m g) : OpF A FSides [gateD g] (.int (s : Nat)) := by
  have hm := h.m0
  have hl := h.len
  have hg0 : ∃ r, g[0]? = some r := ⟨g[0]'(by omega), List.getElem?_eq_getElem _⟩
  obtain ⟨r0, hr0⟩ := hg0
  have hr0l := h.rows r0 (List.mem_of_getElem? hr0)
  have e := Ev.call (A := A) (E := [some (gateD g)]) (.cons (Ev.bin (.var (i := 0) (v := gateD g) rfl) (.c (.int 0)) (op_ixT (x := rowD r0) (j := 0) (ixN_nat (i := 0) (by rw [List.length_map]; omega)) (by rw [List.getElem?_map, hr0]; rfl))) .nil) len_tup
  rw [List.length_map, hr0l] at e
  exact EvR.trim (EvR.ret e) rfl fun _ => rfl
theorem marks_ok {s m : Nat} {g : Gate} (h : Shape s m g) : OpF A FMarks [gateD g] (.int (m : Nat)) := by
  have e := Ev.call (A := A) (E := [some (gateD g)]) (.cons (.var (i := 0) (v := gateD g) rfl) .nil) len_tup
  rw [List.length_map, h.len] at e
  exact EvR.trim (EvR.ret e) rfl fun _ => rfl
end
end Pn
set_option Elab.async false
set_option linter.all false
set_option maxHeartbeats 1000000
set_option maxRecDepth 100000
namespace Pn
open PySem PySem.Spec L2 Dn
section
variable {A S B : Store} {E E' : Dn.Env} {m ma mb : DE} {xs ys vs : List D} {x y v : D}
theorem EvL.var {i n : Nat} (h : E[i]? = some (some (.ref n))) (hn : A[n]? = some (.lst xs)) : EvL A E (dVar i) xs := fun S hS => ⟨n, [], by rw [List.append_nil]; unfold dVar; rw [h], by rw [List.append_nil]; exact pre_at hS hn⟩
theorem EvL.add (ha : EvL A E ma xs) (hb : EvL A E mb ys) (hl : xs.length + ys.length ≤ sizeLine) : EvL A E (dBin vAdd ma mb) (xs ++ ys) := fun S hS => by
  obtain ⟨n1, g1, e1, h1⟩ := ha S hS
  obtain ⟨n2, g2, e2, h2⟩ := hb _ (pre_ext hS g1)
  refine ⟨(S ++ g1 ++ g2).length, g1 ++ g2 ++ [.lst (xs ++ ys)], ?_, ?_⟩
  · rw [e_Bin, e1, Dn.R.bind_ok, e2, Dn.R.bind_ok]
    unfold vAdd
    dsimp only
    unfold catLst
    rw [atA h1, h2]
    dsimp only
    rw [if_pos hl]
    unfold Dn.alloc
    simp
  · have e : S ++ (g1 ++ g2 ++ [.lst (xs ++ ys)]) = (S ++ g1 ++ g2) ++ [Cell.lst (xs ++ ys)] := by simp
    rw [e]
    exact at0
theorem Ev.tupleL (h : EvL A E m xs) : Ev A E (dCall bTuple (aCons m aNil)) (.tup xs) := Ev.callL h fun _ _ hn => tuple_at hn
theorem Ev.lenL (h : EvL A E m xs) : Ev A E (dCall bLen (aCons m aNil)) (.int xs.length) := Ev.callL h fun _ _ hn => len_at hn
theorem Ev.len (h : Ev A E m (.tup xs)) : Ev A E (dCall bLen (aCons m aNil)) (.int xs.length) := Ev.call (.cons h .nil) len_tup
/-- a list assigned -/
theorem asgL {i : Nat} (h : EvL S E m xs) : ∃ n g, dAsg m (gNm i) E S = .nx (E.set i (some (.ref n))) (S ++ g) ∧ (S ++ g)[n]? = some (.lst xs) := by
  obtain ⟨n, g, e, hn⟩ := h S (List.prefix_refl _)
  exact ⟨n, g, by rw [e_asg, e, R.toS_ok]; rfl, hn⟩
theorem recv_at {n : Nat} (h : S[n]? = some (.lst xs)) : recv "list" (.ref n) S = true := by
  unfold recv
  dsimp only
  rw [h]
  rfl
/-- an item put behind the list that stands behind B -/
theorem app_ok {i : Nat} {q : Store} (h : E[i]? = some (some (.ref B.length))) (hl : ys.length < sizeLine) (he : Ev (B ++ .lst ys :: q) E m x) : ∃ q', dDrop (dMeth "list" mAppend (dVar i) (aCons m aNil)) E (B ++ .lst ys :: q) = .nx E (B ++ .lst (ys ++ [x]) :: q') := by
  obtain ⟨g, e⟩ := he _ (List.prefix_refl _)
  refine ⟨q ++ g, ?_⟩
  have hv : ∀ S, dVar i E S = .ok (.ref B.length) S := fun S => by unfold dVar; rw [h]
  rw [e_drop, e_meth, hv, Dn.R.bind_ok, recv_at at0, if_pos rfl, e_acons, e, Dn.R.bind_ok, e_anil, Dn.R.bind_ok, Dn.R.bind_ok]
  unfold mAppend
  dsimp only
  rw [atA at0]
  dsimp only
  rw [if_pos hl, R.toS_ok, setA (by simp), st0]
  simp
/-! a loop that builds the list behind B -/
def EvT (A : Store) (E : Dn.Env) (m : DI) (xs : List D) : Prop := ∀ S, A <+: S → ∃ g, m E S = .ok (xs, fun _ => true) (S ++ g)
theorem EvT.tup (h : Ev A E m (.tup xs)) : EvT A E (iVal m) xs := fun S hS => by
  obtain ⟨g, e⟩ := h S hS
  exact ⟨g, by unfold iVal; rw [e, Dn.R.bind_ok]; rfl⟩
theorem EvT.enum (h : Ev A E m (.tup xs)) : EvT A E (iEnumD (aCons m aNil)) (enumD 0 xs) := fun S hS => by
  obtain ⟨g, e⟩ := h S hS
  refine ⟨g, ?_⟩
  have e1 : aCons m aNil E S = .ok [.tup xs] (S ++ g) := by simp [e]
  unfold iEnumD
  rw [e1, Dn.R.bind_ok]
  rfl
theorem EvT.range {k : Nat} (h : Ev A E m (.int (k : Nat))) (hk : k ≤ 1000000) : EvT A E (iRange1 (aCons m aNil)) (rngD 0 k) := fun S hS => by
  obtain ⟨g, e⟩ := h S hS
  refine ⟨g, ?_⟩
  have e1 : aCons m aNil E S = .ok [.int (k : Nat)] (S ++ g) := by simp [e]
  unfold iRange1
  rw [e1, Dn.R.bind_ok]
  dsimp only
  rw [if_pos (small_nat hk)]
theorem forB {it : DI} {g : DG} {body : DS} {q : Store} (R : Nat → List D) (Inv : Dn.Env → Prop) (hi : EvT (B ++ .lst (R 0) :: q) E it xs) (h0 : Inv E)
    (step : ∀ i x E q, xs[i]? = some x → Inv E → ∃ E1 E2 q', (∀ S, g x E S = .ok E1 S) ∧ body E1 (B ++ .lst (R i) :: q) = .nx E2 (B ++ .lst (R (i + 1)) :: q') ∧ Inv E2) :
    ∃ E' q', dFor it g body E (B ++ .lst (R 0) :: q) = .nx E' (B ++ .lst (R xs.length) :: q') ∧ Inv E' := by
  obtain ⟨g1, e1⟩ := hi _ (List.prefix_refl _)
  obtain ⟨env', st', e2, h1, q', h2⟩ := forL_run (chk := fun _ => true) (g := g) (m := body) (fun i env st => Inv env ∧ ∃ q, st = B ++ .lst (R i) :: q) (fun _ _ _ _ => rfl) (xs := xs) (i0 := 0) (env := E) (st := B ++ .lst (R 0) :: (q ++ g1)) ⟨h0, _, rfl⟩ (by
    rintro i x env st hx ⟨h1, q, rfl⟩
    rw [Nat.zero_add] at *
    obtain ⟨E1, E2, q', a, b, c⟩ := step i x env q hx h1
    exact ⟨_, _, _, _, a _, b, c, q', rfl⟩)
  rw [Nat.zero_add] at h2
  refine ⟨env', q', ?_, h1⟩
  rw [e_for, e1, Dn.R.toS_ok]
  have e : (B ++ .lst (R 0) :: q ++ g1 : Store) = B ++ .lst (R 0) :: (q ++ g1) := by simp
  rw [e, e2, h2]
theorem enum_get {i : Nat} (h : (enumD 0 xs)[i]? = some x) : ∃ y, xs[i]? = some y ∧ x = .tup [.int (i : Nat), y] := by
  rw [enumD_get] at h
  obtain ⟨y, h1, h2⟩ := Option.map_eq_some_iff.mp h
  exact ⟨y, h1, by rw [← h2, Nat.zero_add]⟩
theorem enum_len : ∀ (k : Nat) (xs : List D), (enumD k xs).length = xs.length
  | _, [] => rfl
  | k, x :: xs => by unfold enumD; rw [List.length_cons, enum_len (k + 1) xs, List.length_cons]
theorem map_get {α : Type} {h : α → D} {l : List α} {i : Nat} (e : (l.map h)[i]? = some x) : ∃ a, l[i]? = some a ∧ x = h a := by
  rw [List.getElem?_map] at e
  obtain ⟨a, h1, h2⟩ := Option.map_eq_some_iff.mp e
  exact ⟨a, h1, h2.symm⟩
theorem call1 {f : DF} {x : D} (h : ma E S = .ok x S) : dCall f (aCons ma aNil) E S = f [x] S := by
  rw [e_call, e_acons, h, Dn.R.bind_ok, e_anil, Dn.R.bind_ok, Dn.R.bind_ok]
theorem call2 {f : DF} {x y : D} (h : ma E S = .ok x S) (h2 : mb E S = .ok y S) : dCall f (aCons ma (aCons mb aNil)) E S = f [x, y] S := by
  rw [e_call, e_acons, h, Dn.R.bind_ok, e_acons, h2, Dn.R.bind_ok, e_anil, Dn.R.bind_ok, Dn.R.bind_ok, Dn.R.bind_ok]
theorem call3 {f : DF} {mc : DE} {x y z : D} (h : ma E S = .ok x S) (h2 : mb E S = .ok y S) (h3 : mc E S = .ok z S) : dCall f (aCons ma (aCons mb (aCons mc aNil))) E S = f [x, y, z] S := by
  rw [e_call, e_acons, h, Dn.R.bind_ok, e_acons, h2, Dn.R.bind_ok, e_acons, h3, Dn.R.bind_ok, e_anil, Dn.R.bind_ok, Dn.R.bind_ok, Dn.R.bind_ok, Dn.R.bind_ok]
theorem ret_of {S' : Store} (h : m E S = .ok v S') : dRet m E S = .rt v S' := by rw [e_ret, h, Dn.R.toS_ok]
/-! ### the gate of a law -/
theorem IsGate.shape {s m : Nat} {g : Gate} (h : IsGate s m g) (h0 : 0 < s) (h1 : 0 < m) (h2 : s ≤ 1000) (h3 : m ≤ 1000) : Shape s m g := ⟨h.len, h.rows, h0, h1, h2, h3⟩
noncomputable def FGate : DF := trimF (dDef 3 3 (den__law_gate FTake FEven FAny))
theorem gateF_ok {sd mk n : Nat} {v s c : Int} (h0 : 0 < sd) (h1 : 0 < mk) (h2 : sd ≤ 999) (h3 : mk ≤ 999) (h : A[n]? = some (boxC v s c)) : ∃ g v' s' c' sd' mk', FGate [.ref n, .int (sd : Nat), .int (mk : Nat)] A = .ok (gateD g) (A.set n (boxC v' s' c')) ∧ IsGate sd' mk' g ∧ 0 < sd' ∧ sd' ≤ sd ∧ 0 < mk' ∧ mk' ≤ mk := by
  have hn : n < A.length := (List.getElem?_eq_some_iff.mp h).1
  obtain ⟨a, v1, s1, c1, ha, t1⟩ := draw h h0 (by omega : sd ≤ 1000000)
  obtain ⟨b, v2, s2, c2, hb, t2⟩ := draw_set hn (v := v1) (s := s1) (c := c1) h1 (by omega : mk ≤ 1000000)
  obtain ⟨t, v3, s3, c3, ht, t3⟩ := draw_set hn (v := v2) (s := s2) (c := c2) (m := 3) (by omega) (by omega)
  have hb3 : (A.set n (boxC v3 s3 c3))[n]? = some (boxC v3 s3 c3) := List.getElem?_set_self hn
  obtain ⟨E1, hE1⟩ : ∃ E1 : Dn.Env, E1 = [some (.ref n), some (.int (1 + (a : Int))), some (.int (1 + (b : Int)))] := ⟨_, rfl⟩
  have p1 : dPar [1, 2] (aCons (dBin vAdd (dC (.int 1)) (dCall FTake (aCons (dVar 0) (aCons (dVar 1) aNil)))) (aCons (dBin vAdd (dC (.int 1)) (dCall FTake (aCons (dVar 0) (aCons (dVar 2) aNil)))) aNil)) [some (.ref n), some (.int (sd : Nat)), some (.int (mk : Nat))] A = .nx E1 (A.set n (boxC v2 s2 c2)) := by
    unfold dPar
    simp only [e_acons, e_anil, e_call, e_V0, e_VS, e_Bin, e_C, Dn.R.bind_ok, t1, t2, e_add, R.toS_ok]
    rw [hE1]
    rfl
  have u0 : ∀ T, dVar 0 E1 T = .ok (.ref n) T := fun T => by rw [hE1]; rfl
  have u1 : ∀ T, dVar 1 E1 T = .ok (.int (1 + (a : Int))) T := fun T => by rw [hE1]; rfl
  have u2 : ∀ T, dVar 2 E1 T = .ok (.int (1 + (b : Int))) T := fun T => by rw [hE1]; rfl
  have t3' : FTake [.ref n, .int 3] (A.set n (boxC v2 s2 c2)) = .ok (.int (t : Nat)) (A.set n (boxC v3 s3 c3)) := t3
  have p2 : dTest (dBin vEq (dCall FTake (aCons (dVar 0) (aCons (dC (.int 3)) aNil))) (dC (.int 0))) E1 (A.set n (boxC v2 s2 c2)) = .ok (decide ((t : Int) = 0)) (A.set n (boxC v3 s3 c3)) := by
    simp only [e_Test, e_Bin, e_call, e_acons, e_anil, u0, e_C, Dn.R.bind_ok, t3', e_eqI]
  obtain ⟨g1, v4, s4, c4, r1, i1⟩ := even_ok (sd := a + 1) (mk := b + 1) (by omega) (by omega) (by omega) (by omega) hb3
  obtain ⟨g2, v5, s5, c5, r2, i2⟩ := any_ok (sd := a + 1) (mk := b + 1) (by omega) (by omega) hb3
  have ca : ((a + 1 : Nat) : Int) = 1 + (a : Int) := by omega
  have cb : ((b + 1 : Nat) : Int) = 1 + (b : Int) := by omega
  rw [List.set_set, ca, cb] at r1 r2
  by_cases hz : (t : Int) = 0
  · refine ⟨g1, v4, s4, c4, a + 1, b + 1, trimF_ok (g := []) ?_ (by simp) (by simp) (Same.set _ (boxC_lt _ _ _ _)), i1, by omega, by omega, by omega, by omega⟩
    refine dDef_rt rfl rfl ?_
    refine (dSeq_nx p1).trans ?_
    rw [e_seq, e_if, p2, R.toS_ok, if_pos (decide_eq_true hz), ret_of ((call3 (u0 _) (u1 _) (u2 _)).trans r1), List.append_nil]
  · refine ⟨g2, v5, s5, c5, a + 1, b + 1, trimF_ok (g := []) ?_ (by simp) (by simp) (Same.set _ (boxC_lt _ _ _ _)), i2, by omega, by omega, by omega, by omega⟩
    refine dDef_rt rfl rfl ?_
    refine (dSeq_nx p1).trans ?_
    rw [e_seq, e_if, p2, R.toS_ok, if_neg (by simpa using hz), e_next]
    dsimp only
    rw [ret_of ((call3 (u0 _) (u1 _) (u2 _)).trans r2), List.append_nil]
end
end Pn
set_option Elab.async false
set_option linter.all false
set_option maxHeartbeats 1000000
set_option maxRecDepth 100000
namespace Pn
open PySem PySem.Spec L2 Dn
section
variable {A S B : Store} {E E' : Dn.Env} {m ma mb : DE} {xs ys vs : List D} {x y v : D}
theorem Ev.ixL {i : Int} {j : Nat} (h : EvL A E ma xs) (hb : Ev A E mb (.int i)) (hi : ixN xs.length i = some j) (hx : xs[j]? = some x) : Ev A E (dBin vIx ma mb) x := fun S hS => by
  obtain ⟨n, g1, e1, hn⟩ := h S hS
  obtain ⟨g2, e2⟩ := hb _ (pre_ext hS g1)
  refine ⟨g1 ++ g2, ?_⟩
  rw [e_Bin, e1, Dn.R.bind_ok, e2, Dn.R.bind_ok, e_ixL (atA hn) hi hx, List.append_assoc]
theorem op_ixF {n : Nat} {i : Int} {j : Nat} (h : A[n]? = some (.frz xs)) (hi : ixN xs.length i = some j) (hx : xs[j]? = some x) : Op2 A vIx (.ref n) (.int i) x := fun S hS => by
  simp only [vIx, pre_at hS h, ixD, atI, hi, Option.bind_some, hx]
theorem op_ixS {is : List Int} {i : Int} {j : Nat} {z : Int} (hi : ixN is.length i = some j) (hx : is[j]? = some z) : Op2 A vIx (.scr is) (.int i) (.int z) := fun S hS => by
  have e : atI is i = some z := by
    unfold atI
    rw [hi, Option.bind_some, hx]
  unfold vIx
  dsimp only
  rw [e]
theorem len_frz {n : Nat} (h : A[n]? = some (.frz xs)) : OpF A bLen [.ref n] (.int xs.length) := fun S hS => by
  unfold bLen
  dsimp only
  rw [pre_at hS h]
theorem op_pow {i : Int} {k : Nat} (hk : k ≤ 1000000) (hi : i.natAbs < 2 ^ 64) : Op2 A vPow (.int i) (.int (k : Nat)) (.int (i ^ k)) := fun S hS => by
  unfold vPow
  dsimp only
  rw [if_pos ⟨by omega, by omega, hi⟩]
  rfl
theorem int_bl {b : Bool} : OpF A bInt [.bl b] (.int (if b then 1 else 0)) := fun _ _ => rfl
theorem ret_lst {ma : DA} (h : EvA A E ma xs) (hl : xs.length ≤ sizeLine) (hS : A <+: S) : ∃ g, dRet (dLst ma) E S = .rt (.ref (S ++ g).length) (S ++ g ++ [.lst xs]) := by
  obtain ⟨g, e⟩ := h S hS
  exact ⟨g, by rw [e_ret, e_lst, e, Dn.R.bind_ok, mkLst_ok hl, R.toS_ok]⟩
/-! ### the box -/
theorem box_ok {k : Nat} {is : List Int} (hk : k ≤ 1000000) (hl : is.length ≤ 1000000) : ∃ v s g, dDef 2 4 den__law_box [.scr is, .int (k : Nat)] A = .ok (.ref (A ++ g).length) (A ++ g ++ [boxC v s 0]) := by
  have k1 : Dn.small64 6421 = true := by decide
  have k2 : Dn.small64 69623 = true := by decide
  have k3 : Dn.small64 48271 = true := by decide
  have k4 : Dn.small64 40692 = true := by decide
  obtain ⟨c0, hc0⟩ : ∃ c0 : Int, c0 = 6421 * (k : Int) + 37 := ⟨_, rfl⟩
  have s1 : EvN A [some (.scr is), some (.int (k : Nat)), none, none] (dAsg (dBin vAdd (dBin vMul (dC (.int 6421)) (dVar 1)) (dC (.int 37))) (gNm 2)) [some (.scr is), some (.int (k : Nat)), some (.int c0), none] := by
    rw [hc0]
    exact EvN.asg (Ev.bin (.bin (.c _) (.var rfl) (op_mulL k1)) (.c _) op_add)
  have hlen : ∀ c, Ev A [some (.scr is), some (.int (k : Nat)), some (.int c), none] (dCall bLen (aCons (dVar 0) aNil)) (.int (is.length : Nat)) := fun c => Ev.call (.cons (.var (i := 0) (v := .scr is) rfl) .nil) fun _ _ => rfl
  have hix : ∀ {c : Int} {mi : DE} {i : Nat}, i < is.length → Ev A [some (.scr is), some (.int (k : Nat)), some (.int c), none] mi (.int (i : Nat)) → ∃ d : Int, Ev A [some (.scr is), some (.int (k : Nat)), some (.int c), none] (dBin vIx (dVar 0) mi) (.int d) := fun {c mi i} hi he =>
    ⟨is[i], Ev.bin (.var (i := 0) rfl) he (op_ixS (j := i) (ixN_nat hi) (List.getElem?_eq_getElem hi))⟩
  have s2 : ∃ c1 : Int, EvN A [some (.scr is), some (.int (k : Nat)), some (.int c0), none] (dIf (dTest (dBin vLt (dVar 1) (dCall bLen (aCons (dVar 0) aNil)))) (dAsg (dBin vIx (dVar 0) (dVar 1)) (gNm 2)) (dIf (dTest (dBin vGt (dCall bLen (aCons (dVar 0) aNil)) (dC (.int 0)))) (dAsg (dBin vAdd (dVar 2) (dBin vMul (dBin vMod (dBin vIx (dVar 0) (dBin vMod (dVar 1) (dCall bLen (aCons (dVar 0) aNil)))) (dC (.int 2147483629))) (dC (.int 69623)))) (gNm 2)) dNext)) [some (.scr is), some (.int (k : Nat)), some (.int c1), none] := by
    have t1 := EvB.test (Ev.bin (f := vLt) (.var (i := 1) rfl) (hlen c0) op_cmp)
    have t2 := EvB.test (Ev.bin (f := vGt) (hlen c0) (.c (.int 0)) op_cmp)
    by_cases h1 : k < is.length
    · obtain ⟨d, hd⟩ := hix (c := c0) (mi := dVar 1) h1 (.var rfl)
      rw [decide_eq_true (by omega)] at t1
      exact ⟨d, EvN.ifT t1 (EvN.asg hd)⟩
    · rw [decide_eq_false (by omega)] at t1
      by_cases h2 : 0 < is.length
      · rw [decide_eq_true (by omega)] at t2
        have e0 : Ev A [some (.scr is), some (.int (k : Nat)), some (.int c0), none] (dBin vMod (dVar 1) (dCall bLen (aCons (dVar 0) aNil))) (.int ((k % is.length : Nat) : Int)) := Ev.bin (.var rfl) (hlen c0) (op_mod (by omega))
        obtain ⟨d, hd⟩ := hix (c := c0) (Nat.mod_lt k h2) e0
        exact ⟨c0 + d % 2147483629 * 69623, EvN.ifF t1 (EvN.ifT t2 (EvN.asg (Ev.bin (.var rfl) (.bin (.bin hd (.c _) (op_mod (by decide))) (.c _) (op_mulR k2)) op_add)))⟩
      · rw [decide_eq_false (by omega)] at t2
        exact ⟨c0, EvN.ifF t1 (EvN.ifF t2 .next)⟩
  obtain ⟨c1, s2⟩ := s2
  obtain ⟨c2, hc2⟩ : ∃ c2 : Int, c2 = (c1 % 2147483629 * 48271 + 40692 * (k : Int)) % 2147483629 + 1 := ⟨_, rfl⟩
  have s3 : EvN A [some (.scr is), some (.int (k : Nat)), some (.int c1), none] (dAsg (dBin vAdd (dBin vMod (dBin vAdd (dBin vMul (dBin vMod (dVar 2) (dC (.int 2147483629))) (dC (.int 48271))) (dBin vMul (dC (.int 40692)) (dVar 1))) (dC (.int 2147483629))) (dC (.int 1))) (gNm 3)) [some (.scr is), some (.int (k : Nat)), some (.int c1), some (.int c2)] := by
    rw [hc2]
    exact EvN.asg (Ev.bin (.bin (.bin (.bin (.bin (.var rfl) (.c _) (op_mod (by decide))) (.c _) (op_mulR k3)) (.bin (.c _) (.var rfl) (op_mulL k4)) op_add) (.c _) (op_mod (by decide))) (.c _) op_add)
  obtain ⟨b, hb⟩ : ∃ b : Bool, b = decide ((10 : Int) ^ 18 ≤ c1) := ⟨_, rfl⟩
  have e4 : ∃ v : Int, Ev A [some (.scr is), some (.int (k : Nat)), some (.int c1), some (.int c2)] (dBin vIx (dLst (aCons (dC (.int 0)) (aCons (dVar 2) aNil))) (dCall bInt (aCons (dBin vGe (dVar 2) (dBin vPow (dC (.int 10)) (dC (.int 18)))) aNil))) (.int v) := by
    have e5 : Ev A [some (.scr is), some (.int (k : Nat)), some (.int c1), some (.int c2)] (dCall bInt (aCons (dBin vGe (dVar 2) (dBin vPow (dC (.int 10)) (dC (.int 18)))) aNil)) (.int (if b then 1 else 0)) := by
      refine Ev.call (.cons (x := .bl b) ?_ .nil) int_bl
      rw [hb]
      exact Ev.bin (.var rfl) (.bin (.c _) (.c (.int ((18 : Nat) : Int))) (op_pow (by omega) (by decide))) op_cmp
    have e6 : EvL A [some (.scr is), some (.int (k : Nat)), some (.int c1), some (.int c2)] (dLst (aCons (dC (.int 0)) (aCons (dVar 2) aNil))) [.int 0, .int c1] := EvL.lst (.cons (.c _) (.cons (.var rfl) .nil)) (show 2 ≤ sizeLine by decide)
    cases b with
    | true => exact ⟨c1, Ev.ixL (j := 1) e6 e5 rfl rfl⟩
    | false => exact ⟨0, Ev.ixL (j := 0) e6 e5 rfl rfl⟩
  obtain ⟨v, e4⟩ := e4
  have s4 : EvA A [some (.scr is), some (.int (k : Nat)), some (.int c1), some (.int c2)] (aCons (dBin vIx (dLst (aCons (dC (.int 0)) (aCons (dVar 2) aNil))) (dCall bInt (aCons (dBin vGe (dVar 2) (dBin vPow (dC (.int 10)) (dC (.int 18)))) aNil))) (aCons (dVar 3) (aCons (dC (.int 0)) aNil))) [.int v, .int c2, .int 0] := .cons e4 (.cons (.var rfl) (.cons (.c _) .nil))
  obtain ⟨g1, e1⟩ := s1 A (List.prefix_refl _)
  obtain ⟨g2, e2⟩ := s2 _ (pre_ext (List.prefix_refl _) g1)
  obtain ⟨g3, e3⟩ := s3 _ (pre_ext (pre_ext (List.prefix_refl _) g1) g2)
  obtain ⟨g4, e5⟩ := ret_lst s4 (show 3 ≤ sizeLine by decide) (pre_ext (pre_ext (pre_ext (List.prefix_refl _) g1) g2) g3)
  refine ⟨v, c2, g1 ++ g2 ++ g3 ++ g4, ?_⟩
  refine dDef_rt rfl rfl ?_
  refine (dSeq_nx e1).trans ((dSeq_nx e2).trans ((dSeq_nx e3).trans ?_))
  rw [e5]
  simp [boxC]
end
end Pn
set_option Elab.async false
set_option linter.all false
set_option maxHeartbeats 1000000
set_option maxRecDepth 100000
namespace Pn
open PySem PySem.Spec L2 Dn
/-! ### beside -/
def bRow (many sides mine its : Nat) (row more : List (Nat × Nat)) : List (Nat × Nat) := row.map (fun p => (p.1, p.2 * many + its)) ++ more.map (fun p => (sides + p.1, mine * many + p.2))
def bRows (many sides : Nat) (one other : Gate) (i : Nat) : Gate := (List.range i).flatMap fun a => (List.range other.length).map fun b => bRow many sides a b (one.getD a []) (other.getD b [])
def besideG (many sides : Nat) (one other : Gate) : Gate := bRows many sides one other one.length
noncomputable def FBeside : DF := trimF (dDef 2 12 (den_beside FSides FMarks))
theorem bRows_succ (many sides : Nat) (one other : Gate) (i : Nat) : bRows many sides one other (i + 1) = bRows many sides one other i ++ (List.range other.length).map fun b => bRow many sides i b (one.getD i []) (other.getD b []) := by
  unfold bRows
  rw [List.range_succ, List.flatMap_append]
  simp
theorem bRows_len (many sides : Nat) (one other : Gate) (i : Nat) : (bRows many sides one other i).length = i * other.length := by
  induction i with
  | zero => simp [bRows]
  | succ i ih => rw [bRows_succ, List.length_append, ih]; simp [Nat.succ_mul]
theorem pairD_eq (a b : Nat) : pairD (a, b) = .tup [.int (a : Nat), .int (b : Nat)] := rfl
def bEnv (one other : Gate) (many sides n : Nat) (x5 x6 x7 x8 x9 x10 x11 : Option D) : Dn.Env := [some (gateD one), some (gateD other), some (.int (many : Nat)), some (.int (sides : Nat)), some (.ref n), x5, x6, x7, x8, x9, x10, x11]
section
variable {B : Store} {s m s' m' : Nat} {one other : Gate}
theorem bBody_ok {q : Store} {rows : Gate} {mine its : Nat} {row more : List (Nat × Nat)} {x9 x10 x11 : Option D} (h1 : m' ≤ 1000) (h2 : row.length ≤ 1000) (h3 : more.length ≤ 1000) (h4 : rows.length < 10000000) :
    ∃ x9' q', (dSeq (dAsg (dLc (iVal (dVar 6)) (gTp 2 (gsCons (gNm 10) (gsCons (gNm 11) gsNil))) dYes (dTup (aCons (dVar 10) (aCons (dBin vAdd (dBin vMul (dVar 11) (dVar 2)) (dVar 7)) aNil))) [10, 11]) (gNm 9)) (dDrop (dMeth "list" mAppend (dVar 4) (aCons (dCall bTuple (aCons (dBin vAdd (dVar 9) (dLc (iVal (dVar 8)) (gTp 2 (gsCons (gNm 10) (gsCons (gNm 11) gsNil))) dYes (dTup (aCons (dBin vAdd (dVar 3) (dVar 10)) (aCons (dBin vAdd (dBin vMul (dVar 5) (dVar 2)) (dVar 11)) aNil))) [10, 11])) aNil)) aNil))))
      (bEnv one other m' s B.length (some (.int (mine : Nat))) (some (rowD row)) (some (.int (its : Nat))) (some (rowD more)) x9 x10 x11) (B ++ .lst (rows.map rowD) :: q) =
    .nx (bEnv one other m' s B.length (some (.int (mine : Nat))) (some (rowD row)) (some (.int (its : Nat))) (some (rowD more)) x9' x10 x11) (B ++ .lst ((rows ++ [bRow m' s mine its row more]).map rowD) :: q') := by
  have L1 : ∀ A, EvL A (bEnv one other m' s B.length (some (.int (mine : Nat))) (some (rowD row)) (some (.int (its : Nat))) (some (rowD more)) x9 x10 x11) (dLc (iVal (dVar 6)) (gTp 2 (gsCons (gNm 10) (gsCons (gNm 11) gsNil))) dYes (dTup (aCons (dVar 10) (aCons (dBin vAdd (dBin vMul (dVar 11) (dVar 2)) (dVar 7)) aNil))) [10, 11]) (row.map fun p => pairD (p.1, p.2 * m' + its)) := fun A =>
    EvL.lcA (h := pairD) _ (EvI.tup (.var rfl)) (sl_ge _ (by omega)) fun p hp => ⟨bEnv one other m' s B.length (some (.int (mine : Nat))) (some (rowD row)) (some (.int (its : Nat))) (some (rowD more)) x9 (some (.int (p.1 : Nat))) (some (.int (p.2 : Nat))), fun _ => rfl, Ev.tup2 (.var rfl) (.bin (.bin (.var rfl) (.var rfl) (op_mulR (small_of (by omega)))) (.var rfl) op_add)⟩
  obtain ⟨n, g, e1, hn⟩ := asgL (i := 9) (L1 (B ++ .lst (rows.map rowD) :: q))
  have L2 : ∀ A, EvL A (bEnv one other m' s B.length (some (.int (mine : Nat))) (some (rowD row)) (some (.int (its : Nat))) (some (rowD more)) (some (.ref n)) x10 x11) (dLc (iVal (dVar 8)) (gTp 2 (gsCons (gNm 10) (gsCons (gNm 11) gsNil))) dYes (dTup (aCons (dBin vAdd (dVar 3) (dVar 10)) (aCons (dBin vAdd (dBin vMul (dVar 5) (dVar 2)) (dVar 11)) aNil))) [10, 11]) (more.map fun p => pairD (s + p.1, mine * m' + p.2)) := fun A =>
    EvL.lcA (h := pairD) _ (EvI.tup (.var rfl)) (sl_ge _ (by omega)) fun p hp => ⟨bEnv one other m' s B.length (some (.int (mine : Nat))) (some (rowD row)) (some (.int (its : Nat))) (some (rowD more)) (some (.ref n)) (some (.int (p.1 : Nat))) (some (.int (p.2 : Nat))), fun _ => rfl, Ev.tup2 (.bin (.var rfl) (.var rfl) op_add) (.bin (.bin (.var rfl) (.var rfl) (op_mulR (small_of (by omega)))) (.var rfl) op_add)⟩
  have eS : (B ++ .lst (rows.map rowD) :: q ++ g : Store) = B ++ .lst (rows.map rowD) :: (q ++ g) := by simp
  rw [eS] at e1 hn
  have T := Ev.tupleL (EvL.add (EvL.var (E := bEnv one other m' s B.length (some (.int (mine : Nat))) (some (rowD row)) (some (.int (its : Nat))) (some (rowD more)) (some (.ref n)) x10 x11) (i := 9) rfl hn) (L2 _) (by rw [List.length_map, List.length_map]; exact sl_ge _ (by omega)))
  obtain ⟨q', e2⟩ := app_ok (i := 4) rfl (by rw [List.length_map]; have q : sizeLine = 16777216 := sizeLine_eq
                                             omega) T
  refine ⟨some (.ref n), q', (dSeq_nx e1).trans (e2.trans ?_)⟩
  have eR : D.tup ((row.map fun p => pairD (p.1, p.2 * m' + its)) ++ more.map fun p => pairD (s + p.1, mine * m' + p.2)) = rowD (bRow m' s mine its row more) := by
    unfold rowD bRow
    rw [List.map_append, List.map_map, List.map_map]
    rfl
  rw [eR, List.map_append]
  rfl
theorem beside_ok {A : Store} (h : Shape s m one) (h' : Shape s' m' other) : OpF A FBeside [gateD one, gateD other] (gateD (besideG m' s one other)) := by
  intro B hB
  have hs1 := h.s1
  have hm1 := h.m1
  have hs1' := h'.s1
  have hm1' := h'.m1
  have hl := h.len
  have hl' := h'.len
  have p1 : dAsg (dTup (aCons (dCall FMarks (aCons (dVar 1) aNil)) (aCons (dCall FSides (aCons (dVar 0) aNil)) (aCons (dLst aNil) aNil)))) (gTp 3 (gsCons (gNm 2) (gsCons (gNm 3) (gsCons (gNm 4) gsNil)))) [some (gateD one), some (gateD other), none, none, none, none, none, none, none, none, none, none] B = .nx (bEnv one other m' s B.length none none none none none none none) (B ++ [.lst []]) := by
    have e1 : dCall FMarks (aCons (dVar 1) aNil) [some (gateD one), some (gateD other), none, none, none, none, none, none, none, none, none, none] B = .ok (.int (m' : Nat)) B := (call1 rfl).trans (marks_ok h' B hB)
    have e2 : dCall FSides (aCons (dVar 0) aNil) [some (gateD one), some (gateD other), none, none, none, none, none, none, none, none, none, none] B = .ok (.int (s : Nat)) B := (call1 rfl).trans (sides_ok h B hB)
    rw [e_asg, e_tup, e_acons, e1, Dn.R.bind_ok, e_acons, e2, Dn.R.bind_ok, e_acons, e_lst, e_anil, Dn.R.bind_ok, mkLst_nil, Dn.R.bind_ok, e_anil, Dn.R.bind_ok, Dn.R.bind_ok, Dn.R.bind_ok, Dn.R.bind_ok, mkTup_ok (xs := [_, _, _]) (show 3 ≤ sizeLine by decide), R.toS_ok]
    rfl
  have inner : ∀ (i : Nat) (row : List (Nat × Nat)) (x7 x8 x9 x10 x11 : Option D) (q : Store), one[i]? = some row → ∃ E' q', dFor (iEnumD (aCons (dVar 1) aNil)) (gTp 2 (gsCons (gNm 7) (gsCons (gNm 8) gsNil))) (dSeq (dAsg (dLc (iVal (dVar 6)) (gTp 2 (gsCons (gNm 10) (gsCons (gNm 11) gsNil))) dYes (dTup (aCons (dVar 10) (aCons (dBin vAdd (dBin vMul (dVar 11) (dVar 2)) (dVar 7)) aNil))) [10, 11]) (gNm 9)) (dDrop (dMeth "list" mAppend (dVar 4) (aCons (dCall bTuple (aCons (dBin vAdd (dVar 9) (dLc (iVal (dVar 8)) (gTp 2 (gsCons (gNm 10) (gsCons (gNm 11) gsNil))) dYes (dTup (aCons (dBin vAdd (dVar 3) (dVar 10)) (aCons (dBin vAdd (dBin vMul (dVar 5) (dVar 2)) (dVar 11)) aNil))) [10, 11])) aNil)) aNil))))
      (bEnv one other m' s B.length (some (.int (i : Nat))) (some (rowD row)) x7 x8 x9 x10 x11) (B ++ .lst ((bRows m' s one other i).map rowD) :: q) = .nx E' (B ++ .lst ((bRows m' s one other (i + 1)).map rowD) :: q') ∧ ∃ x7 x8 x9 x10 x11, E' = bEnv one other m' s B.length (some (.int (i : Nat))) (some (rowD row)) x7 x8 x9 x10 x11 := by
    intro i row x7 x8 x9 x10 x11 q hrow
    have hi : i < one.length := (List.getElem?_eq_some_iff.mp hrow).1
    have hrl : row.length ≤ 1000 := by rw [h.rows row (List.mem_of_getElem? hrow)]; exact hs1
    have hmul : i * other.length ≤ 999 * 1000 := Nat.mul_le_mul (by omega) (by omega)
    obtain ⟨E', q', e, hI⟩ := forB (B := B) (q := q) (xs := enumD 0 (other.map rowD)) (fun j => ((bRows m' s one other i) ++ (List.range j).map fun b => bRow m' s i b (one.getD i []) (other.getD b [])).map rowD) (fun E' => ∃ x7 x8 x9 x10 x11, E' = bEnv one other m' s B.length (some (.int (i : Nat))) (some (rowD row)) x7 x8 x9 x10 x11)
      (EvT.enum (.var (i := 1) rfl)) (E := bEnv one other m' s B.length (some (.int (i : Nat))) (some (rowD row)) x7 x8 x9 x10 x11) (g := gTp 2 (gsCons (gNm 7) (gsCons (gNm 8) gsNil))) ⟨_, _, _, _, _, rfl⟩ (by
        rintro j x E q hx ⟨x7, x8, x9, x10, x11, rfl⟩
        obtain ⟨y, hy, rfl⟩ := enum_get hx
        obtain ⟨more, hmore, rfl⟩ := map_get hy
        have hj : j < other.length := (List.getElem?_eq_some_iff.mp hmore).1
        have hml : more.length ≤ 1000 := by rw [h'.rows more (List.mem_of_getElem? hmore)]; exact hs1'
        obtain ⟨x9', q', e⟩ := bBody_ok (B := B) (s := s) (m' := m') (one := one) (other := other) (q := q) (rows := (bRows m' s one other i) ++ (List.range j).map fun b => bRow m' s i b (one.getD i []) (other.getD b [])) (mine := i) (its := j) (row := row) (more := more) (x9 := x9) (x10 := x10) (x11 := x11) hm1' hrl hml (by rw [List.length_append, bRows_len, List.length_map, List.length_range]; omega)
        refine ⟨_, _, q', fun _ => rfl, ?_, some (.int (j : Nat)), some (rowD more), x9', x10, x11, rfl⟩
        refine e.trans ?_
        have e1 : one.getD i [] = row := by rw [List.getD_eq_getElem?_getD, hrow]; rfl
        have e2 : other.getD j [] = more := by rw [List.getD_eq_getElem?_getD, hmore]; rfl
        rw [List.range_succ, List.map_append (l₁ := List.range j), ← List.append_assoc, List.map_singleton (a := j), e1, e2])
    refine ⟨E', q', ?_, hI⟩
    rw [List.range_zero, List.map_nil, List.append_nil, enum_len, List.length_map] at e
    rw [e, bRows_succ]
  obtain ⟨E', q', e, x5, x6, x7, x8, x9, x10, x11, hI⟩ := forB (B := B) (q := []) (xs := enumD 0 (one.map rowD)) (fun i => (bRows m' s one other i).map rowD) (fun E' => ∃ x5 x6 x7 x8 x9 x10 x11, E' = bEnv one other m' s B.length x5 x6 x7 x8 x9 x10 x11)
      (EvT.enum (.var (i := 0) rfl)) (E := bEnv one other m' s B.length none none none none none none none) ⟨_, _, _, _, _, _, _, rfl⟩ (g := gTp 2 (gsCons (gNm 5) (gsCons (gNm 6) gsNil))) (by
        rintro i x E q hx ⟨x5, x6, x7, x8, x9, x10, x11, rfl⟩
        obtain ⟨y, hy, rfl⟩ := enum_get hx
        obtain ⟨row, hrow, rfl⟩ := map_get hy
        obtain ⟨E', q', e, y7, y8, y9, y10, y11, hI⟩ := inner i row x7 x8 x9 x10 x11 q hrow
        exact ⟨_, E', q', fun _ => rfl, e, _, _, y7, y8, y9, y10, y11, hI⟩)
  rw [enum_len, List.length_map] at e
  obtain ⟨g, e4⟩ := EvR.ret (Ev.tupleL (EvL.var (A := B ++ .lst ((bRows m' s one other one.length).map rowD) :: q') (E := E') (i := 4) (n := B.length) (by rw [hI]; rfl) at0)) _ (List.prefix_refl _)
  refine trimF_pure (g := .lst ((bRows m' s one other one.length).map rowD) :: (q' ++ g)) (dDef_rt rfl rfl ((dSeq_nx p1).trans ((dSeq_nx e).trans (e4.trans ?_)))) (gate_lt _ _)
  simp [gateD, besideG]
end
end Pn
set_option Elab.async false
set_option linter.all false
set_option maxHeartbeats 1000000
set_option maxRecDepth 100000
namespace Pn
open PySem PySem.Spec L2 Dn
/-! ### what beside is due -/
def dRow (many sides : Nat) (one other : Gate) (j : Nat) : List (Nat × Nat) := bRow many sides (j / many) (j % many) (one.getD (j / many) []) (other.getD (j % many) [])
theorem due_rows {many sides : Nat} {one other : Gate} (hl : other.length = many) (h0 : 0 < many) : ∀ i, (List.range (i * many)).map (dRow many sides one other) = bRows many sides one other i
  | 0 => by simp [bRows]
  | i + 1 => by
    rw [bRows_succ, ← due_rows hl h0 i, Nat.succ_mul, List.range_add, List.map_append, List.map_map, hl]
    congr 1
    apply List.map_congr_left
    intro b hb
    have hb := List.mem_range.mp hb
    have e1 : (i * many + b) / many = i := by rw [Nat.mul_comm, Nat.mul_add_div h0, Nat.div_eq_of_lt hb]; omega
    have e2 : (i * many + b) % many = b := by rw [Nat.mul_comm, Nat.mul_add_mod, Nat.mod_eq_of_lt hb]
    simp only [Function.comp_def, dRow, e1, e2]
noncomputable def FDue : DF := trimF (dDef 2 11 den__law_due)
def uEnv (one other : Gate) (many sides n : Nat) (x5 x6 x7 x8 x9 x10 : Option D) : Dn.Env := [some (gateD one), some (gateD other), some (.ref n), some (.int (many : Nat)), some (.int (sides : Nat)), x5, x6, x7, x8, x9, x10]
section
variable {B : Store} {s m s' m' : Nat} {one other : Gate}
theorem lt_sl {k : Nat} (h : k < 10000000) : k < sizeLine := by
  have q : sizeLine = 16777216 := sizeLine_eq
  omega
/-- a row of pairs put behind, each pair turned by f -/
theorem uFor {S q : Store} {E : Dn.Env} {it te : DE} {row acc : List (Nat × Nat)} (mk : Option D → Option D → Dn.Env) (f : Nat × Nat → Nat × Nat) (x9 x10 : Option D) (hE : E = mk x9 x10) (hr : ∀ A, Ev A E it (rowD row)) (hl : acc.length + row.length ≤ 1000000)
    (h8 : ∀ x9 x10, (mk x9 x10)[8]? = some (some (.ref S.length)))
    (hset : ∀ x9 x10 (p : Nat × Nat), ∀ T, gTp 2 (gsCons (gNm 9) (gsCons (gNm 10) gsNil)) (pairD p) (mk x9 x10) T = .ok (mk (some (.int (p.1 : Nat))) (some (.int (p.2 : Nat)))) T)
    (hte : ∀ A (p : Nat × Nat), Ev A (mk (some (.int (p.1 : Nat))) (some (.int (p.2 : Nat)))) te (pairD (f p))) :
    ∃ x9' x10' q', dFor (iVal it) (gTp 2 (gsCons (gNm 9) (gsCons (gNm 10) gsNil))) (dDrop (dMeth "list" mAppend (dVar 8) (aCons te aNil))) E (S ++ .lst (acc.map pairD) :: q) = .nx (mk x9' x10') (S ++ .lst ((acc ++ row.map f).map pairD) :: q') := by
  obtain ⟨E', q', e, x9', x10', hI⟩ := forB (B := S) (q := q) (xs := row.map pairD) (fun j => (acc ++ (row.take j).map f).map pairD) (fun E' => ∃ x9 x10, E' = mk x9 x10) (EvT.tup (hr _)) ⟨x9, x10, hE⟩ (g := gTp 2 (gsCons (gNm 9) (gsCons (gNm 10) gsNil))) (body := dDrop (dMeth "list" mAppend (dVar 8) (aCons te aNil))) (by
    rintro j x E q hx ⟨x9, x10, rfl⟩
    obtain ⟨p, hp, rfl⟩ := map_get hx
    have hj : j < row.length := (List.getElem?_eq_some_iff.mp hp).1
    obtain ⟨q', e⟩ := app_ok (B := S) (ys := (acc ++ (row.take j).map f).map pairD) (q := q) (i := 8) (h8 (some (.int (p.1 : Nat))) (some (.int (p.2 : Nat)))) (lt_sl (by rw [List.length_map, List.length_append, List.length_map, List.length_take]; omega)) (hte _ p)
    refine ⟨_, mk (some (.int (p.1 : Nat))) (some (.int (p.2 : Nat))), q', fun T => hset x9 x10 p T, ?_, _, _, rfl⟩
    rw [e, List.take_add_one, hp]
    simp)
  refine ⟨x9', x10', q', ?_⟩
  rw [List.take_zero, List.map_nil, List.append_nil, List.length_map, List.take_length] at e
  rw [e, hI]
theorem uBody_ok {q : Store} {rows : Gate} {j : Nat} {x6 x7 x8 x9 x10 : Option D} (h : Shape s m one) (h' : Shape s' m' other) (hj : j < m * m') (h4 : rows.length < 10000000) :
    ∃ x6' x7' x8' x9' x10' q', (dSeq (dPar [6, 7] (aCons (dBin vDiv (dVar 5) (dVar 3)) (aCons (dBin vSub (dVar 5) (dBin vMul (dBin vDiv (dVar 5) (dVar 3)) (dVar 3))) aNil))) (dSeq (dAsg (dLst aNil) (gNm 8)) (dSeq (dFor (iVal (dBin vIx (dVar 0) (dVar 6))) (gTp 2 (gsCons (gNm 9) (gsCons (gNm 10) gsNil))) (dDrop (dMeth "list" mAppend (dVar 8) (aCons (dTup (aCons (dVar 9) (aCons (dBin vAdd (dBin vMul (dVar 10) (dVar 3)) (dVar 7)) aNil))) aNil)))) (dSeq (dFor (iVal (dBin vIx (dVar 1) (dVar 7))) (gTp 2 (gsCons (gNm 9) (gsCons (gNm 10) gsNil))) (dDrop (dMeth "list" mAppend (dVar 8) (aCons (dTup (aCons (dBin vAdd (dVar 4) (dVar 9)) (aCons (dBin vAdd (dBin vMul (dVar 6) (dVar 3)) (dVar 10)) aNil))) aNil)))) (dDrop (dMeth "list" mAppend (dVar 2) (aCons (dCall bTuple (aCons (dVar 8) aNil)) aNil)))))))
      (uEnv one other m' s B.length (some (.int (j : Nat))) x6 x7 x8 x9 x10) (B ++ .lst (rows.map rowD) :: q) =
    .nx (uEnv one other m' s B.length (some (.int (j : Nat))) x6' x7' x8' x9' x10') (B ++ .lst ((rows ++ [dRow m' s one other j]).map rowD) :: q') := by
  have h0 := h'.m0
  have hm1' := h'.m1
  have hs1 := h.s1
  have hs1' := h'.s1
  have hm1 := h.m1
  have hl := h.len
  have hl' := h'.len
  obtain ⟨S, hS⟩ : ∃ S : Store, S = B ++ .lst (rows.map rowD) :: q := ⟨_, rfl⟩
  rw [← hS]
  have hdiv : j / m' < one.length := by rw [hl]; exact Nat.div_lt_of_lt_mul (by rw [Nat.mul_comm]; exact hj)
  have hmod : j % m' < other.length := by rw [hl']; exact Nat.mod_lt _ h0
  have hd : ((j : Int) / (m' : Int)) = ((j / m' : Nat) : Int) := rfl
  have hm : (j : Int) - ((j / m' : Nat) : Int) * (m' : Int) = ((j % m' : Nat) : Int) := by
    have e := Nat.div_add_mod j m'
    have e2 : ((m' * (j / m') + j % m' : Nat) : Int) = (j : Int) := by rw [e]
    rw [Int.natCast_add, Int.natCast_mul, Int.mul_comm] at e2
    omega
  have p1 : dPar [6, 7] (aCons (dBin vDiv (dVar 5) (dVar 3)) (aCons (dBin vSub (dVar 5) (dBin vMul (dBin vDiv (dVar 5) (dVar 3)) (dVar 3))) aNil)) (uEnv one other m' s B.length (some (.int (j : Nat))) x6 x7 x8 x9 x10) S = .nx (uEnv one other m' s B.length (some (.int (j : Nat))) (some (.int ((j / m' : Nat) : Int))) (some (.int ((j % m' : Nat) : Int))) x8 x9 x10) S := by
    have v5 : dVar 5 (uEnv one other m' s B.length (some (.int (j : Nat))) x6 x7 x8 x9 x10) S = .ok (.int (j : Nat)) S := rfl
    have v3 : dVar 3 (uEnv one other m' s B.length (some (.int (j : Nat))) x6 x7 x8 x9 x10) S = .ok (.int (m' : Nat)) S := rfl
    have dv : vDiv (.int (j : Nat)) (.int (m' : Nat)) S = .ok (.int ((j / m' : Nat) : Int)) S := by rw [e_div (by omega) (by omega), hd]
    unfold dPar
    rw [e_acons, e_Bin, v5, Dn.R.bind_ok, v3, Dn.R.bind_ok, dv, Dn.R.bind_ok, e_acons, e_Bin, v5, Dn.R.bind_ok, e_Bin, e_Bin, v5, Dn.R.bind_ok, v3, Dn.R.bind_ok, dv, Dn.R.bind_ok, v3, Dn.R.bind_ok, e_mulR (small_of (by omega)), Dn.R.bind_ok, e_sub, hm, Dn.R.bind_ok, e_anil, Dn.R.bind_ok, Dn.R.bind_ok, R.toS_ok]
    rfl
  have p2 : dAsg (dLst aNil) (gNm 8) (uEnv one other m' s B.length (some (.int (j : Nat))) (some (.int ((j / m' : Nat) : Int))) (some (.int ((j % m' : Nat) : Int))) x8 x9 x10) S = .nx (uEnv one other m' s B.length (some (.int (j : Nat))) (some (.int ((j / m' : Nat) : Int))) (some (.int ((j % m' : Nat) : Int))) (some (.ref S.length)) x9 x10) (S ++ [.lst []]) := by
    rw [e_asg, e_lst, e_anil, Dn.R.bind_ok, mkLst_nil, R.toS_ok]
    rfl
  obtain ⟨r1, hr1⟩ : ∃ r, one[j / m']? = some r := ⟨_, List.getElem?_eq_getElem hdiv⟩
  obtain ⟨r2, hr2⟩ : ∃ r, other[j % m']? = some r := ⟨_, List.getElem?_eq_getElem hmod⟩
  have hl1 := h.rows r1 (List.mem_of_getElem? hr1)
  have hl2 := h'.rows r2 (List.mem_of_getElem? hr2)
  obtain ⟨x9a, x10a, q1, p3⟩ := uFor (S := S) (q := []) (acc := []) (row := r1) (it := dBin vIx (dVar 0) (dVar 6)) (te := (dTup (aCons (dVar 9) (aCons (dBin vAdd (dBin vMul (dVar 10) (dVar 3)) (dVar 7)) aNil)))) (fun x9 x10 => uEnv one other m' s B.length (some (.int (j : Nat))) (some (.int ((j / m' : Nat) : Int))) (some (.int ((j % m' : Nat) : Int))) (some (.ref S.length)) x9 x10) (fun p => (p.1, p.2 * m' + j % m')) x9 x10 rfl
    (fun A => Ev.bin (.var (v := gateD one) rfl) (.var rfl) (op_ixT (ixN_nat (by rw [List.length_map]; exact hdiv)) (by rw [List.getElem?_map, hr1]; rfl))) (by simp; omega) (fun _ _ => rfl) (fun _ _ _ _ => rfl)
    (fun A p => Ev.tup2 (.var rfl) (.bin (.bin (.var rfl) (.var rfl) (op_mulR (small_of (by omega)))) (.var rfl) op_add))
  obtain ⟨x9b, x10b, q2, p4⟩ := uFor (S := S) (q := q1) (acc := [] ++ r1.map fun p => (p.1, p.2 * m' + j % m')) (row := r2) (it := dBin vIx (dVar 1) (dVar 7)) (te := (dTup (aCons (dBin vAdd (dVar 4) (dVar 9)) (aCons (dBin vAdd (dBin vMul (dVar 6) (dVar 3)) (dVar 10)) aNil)))) (fun x9 x10 => uEnv one other m' s B.length (some (.int (j : Nat))) (some (.int ((j / m' : Nat) : Int))) (some (.int ((j % m' : Nat) : Int))) (some (.ref S.length)) x9 x10) (fun p => (s + p.1, j / m' * m' + p.2)) x9a x10a rfl
    (fun A => Ev.bin (.var (v := gateD other) rfl) (.var rfl) (op_ixT (ixN_nat (by rw [List.length_map]; exact hmod)) (by rw [List.getElem?_map, hr2]; rfl))) (by simp; omega) (fun _ _ => rfl) (fun _ _ _ _ => rfl)
    (fun A p => Ev.tup2 (.bin (.var rfl) (.var rfl) op_add) (.bin (.bin (.var rfl) (.var rfl) (op_mulR (small_of (by omega)))) (.var rfl) op_add))
  have hrow : ([] ++ r1.map fun p => (p.1, p.2 * m' + j % m')) ++ r2.map (fun p => (s + p.1, j / m' * m' + p.2)) = dRow m' s one other j := by
    unfold dRow bRow
    rw [List.getD_eq_getElem?_getD, List.getD_eq_getElem?_getD, hr1, hr2]
    rfl
  rw [hrow] at p4
  have eS : (S ++ .lst ((dRow m' s one other j).map pairD) :: q2 : Store) = B ++ .lst (rows.map rowD) :: (q ++ .lst ((dRow m' s one other j).map pairD) :: q2) := by rw [hS]; simp
  have T : Ev (B ++ .lst (rows.map rowD) :: (q ++ .lst ((dRow m' s one other j).map pairD) :: q2)) (uEnv one other m' s B.length (some (.int (j : Nat))) (some (.int ((j / m' : Nat) : Int))) (some (.int ((j % m' : Nat) : Int))) (some (.ref S.length)) x9b x10b) (dCall bTuple (aCons (dVar 8) aNil)) (rowD (dRow m' s one other j)) := Ev.tupleL (EvL.var (i := 8) (n := S.length) rfl (by rw [← eS]; exact at0))
  obtain ⟨q3, p5⟩ := app_ok (i := 2) rfl (lt_sl (by rw [List.length_map]; omega)) T
  rw [← eS] at p5
  refine ⟨some (.int ((j / m' : Nat) : Int)), some (.int ((j % m' : Nat) : Int)), some (.ref S.length), x9b, x10b, q3, (dSeq_nx p1).trans ((dSeq_nx p2).trans ((dSeq_nx p3).trans ((dSeq_nx p4).trans (p5.trans ?_))))⟩
  rw [List.map_append]
  rfl
theorem due_ok {A : Store} (h : Shape s m one) (h' : Shape s' m' other) : OpF A FDue [gateD one, gateD other] (gateD (besideG m' s one other)) := by
  intro B hB
  have hm0' := h'.m0
  have hm1 := h.m1
  have hm1' := h'.m1
  have hl := h.len
  have hl' := h'.len
  have hm := h.m0
  obtain ⟨r0, hr0⟩ : ∃ r, one[0]? = some r := ⟨one[0]'(by omega), List.getElem?_eq_getElem _⟩
  have hr0l := h.rows r0 (List.mem_of_getElem? hr0)
  have p1 : dPar [2, 3, 4] (aCons (dLst aNil) (aCons (dCall bLen (aCons (dVar 1) aNil)) (aCons (dCall bLen (aCons (dBin vIx (dVar 0) (dC (.int 0))) aNil)) aNil))) [some (gateD one), some (gateD other), none, none, none, none, none, none, none, none, none] B = .nx (uEnv one other m' s B.length none none none none none none) (B ++ [.lst []]) := by
    have ix : vIx (gateD one) (.int 0) (B ++ [.lst []]) = .ok (rowD r0) (B ++ [.lst []]) := e_ixT (j := 0) (ixN_nat (i := 0) (by rw [List.length_map]; omega)) (by rw [List.getElem?_map, hr0]; rfl)
    have l1 : bLen [gateD other] (B ++ [.lst []]) = .ok (.int (m' : Nat)) (B ++ [.lst []]) := by
      have e := len_tup (A := []) (xs := other.map rowD) (B ++ [.lst []]) (List.nil_prefix)
      rw [List.length_map, hl'] at e
      exact e
    have l2 : bLen [rowD r0] (B ++ [.lst []]) = .ok (.int (s : Nat)) (B ++ [.lst []]) := by
      have e := len_tup (A := []) (xs := r0.map pairD) (B ++ [.lst []]) (List.nil_prefix)
      rw [List.length_map, hr0l] at e
      exact e
    unfold dPar
    rw [e_acons, e_lst, e_anil, Dn.R.bind_ok, mkLst_nil, Dn.R.bind_ok, e_acons, call1 (x := gateD other) rfl, l1, Dn.R.bind_ok, e_acons, call1 (x := rowD r0) (by rw [e_Bin, e_V0, Dn.R.bind_ok, e_C, Dn.R.bind_ok, ix]), l2, Dn.R.bind_ok, e_anil, Dn.R.bind_ok, Dn.R.bind_ok, Dn.R.bind_ok, R.toS_ok]
    rfl
  have hmul : m * m' ≤ 1000 * 1000 := Nat.mul_le_mul hm1 hm1'
  have rg : Ev (B ++ .lst [] :: []) (uEnv one other m' s B.length none none none none none none) (dBin vMul (dCall bLen (aCons (dVar 0) aNil)) (dVar 3)) (.int ((m * m' : Nat) : Int)) := by
    have e := Ev.bin (Ev.len (A := B ++ .lst [] :: []) (E := uEnv one other m' s B.length none none none none none none) (xs := one.map rowD) (.var (i := 0) rfl)) (.var (i := 3) (v := .int (m' : Nat)) rfl) (op_mulR (small_of (by omega)))
    rw [List.length_map, hl] at e
    exact e
  obtain ⟨E', q', e, x5, x6, x7, x8, x9, x10, hI⟩ := forB (B := B) (q := []) (xs := rngD 0 ((m * m' : Nat) : Int)) (fun i => ((List.range i).map (dRow m' s one other)).map rowD) (fun E' => ∃ x5 x6 x7 x8 x9 x10, E' = uEnv one other m' s B.length x5 x6 x7 x8 x9 x10) (EvT.range rg (by omega)) ⟨_, _, _, _, _, _, rfl⟩ (g := gNm 5) (by
    rintro i x E q hx ⟨x5, x6, x7, x8, x9, x10, rfl⟩
    obtain ⟨hi, rfl⟩ := rng_get hx
    obtain ⟨x6', x7', x8', x9', x10', q', e⟩ := uBody_ok (B := B) (q := q) (rows := (List.range i).map (dRow m' s one other)) (j := i) (x6 := x6) (x7 := x7) (x8 := x8) (x9 := x9) (x10 := x10) h h' hi (by rw [List.length_map, List.length_range]; omega)
    refine ⟨_, uEnv one other m' s B.length (some (.int (i : Nat))) x6' x7' x8' x9' x10', q', fun _ => rfl, ?_, some (.int (i : Nat)), x6', x7', x8', x9', x10', rfl⟩
    rw [List.range_succ, List.map_append (l₁ := List.range i), List.map_singleton (a := i)]
    exact e)
  rw [rng_len, due_rows hl' hm0'] at e
  obtain ⟨g, e4⟩ := EvR.ret (Ev.tupleL (EvL.var (A := B ++ .lst ((bRows m' s one other m).map rowD) :: q') (E := E') (i := 2) (n := B.length) (by rw [hI]; rfl) at0)) _ (List.prefix_refl _)
  refine trimF_pure (g := .lst ((bRows m' s one other m).map rowD) :: (q' ++ g)) (dDef_rt rfl rfl ((dSeq_nx p1).trans ((dSeq_nx e).trans (e4.trans ?_)))) (gate_lt _ _)
  simp [gateD, besideG, hl]
end
end Pn
set_option Elab.async false
set_option linter.all false
set_option maxHeartbeats 1000000
set_option maxRecDepth 100000
namespace Pn
open PySem PySem.Spec L2 Dn
/-! ### alike -/
/-- numbers, texts and tuples of them, no deeper than k -/
inductive Da : Nat → D → Prop
  | int {k : Nat} (i : Int) : Da k (.int i)
  | str {k : Nat} {z : Str} (h : Ok 0 (.str z)) : Da k (.str z)
  | tup {k : Nat} {xs : List D} (h : ∀ x ∈ xs, Da k x) : Da (k + 1) (.tup xs)
theorem Da.up {k : Nat} {d : D} (h : Da k d) : Da (k + 1) d := by
  induction h with
  | int i => exact .int i
  | str h => exact .str h
  | tup h ih => exact .tup ih
theorem pyWs_of {rf : Nat → Option PyData} {k : Nat} : ∀ {xs : List D}, (∀ x ∈ xs, ∃ p, pyW rf x = some p ∧ Ok k p) → ∃ ps, pyWs rf xs = some ps ∧ ps.length = xs.length ∧ ∀ p ∈ ps, Ok k p
  | [], _ => ⟨[], rfl, rfl, fun p h => by cases h⟩
  | x :: xs, h => by
    obtain ⟨p, h1, h2⟩ := h x (List.mem_cons_self ..)
    obtain ⟨ps, h3, h4, h5⟩ := pyWs_of fun y hy => h y (List.mem_cons_of_mem _ hy)
    refine ⟨p :: ps, by simp [pyWs, h1, h3], by simp [h4], fun q hq => ?_⟩
    rcases List.mem_cons.mp hq with rfl | hq
    · exact h2
    · exact h5 q hq
theorem Da.py {rf : Nat → Option PyData} {k : Nat} {d : D} (h : Da k d) : ∃ p, pyW rf d = some p ∧ Ok k p := by
  induction h with
  | int i => exact ⟨_, rfl, (Ok.int i).mono (Nat.zero_le _)⟩
  | str h => exact ⟨_, rfl, h.mono (Nat.zero_le _)⟩
  | tup h ih =>
    obtain ⟨ps, h1, _, h3⟩ := pyWs_of ih
    exact ⟨.tuple ps, by simp [pyW, h1], .tup h3⟩
mutual
def wt : D → Nat
  | .tup xs => 1 + wts xs
  | .non => 1
  | .bl _ => 1
  | .int _ => 1
  | .str _ => 1
  | .ref _ => 1
  | .err _ _ => 1
  | .ty _ => 1
  | .cl _ => 1
  | .scr _ => 1
def wts : List D → Nat
  | [] => 0
  | x :: xs => wt x + wts xs
end
theorem wt_pos (d : D) : 0 < wt d := by cases d <;> simp [wt] <;> omega
theorem wts_app : ∀ xs ys : List D, wts (xs ++ ys) = wts xs + wts ys
  | [], ys => by simp [wts]
  | x :: xs, ys => by simp [wts, wts_app xs ys]; omega
theorem wts_len : ∀ xs : List D, xs.length ≤ wts xs
  | [] => Nat.le_refl _
  | x :: xs => by have := wt_pos x; have := wts_len xs; simp [wts]; omega
def dup (x : D) : D := .tup [x, x]
theorem zip_dup : ∀ xs : List D, zipD xs xs = xs.map dup
  | [] => rfl
  | x :: xs => by rw [zipD, zip_dup xs]; rfl
theorem ne_nilD {S : Store} {n n' k : Nat} {xs : List D} (h : S[n]? = some (.lst xs)) (h' : S[n']? = some (.lst [])) (hx : ∀ x ∈ xs, Da k x) (hk : k < 60) : vNe (.ref n) (.ref n') S = .ok (.bl (!xs.isEmpty)) S := by
  obtain ⟨ps, h1, h2, h3⟩ := pyWs_of (rf := pyN S 2) fun x hm => (hx x hm).py
  rw [vNe_of (toPy_lst h h1) (toPy_lst h' (show pyWs (pyN S 2) [] = some [] from rfl)) ((Ok.lst h3).shaped (by omega)) ((Ok.lst (k := 0) (fun p hp => by cases hp)).shaped (by omega))]
  cases xs with
  | nil => cases ps with
    | nil => rfl
    | cons => simp at h2
  | cons x xs => cases ps with
    | nil => simp at h2
    | cons p ps => rfl
theorem ne_self {k : Nat} {d : D} {p : PyData} {S : Store} (h : toPy S d = some p) (ho : Ok k p) (hk : k ≤ 64) : vNe d d S = .ok (.bl false) S := by
  rw [vNe_of h h (ho.shaped hk) (ho.shaped hk), PySem.SeqAt.eqv_refl p ho.1]
  rfl
theorem eq_self {k : Nat} {d : D} {p : PyData} {S : Store} (h : toPy S d = some p) (ho : Ok k p) (hk : k ≤ 64) : vEq d d S = .ok (.bl true) S := by
  rw [vEq_of h h (ho.shaped hk) (ho.shaped hk), PySem.SeqAt.eqv_refl p ho.1]
theorem op_neS {k : Nat} {d : D} {A : Store} (h : Da k d) (hk : k ≤ 64) : Op2 A vNe d d (.bl false) := fun S _ => by
  obtain ⟨p, h1, h2⟩ := h.py (rf := pyN S 3)
  exact ne_self h1 h2 hk
theorem op_neB {b : Bool} {A : Store} : Op2 A vNe (.bl b) (.bl b) (.bl false) := fun S _ => ne_self (p := .bool b) rfl (.bool b) (by decide)
noncomputable def FAlike : DF := trimF (dDef 2 5 den__law_alike)
def aEnv (x : D) (n : Nat) (x3 x4 : Option D) : Dn.Env := [some x, some x, some (.ref n), x3, x4]
theorem aBody_ok {B q : Store} {k : Nat} {x y : D} {l : List D} (hl : ∀ z ∈ l, Da k z) (hy : Da k y) (hk : k < 50) (hw : wts l + wt y ≤ 1000000) :
    ∃ l2 q', (dIf (dTest (dCall bIsi (aCons (dVar 4) (aCons (dTup (aCons (dC (.ty "tuple")) (aCons (dC (.ty "list")) aNil))) aNil)))) (dSeq (dIf (dTOr (dTest (dBin vNe (dCall bIsi (aCons (dVar 3) (aCons (dC (.ty "tuple")) aNil))) (dCall bIsi (aCons (dVar 4) (aCons (dC (.ty "tuple")) aNil))))) (dTest (dBin vNe (dCall bIsi (aCons (dVar 3) (aCons (dC (.ty "list")) aNil))) (dCall bIsi (aCons (dVar 4) (aCons (dC (.ty "list")) aNil)))))) (dRet (dC (.bl false))) dNext) (dSeq (dIf (dTest (dBin vNe (dCall bLen (aCons (dVar 3) aNil)) (dCall bLen (aCons (dVar 4) aNil)))) (dRet (dC (.bl false))) dNext) (dDrop (dMeth "list" mExtend (dVar 2) (aCons (dListZip (aCons (dVar 3) (aCons (dVar 4) aNil))) aNil))))) (dIf (dTOr (dTest (dCall bIsi (aCons (dVar 3) (aCons (dTup (aCons (dC (.ty "tuple")) (aCons (dC (.ty "list")) (aCons (dC (.ty "dict")) aNil)))) aNil)))) (dTOr (dTest (dBin vNe (dCall bIsi (aCons (dVar 3) (aCons (dC (.ty "bool")) aNil))) (dCall bIsi (aCons (dVar 4) (aCons (dC (.ty "bool")) aNil))))) (dTest (dBin vNe (dVar 3) (dVar 4))))) (dRet (dC (.bl false))) dNext))
      (aEnv x B.length (some y) (some y)) (B ++ .lst (l.map dup) :: q) = .nx (aEnv x B.length (some y) (some y)) (B ++ .lst (l2.map dup) :: q') ∧ wts l2 < wts l + wt y ∧ ∀ z ∈ l2, Da k z := by
  obtain ⟨S, hS⟩ : ∃ S : Store, S = B ++ .lst (l.map dup) :: q := ⟨_, rfl⟩
  rw [← hS]
  have v2 : ∀ T, dVar 2 (aEnv x B.length (some y) (some y)) T = .ok (.ref B.length) T := fun T => rfl
  have tt : ∀ A, Ev A (aEnv x B.length (some y) (some y)) (dTup (aCons (dC (.ty "tuple")) (aCons (dC (.ty "list")) aNil))) (.tup [.ty "tuple", .ty "list"]) := fun A => Ev.tup2 (.c _) (.c _)
  have ttt : ∀ A, Ev A (aEnv x B.length (some y) (some y)) (dTup (aCons (dC (.ty "tuple")) (aCons (dC (.ty "list")) (aCons (dC (.ty "dict")) aNil)))) (.tup [.ty "tuple", .ty "list", .ty "dict"]) := fun A => Ev.tup (.cons (.c _) (.cons (.c _) (.cons (.c _) .nil))) (show 3 ≤ sizeLine by decide)
  have leaf : (∀ A : Store, OpF A bIsi [y, .tup [.ty "tuple", .ty "list"]] (.bl false)) → (∀ A : Store, OpF A bIsi [y, .tup [.ty "tuple", .ty "list", .ty "dict"]] (.bl false)) → (∀ A : Store, OpF A bIsi [y, .ty "bool"] (.bl false)) → ∃ l2 q', (dIf (dTest (dCall bIsi (aCons (dVar 4) (aCons (dTup (aCons (dC (.ty "tuple")) (aCons (dC (.ty "list")) aNil))) aNil)))) (dSeq (dIf (dTOr (dTest (dBin vNe (dCall bIsi (aCons (dVar 3) (aCons (dC (.ty "tuple")) aNil))) (dCall bIsi (aCons (dVar 4) (aCons (dC (.ty "tuple")) aNil))))) (dTest (dBin vNe (dCall bIsi (aCons (dVar 3) (aCons (dC (.ty "list")) aNil))) (dCall bIsi (aCons (dVar 4) (aCons (dC (.ty "list")) aNil)))))) (dRet (dC (.bl false))) dNext) (dSeq (dIf (dTest (dBin vNe (dCall bLen (aCons (dVar 3) aNil)) (dCall bLen (aCons (dVar 4) aNil)))) (dRet (dC (.bl false))) dNext) (dDrop (dMeth "list" mExtend (dVar 2) (aCons (dListZip (aCons (dVar 3) (aCons (dVar 4) aNil))) aNil))))) (dIf (dTOr (dTest (dCall bIsi (aCons (dVar 3) (aCons (dTup (aCons (dC (.ty "tuple")) (aCons (dC (.ty "list")) (aCons (dC (.ty "dict")) aNil)))) aNil)))) (dTOr (dTest (dBin vNe (dCall bIsi (aCons (dVar 3) (aCons (dC (.ty "bool")) aNil))) (dCall bIsi (aCons (dVar 4) (aCons (dC (.ty "bool")) aNil))))) (dTest (dBin vNe (dVar 3) (dVar 4))))) (dRet (dC (.bl false))) dNext))
      (aEnv x B.length (some y) (some y)) S = .nx (aEnv x B.length (some y) (some y)) (B ++ .lst (l2.map dup) :: q') ∧ wts l2 < wts l + wt y ∧ ∀ z ∈ l2, Da k z := fun i1 i2 i3 => by
    have t := EvN.ifF (A := S) (E := aEnv x B.length (some y) (some y)) (EvB.test (Ev.call (.cons (.var (i := 4) rfl) (.cons (tt S) .nil)) (i1 S))) (a := (dSeq (dIf (dTOr (dTest (dBin vNe (dCall bIsi (aCons (dVar 3) (aCons (dC (.ty "tuple")) aNil))) (dCall bIsi (aCons (dVar 4) (aCons (dC (.ty "tuple")) aNil))))) (dTest (dBin vNe (dCall bIsi (aCons (dVar 3) (aCons (dC (.ty "list")) aNil))) (dCall bIsi (aCons (dVar 4) (aCons (dC (.ty "list")) aNil)))))) (dRet (dC (.bl false))) dNext) (dSeq (dIf (dTest (dBin vNe (dCall bLen (aCons (dVar 3) aNil)) (dCall bLen (aCons (dVar 4) aNil)))) (dRet (dC (.bl false))) dNext) (dDrop (dMeth "list" mExtend (dVar 2) (aCons (dListZip (aCons (dVar 3) (aCons (dVar 4) aNil))) aNil))))))
      (EvN.ifF (a := dRet (dC (.bl false))) (EvB.or (b := false) (b' := false) (EvB.test (Ev.call (.cons (.var (i := 3) rfl) (.cons (ttt S) .nil)) (i2 S))) fun _ => EvB.or (b := false) (b' := false) (EvB.test (Ev.bin (Ev.call (.cons (.var (i := 3) rfl) (.cons (.c _) .nil)) (i3 S)) (Ev.call (.cons (.var (i := 4) rfl) (.cons (.c _) .nil)) (i3 S)) op_neB)) fun _ => EvB.test (Ev.bin (.var (i := 3) rfl) (.var (i := 4) rfl) (op_neS hy (by omega)))) .next)
    obtain ⟨g, e⟩ := t S (List.prefix_refl _)
    refine ⟨l, q ++ g, e.trans (by rw [hS]; simp), by have := wt_pos y; omega, hl⟩
  cases hy with
  | int i => exact leaf (fun _ _ _ => rfl) (fun _ _ _ => rfl) (fun _ _ _ => rfl)
  | str h => exact leaf (fun _ _ _ => rfl) (fun _ _ _ => rfl) (fun _ _ _ => rfl)
  | @tup k xs h =>
    have hxs : xs.length ≤ 1000000 := by have := wts_len xs; simp only [wt] at hw; omega
    have hwl := wts_len l
    have i1 : ∀ A : Store, OpF A bIsi [.tup xs, .tup [.ty "tuple", .ty "list"]] (.bl true) := fun _ _ _ => rfl
    have i2 : ∀ A : Store, OpF A bIsi [.tup xs, .ty "list"] (.bl false) := fun _ _ _ => rfl
    obtain ⟨g1, e1⟩ := EvB.test (A := S) (E := aEnv x B.length (some (.tup xs)) (some (.tup xs))) (Ev.call (.cons (.var (i := 4) rfl) (.cons (tt S) .nil)) (i1 S)) S (List.prefix_refl _)
    have t1 := EvN.ifF (A := S) (E := aEnv x B.length (some (.tup xs)) (some (.tup xs))) (a := dRet (dC (.bl false))) (EvB.or (b := false) (b' := false) (EvB.test (Ev.bin (Ev.call (.cons (.var (i := 3) rfl) (.cons (.c _) .nil)) isi_tup) (Ev.call (.cons (.var (i := 4) rfl) (.cons (.c _) .nil)) isi_tup) op_neB)) fun _ => EvB.test (Ev.bin (Ev.call (.cons (.var (i := 3) rfl) (.cons (.c _) .nil)) (i2 S)) (Ev.call (.cons (.var (i := 4) rfl) (.cons (.c _) .nil)) (i2 S)) op_neB)) .next
    have t2 := EvN.ifF (A := S) (E := aEnv x B.length (some (.tup xs)) (some (.tup xs))) (a := dRet (dC (.bl false))) (EvB.test (Ev.bin (Ev.len (xs := xs) (.var (i := 3) rfl)) (Ev.len (xs := xs) (.var (i := 4) rfl)) (op_neS (Da.int (k := 0) _) (by decide)))) .next
    obtain ⟨g2, e2⟩ := t1 _ (pre_ext (List.prefix_refl _) g1)
    obtain ⟨g3, e3⟩ := t2 _ (pre_ext (pre_ext (List.prefix_refl _) g1) g2)
    obtain ⟨T, hT⟩ : ∃ T : Store, T = S ++ g1 ++ g2 ++ g3 := ⟨_, rfl⟩
    have hTB : T = B ++ .lst (l.map dup) :: (q ++ g1 ++ g2 ++ g3) := by rw [hT, hS]; simp
    rw [← hT] at e3
    have z1 : dListZip (aCons (dVar 3) (aCons (dVar 4) aNil)) (aEnv x B.length (some (.tup xs)) (some (.tup xs))) T = .ok (.ref T.length) (T ++ [.lst (xs.map dup)]) := by
      have e : aCons (dVar 3) (aCons (dVar 4) aNil) (aEnv x B.length (some (.tup xs)) (some (.tup xs))) T = .ok [.tup xs, .tup xs] T := rfl
      unfold dListZip
      rw [e, Dn.R.bind_ok]
      dsimp only
      rw [if_pos (by rfl)]
      show mkLst (zipD xs xs) T = _
      rw [zip_dup, mkLst_ok (by rw [List.length_map]; exact sl_ge _ hxs)]
    have x1 : mExtend (.ref B.length) [.ref T.length] (T ++ [.lst (xs.map dup)]) = .ok .non (B ++ .lst ((l ++ xs).map dup) :: (q ++ g1 ++ g2 ++ g3 ++ [.lst (xs.map dup)])) := by
      have a1 : (T ++ [.lst (xs.map dup)])[B.length]? = some (.lst (l.map dup)) := atA (by rw [hTB]; exact at0)
      have a2 : (T ++ [Cell.lst (xs.map dup)])[T.length]? = some (.lst (xs.map dup)) := at0
      unfold mExtend
      dsimp only
      rw [a1, a2]
      dsimp only
      rw [if_pos (by rw [List.length_map, List.length_map]; exact Nat.le_of_lt (lt_sl (by omega))), setA (by rw [hTB]; simp), hTB, st0]
      simp
    have d1 : dDrop (dMeth "list" mExtend (dVar 2) (aCons (dListZip (aCons (dVar 3) (aCons (dVar 4) aNil))) aNil)) (aEnv x B.length (some (.tup xs)) (some (.tup xs))) T = .nx (aEnv x B.length (some (.tup xs)) (some (.tup xs))) (B ++ .lst ((l ++ xs).map dup) :: (q ++ g1 ++ g2 ++ g3 ++ [.lst (xs.map dup)])) := by
      rw [e_drop, e_meth, v2, Dn.R.bind_ok, recv_at (xs := l.map dup) (by rw [hTB]; exact at0), if_pos rfl, e_acons, z1, Dn.R.bind_ok, e_anil, Dn.R.bind_ok, Dn.R.bind_ok, x1, R.toS_ok]
    refine ⟨l ++ xs, q ++ g1 ++ g2 ++ g3 ++ [.lst (xs.map dup)], ?_, ?_, ?_⟩
    · rw [e_if, e1, R.toS_ok, if_pos rfl]
      exact (dSeq_nx e2).trans ((dSeq_nx e3).trans d1)
    · rw [wts_app]
      simp only [wt]
      omega
    · intro z hz
      rcases List.mem_append.mp hz with hz | hz
      · exact hl z hz
      · have := h z hz
        exact this.up
theorem alike_ok {A : Store} {k : Nat} {x : D} (h : Da k x) (hk : k < 50) (hw : wt x ≤ 1000000) (hlt : ∀ n, D.lt n x = true) : OpF A FAlike [x, x] (.bl true) := by
  intro B hB
  have p1 : dAsg (dLst (aCons (dTup (aCons (dVar 0) (aCons (dVar 1) aNil))) aNil)) (gNm 2) [some x, some x, none, none, none] B = .nx [some x, some x, some (.ref B.length), none, none] (B ++ [.lst [dup x]]) := by
    have t0 : dTup (aCons (dVar 0) (aCons (dVar 1) aNil)) [some x, some x, none, none, none] B = .ok (dup x) B := by
      rw [e_tup, e_acons, e_V0, Dn.R.bind_ok, e_acons, e_VS, e_V0, Dn.R.bind_ok, e_anil, Dn.R.bind_ok, Dn.R.bind_ok, Dn.R.bind_ok, mkTup2]
      rfl
    rw [e_asg, e_lst, e_acons, t0, Dn.R.bind_ok, e_anil, Dn.R.bind_ok, Dn.R.bind_ok, mkLst_ok (xs := [_]) (show 1 ≤ sizeLine by decide), R.toS_ok]
    rfl
  obtain ⟨env', st', e, q, c, rfl⟩ := whileL_run (Post := fun _ st => ∃ q c, st = B ++ c :: q) (fun j env st => ∃ ps x3 x4 q, j = wts ps ∧ env = aEnv x B.length x3 x4 ∧ st = B ++ .lst (ps.map dup) :: q ∧ (∀ z ∈ ps, Da k z) ∧ wts ps ≤ 1000000)
    (n := dTest (dBin vNe (dVar 2) (dLst aNil))) (m := (dSeq (dAsg (dMeth "list" mPop (dVar 2) aNil) (gTp 2 (gsCons (gNm 3) (gsCons (gNm 4) gsNil)))) (dIf (dTest (dCall bIsi (aCons (dVar 4) (aCons (dTup (aCons (dC (.ty "tuple")) (aCons (dC (.ty "list")) aNil))) aNil)))) (dSeq (dIf (dTOr (dTest (dBin vNe (dCall bIsi (aCons (dVar 3) (aCons (dC (.ty "tuple")) aNil))) (dCall bIsi (aCons (dVar 4) (aCons (dC (.ty "tuple")) aNil))))) (dTest (dBin vNe (dCall bIsi (aCons (dVar 3) (aCons (dC (.ty "list")) aNil))) (dCall bIsi (aCons (dVar 4) (aCons (dC (.ty "list")) aNil)))))) (dRet (dC (.bl false))) dNext) (dSeq (dIf (dTest (dBin vNe (dCall bLen (aCons (dVar 3) aNil)) (dCall bLen (aCons (dVar 4) aNil)))) (dRet (dC (.bl false))) dNext) (dDrop (dMeth "list" mExtend (dVar 2) (aCons (dListZip (aCons (dVar 3) (aCons (dVar 4) aNil))) aNil))))) (dIf (dTOr (dTest (dCall bIsi (aCons (dVar 3) (aCons (dTup (aCons (dC (.ty "tuple")) (aCons (dC (.ty "list")) (aCons (dC (.ty "dict")) aNil)))) aNil)))) (dTOr (dTest (dBin vNe (dCall bIsi (aCons (dVar 3) (aCons (dC (.ty "bool")) aNil))) (dCall bIsi (aCons (dVar 4) (aCons (dC (.ty "bool")) aNil))))) (dTest (dBin vNe (dVar 3) (dVar 4))))) (dRet (dC (.bl false))) dNext)))) (by
    rintro j env st ⟨ps, x3, x4, q, rfl, rfl, rfl, hps, hw⟩
    refine ⟨!(ps.map dup).isEmpty, B ++ .lst (ps.map dup) :: q ++ [.lst []], ?_, fun _ => ⟨q ++ [.lst []], .lst (ps.map dup), by simp⟩, fun hb => ?_⟩
    · have hd : ∀ z ∈ ps.map dup, Da (k + 1) z := fun z hz => by
        obtain ⟨y, hy, rfl⟩ := List.mem_map.mp hz
        exact .tup fun w hw => by
          have : w = y := by simpa using hw
          rw [this]; exact hps y hy
      have v2 : dVar 2 (aEnv x B.length x3 x4) (B ++ .lst (ps.map dup) :: q) = .ok (.ref B.length) (B ++ .lst (ps.map dup) :: q) := rfl
      rw [e_Test, e_Bin, v2, Dn.R.bind_ok, e_lst, e_anil, Dn.R.bind_ok, mkLst_nil, Dn.R.bind_ok, ne_nilD (k := k + 1) (atA at0) at0 hd (by omega), Dn.R.bind_ok]
    · have e0 : (B ++ .lst (ps.map dup) :: q ++ [.lst []] : Store) = B ++ .lst (ps.map dup) :: (q ++ [.lst []]) := by simp
      rw [e0]
      generalize q ++ [Cell.lst []] = q
      rcases List.eq_nil_or_concat ps with rfl | ⟨l, y, rfl⟩
      · cases hb
      · have hp : mPop (.ref B.length) [] (B ++ .lst ((l ++ [y]).map dup) :: q) = .ok (dup y) (B ++ .lst (l.map dup) :: q) := by
          unfold mPop
          dsimp only
          rw [at0]
          dsimp only
          rw [st0]
          simp
        have s1 : dAsg (dMeth "list" mPop (dVar 2) aNil) (gTp 2 (gsCons (gNm 3) (gsCons (gNm 4) gsNil))) (aEnv x B.length x3 x4) (B ++ .lst ((l ++ [y]).map dup) :: q) = .nx (aEnv x B.length (some y) (some y)) (B ++ .lst (l.map dup) :: q) := by
          have v2 : dVar 2 (aEnv x B.length x3 x4) (B ++ .lst ((l ++ [y]).map dup) :: q) = .ok (.ref B.length) (B ++ .lst ((l ++ [y]).map dup) :: q) := rfl
          rw [e_asg, e_meth, v2, Dn.R.bind_ok, recv_at at0, if_pos rfl, e_anil, Dn.R.bind_ok, hp, R.toS_ok]
          rfl
        have hw' : wts l + wt y ≤ 1000000 := by
          rw [List.concat_eq_append, wts_app] at hw
          simpa [wts] using hw
        obtain ⟨l2, q', e, h1, h2⟩ := aBody_ok (B := B) (q := q) (x := x) (l := l) (y := y) (fun z hz => hps z (by simp [hz])) (hps y (by simp)) hk hw'
        refine ⟨_, _, (dSeq_nx (by rw [List.concat_eq_append]; exact s1)).trans e, wts l2, ?_, l2, some y, some y, q', rfl, rfl, rfl, h2, by omega⟩
        rw [List.concat_eq_append, wts_app]
        simp only [wts]
        omega)
    FU (wt x) (aEnv x B.length none none) (B ++ [.lst [dup x]]) ⟨[x], none, none, [], by simp [wts], rfl, rfl, fun z hz => by
      have : z = x := by simpa using hz
      rw [this]; exact h, by simp [wts]; omega⟩ (by have : FU = 1000000000 := rfl
                                                    omega)
  refine trimF_pure (g := c :: q) (dDef_rt rfl rfl ((dSeq_nx p1).trans ((dSeq_nx (env1 := env') (st1 := B ++ c :: q) ?_).trans rfl))) rfl
  rw [e_while]
  exact e
end Pn
set_option Elab.async false
set_option linter.all false
set_option maxHeartbeats 1000000
set_option maxRecDepth 100000
namespace Pn
open PySem PySem.Spec L2 Dn
/-! ### dicts whose keys are pairs -/
def pk (p : Nat × Nat) : List Key := [.inl (p.1 : Nat), .inl (p.2 : Nat)]
theorem pk_inj {p q : Nat × Nat} (h : pk p = pk q) : p = q := by
  simp only [pk, List.cons.injEq, Sum.inl.injEq, Int.natCast_inj, and_true] at h
  exact Prod.ext h.1 h.2
def keyed (f : Nat × Nat → D) (ps : List (Nat × Nat)) : List (List Key × D) := ps.map fun p => (pk p, f p)
theorem keyed_len (f : Nat × Nat → D) (ps : List (Nat × Nat)) : (keyed f ps).length = ps.length := by simp [keyed]
theorem keyed_app (f : Nat × Nat → D) (ps qs : List (Nat × Nat)) : keyed f (ps ++ qs) = keyed f ps ++ keyed f qs := by simp [keyed]
theorem valD_none {f : Nat × Nat → D} {ps : List (Nat × Nat)} {p : Nat × Nat} (h : p ∉ ps) : valD (keyed f ps) (pk p) = none := by
  unfold valD keyed
  rw [List.find?_eq_none.mpr]
  · rfl
  · intro x hx
    obtain ⟨q, hq, rfl⟩ := List.mem_map.mp hx
    simp only [decide_eq_true_eq]
    intro e
    exact h (pk_inj e ▸ hq)
theorem valD_mem {f : Nat × Nat → D} {p : Nat × Nat} : ∀ {ps : List (Nat × Nat)}, p ∈ ps → valD (keyed f ps) (pk p) = some (f p)
  | q :: ps, h => by
    unfold valD keyed
    rw [List.map_cons, List.find?_cons]
    by_cases e : pk q = pk p
    · rw [decide_eq_true e, pk_inj e]
      rfl
    · rw [decide_eq_false e]
      have hp : p ∈ ps := by
        rcases List.mem_cons.mp h with e' | h
        · exact absurd (by rw [e']) e
        · exact h
      exact valD_mem hp
theorem putD_new {f : Nat × Nat → D} {ps : List (Nat × Nat)} {p : Nat × Nat} (h : p ∉ ps) : putD (keyed f ps) (pk p) (f p) = keyed f (ps ++ [p]) := by
  unfold putD
  rw [if_neg, keyed_app]
  · rfl
  · rw [Bool.not_eq_true, List.any_eq_false]
    intro x hx
    obtain ⟨q, hq, rfl⟩ := List.mem_map.mp hx
    simp only [decide_eq_true_eq]
    intro e
    exact h (pk_inj e ▸ hq)
theorem merge_new {f : Nat × Nat → D} : ∀ {qs ps : List (Nat × Nat)}, (ps ++ qs).Nodup → mergeT (keyed f ps) (keyed f qs) putD = keyed f (ps ++ qs)
  | [], ps, _ => by simp [mergeT, keyed]
  | q :: qs, ps, h => by
    have h2 : (ps ++ [q] ++ qs).Nodup := by simpa using h
    have hq : q ∉ ps := by
      intro hm
      rw [List.nodup_append] at h
      exact h.2.2 q hm q (List.mem_cons_self ..) rfl
    have ih := merge_new (f := f) h2
    unfold mergeT at ih ⊢
    have e : keyed f (q :: qs) = (pk q, f q) :: keyed f qs := rfl
    rw [e, List.foldl_cons]
    simp only []
    rw [putD_new hq, ih]
    simp
section
variable {A S B : Store} {E E' : Dn.Env} {m ma mb : DE} {xs ys vs : List D} {x y v : D}
theorem lcN_map {α : Type} {g : DG} {te : DE} {env : Dn.Env} {h : α → D} {f : α → D} : ∀ {l : List α} {acc : List D} {q : Store}, acc.length + l.length ≤ sizeLine → (∀ x ∈ l, ∃ E', (∀ T, g (h x) env T = .ok E' T) ∧ Ev S E' te (f x)) → ∃ q', lcN S.length (fun _ => true) g dYes te env (l.map h) (S ++ .lst acc :: q) = .ok () (S ++ .lst (acc ++ l.map f) :: q')
  | [], acc, q, _, _ => ⟨q, by simp [lcN]⟩
  | x :: l, acc, q, hl, hs => by
    obtain ⟨E', h1, h2⟩ := hs x (List.mem_cons_self ..)
    obtain ⟨g2, e2⟩ := h2 (S ++ .lst acc :: q) (List.prefix_append ..)
    obtain ⟨q', e3⟩ := lcN_map (g := g) (te := te) (env := env) (h := h) (f := f) (l := l) (acc := acc ++ [f x]) (q := q ++ g2) (by simp at hl ⊢; omega) fun y hy => hs y (List.mem_cons_of_mem _ hy)
    refine ⟨q', ?_⟩
    have e4 : push1 S.length (f x) (S ++ .lst acc :: q ++ g2) = .ok () (S ++ .lst (acc ++ [f x]) :: (q ++ g2)) := by
      unfold push1
      rw [atA at0]
      dsimp only
      rw [if_pos (by simp at hl; omega), setA (by simp), st0]
      simp
    rw [List.map_cons]
    unfold lcN
    rw [if_pos rfl, h1, R.must_ok]
    show (R.ok true _).must _ = _
    rw [R.must_ok, if_pos rfl, e2, R.must_ok, e4, R.must_ok, e3]
    simp
theorem lc2_map {α β : Type} {g g1 : DG} {te : DE} {it1 : DI} {ws1 : List Nat} {env : Dn.Env} {h : β → D} {h1 : α → D} {f : α → D} {r : β → List α} : ∀ {l : List β} {acc : List D} {q : Store}, acc.length + (l.flatMap r).length ≤ sizeLine →
    (∀ x ∈ l, ∃ E1, (∀ T, g (h x) env T = .ok E1 T) ∧ (∀ T, it1 E1 T = .ok ((r x).map h1, fun _ => true) T) ∧ ∀ y ∈ r x, ∃ E2, (∀ T, g1 (h1 y) (dWipe E1 ws1) T = .ok E2 T) ∧ Ev S E2 te (f y)) →
    ∃ q', lc2N S.length (fun _ => true) g dYes it1 g1 dYes te ws1 env (l.map h) (S ++ .lst acc :: q) = .ok () (S ++ .lst (acc ++ (l.flatMap r).map f) :: q')
  | [], acc, q, _, _ => ⟨q, by simp [lc2N]⟩
  | x :: l, acc, q, hl, hs => by
    obtain ⟨E1, k1, k2, k3⟩ := hs x (List.mem_cons_self ..)
    rw [List.flatMap_cons, List.length_append] at hl
    obtain ⟨q2, e2⟩ := lcN_map (S := S) (g := g1) (te := te) (env := dWipe E1 ws1) (h := h1) (f := f) (l := r x) (acc := acc) (q := q) (by omega) k3
    obtain ⟨q', e3⟩ := lc2_map (g := g) (g1 := g1) (te := te) (it1 := it1) (ws1 := ws1) (env := env) (h := h) (h1 := h1) (f := f) (r := r) (l := l) (acc := acc ++ (r x).map f) (q := q2) (by rw [List.length_append, List.length_map]; omega) fun y hy => hs y (List.mem_cons_of_mem _ hy)
    refine ⟨q', ?_⟩
    rw [List.map_cons]
    unfold lc2N
    rw [if_pos rfl, k1, R.must_ok]
    show (R.ok true _).must _ = _
    rw [R.must_ok, if_pos rfl, k2, R.must_ok]
    dsimp only
    rw [e2, R.must_ok, e3, List.flatMap_cons, List.map_append, List.append_assoc]
/-! ### look_gate -/
noncomputable def FLook : DF := trimF (dDef 1 7 (den_look_gate FForm))
def kEnv (g : Gate) (n : Nat) (x2 x3 x4 x5 x6 : Option D) : Dn.Env := [some (gateD g), some (.ref n), x2, x3, x4, x5, x6]
def lBody : DS := (dSeq (dIf (dTNot (dTest (dChain vLe vLt (dC (.int 0)) (dVar 3) (dCall bLen (aCons (dBin vIx (dVar 0) (dC (.int 0))) aNil))))) dBad dNext) (dSeq (dIf (dTNot (dTest (dChain vLe vLt (dC (.int 0)) (dVar 4) (dCall bLen (aCons (dVar 0) aNil))))) dBad dNext) (dSeq (dIf (dTest (dBin (vIn false) (dTup (aCons (dVar 3) (aCons (dVar 4) aNil))) (dVar 1))) dBad dNext) (dAsg (dC (.bl true)) (gSb (dVar 1) (dTup (aCons (dVar 3) (aCons (dVar 4) aNil))))))))
theorem lBody_ok {s m : Nat} {g : Gate} {ps : List (Nat × Nat)} {p : Nat × Nat} {x2 x5 x6 : Option D} {q : Store} (h : Shape s m g) (h1 : p.1 < s) (h2 : p.2 < m) (hp : p ∉ ps) (hl : ps.length < 10000000) :
    ∃ g', lBody (kEnv g B.length x2 (some (.int (p.1 : Nat))) (some (.int (p.2 : Nat))) x5 x6) (B ++ .dT (keyed (fun _ => .bl true) ps) :: q) = .nx (kEnv g B.length x2 (some (.int (p.1 : Nat))) (some (.int (p.2 : Nat))) x5 x6) (B ++ .dT (keyed (fun _ => .bl true) (ps ++ [p])) :: (q ++ g')) := by
  have hm := h.m0
  have hlg := h.len
  obtain ⟨r0, hr0⟩ : ∃ r, g[0]? = some r := ⟨g[0]'(by omega), List.getElem?_eq_getElem _⟩
  have hr0l := h.rows r0 (List.mem_of_getElem? hr0)
  obtain ⟨S, hS⟩ : ∃ S : Store, S = B ++ .dT (keyed (fun _ => .bl true) ps) :: q := ⟨_, rfl⟩
  have hSn : S[B.length]? = some (.dT (keyed (fun _ => .bl true) ps)) := by rw [hS]; exact at0
  obtain ⟨E, hE⟩ : ∃ E, E = kEnv g B.length x2 (some (.int (p.1 : Nat))) (some (.int (p.2 : Nat))) x5 x6 := ⟨_, rfl⟩
  rw [← hE]
  have w0 : E[0]? = some (some (gateD g)) := by rw [hE]; rfl
  have w1 : E[1]? = some (some (.ref B.length)) := by rw [hE]; rfl
  have w3 : E[3]? = some (some (.int (p.1 : Nat))) := by rw [hE]; rfl
  have w4 : E[4]? = some (some (.int (p.2 : Nat))) := by rw [hE]; rfl
  have l1 : Ev S E (dCall bLen (aCons (dBin vIx (dVar 0) (dC (.int 0))) aNil)) (.int (s : Nat)) := by
    have e := Ev.len (A := S) (E := E) (xs := r0.map pairD) (Ev.bin (.var w0) (.c (.int 0)) (op_ixT (j := 0) (ixN_nat (i := 0) (by rw [List.length_map]; omega)) (by rw [List.getElem?_map, hr0]; rfl)))
    rw [List.length_map, hr0l] at e
    exact e
  have l2 : Ev S E (dCall bLen (aCons (dVar 0) aNil)) (.int (m : Nat)) := by
    have e := Ev.len (A := S) (E := E) (xs := g.map rowD) (.var w0)
    rw [List.length_map, hlg] at e
    exact e
  have c1 : ∀ {a : Nat}, Op2 S vLe (.int 0) (.int (a : Nat)) (.bl true) := fun {a} T _ => by
    show R.ok (D.bl (decide ((0 : Int) ≤ (a : Int)))) T = _
    rw [decide_eq_true (by omega)]
  have c2 : ∀ {a b : Nat}, a < b → Op2 S vLt (.int (a : Nat)) (.int (b : Nat)) (.bl true) := fun {a b} hab T _ => by
    show R.ok (D.bl (decide ((a : Int) < (b : Int)))) T = _
    rw [decide_eq_true (by omega)]
  have inn : Op2 S (vIn false) (.tup [.int (p.1 : Nat), .int (p.2 : Nat)]) (.ref B.length) (.bl false) := fun T hT => by
    have e : look (.dT (keyed (fun _ => .bl true) ps)) (.tup [.int (p.1 : Nat), .int (p.2 : Nat)]) = some none := by
      show (some (pk p)).map (valD (keyed (fun _ => D.bl true) ps)) = _
      rw [Option.map_some, valD_none hp]
    unfold vIn
    dsimp only
    rw [pre_at hT hSn]
    dsimp only
    rw [e]
    rfl
  have i1 : EvN S E (dIf (dTNot (dTest (dChain vLe vLt (dC (.int 0)) (dVar 3) (dCall bLen (aCons (dBin vIx (dVar 0) (dC (.int 0))) aNil))))) dBad dNext) E := EvN.ifF (EvB.not (b := true) (EvB.test (Ev.chain (.c _) (.var w3) c1 l1 (c2 h1)))) .next
  have i2 : EvN S E (dIf (dTNot (dTest (dChain vLe vLt (dC (.int 0)) (dVar 4) (dCall bLen (aCons (dVar 0) aNil))))) dBad dNext) E := EvN.ifF (EvB.not (b := true) (EvB.test (Ev.chain (.c _) (.var w4) c1 l2 (c2 h2)))) .next
  have i3 : EvN S E (dIf (dTest (dBin (vIn false) (dTup (aCons (dVar 3) (aCons (dVar 4) aNil))) (dVar 1))) dBad dNext) E := EvN.ifF (EvB.test (Ev.bin (Ev.tup2 (.var w3) (.var w4)) (.var w1) inn)) .next
  obtain ⟨g1, e1⟩ := i1 S (List.prefix_refl _)
  obtain ⟨g2, e2⟩ := i2 _ (pre_ext (List.prefix_refl _) g1)
  obtain ⟨g3, e3⟩ := i3 _ (pre_ext (pre_ext (List.prefix_refl _) g1) g2)
  have eT : S ++ g1 ++ g2 ++ g3 = B ++ .dT (keyed (fun _ => .bl true) ps) :: (q ++ (g1 ++ g2 ++ g3)) := by rw [hS]; simp
  rw [eT] at e3
  generalize g1 ++ g2 ++ g3 = g4 at e3
  refine ⟨g4, ?_⟩
  rw [← hS]
  unfold lBody
  refine (dSeq_nx e1).trans ((dSeq_nx e2).trans ((dSeq_nx e3).trans ?_))
  have v1 : ∀ T, dVar 1 E T = .ok (.ref B.length) T := fun T => by unfold dVar; rw [w1]
  have t : ∀ T, dTup (aCons (dVar 3) (aCons (dVar 4) aNil)) E T = .ok (.tup [.int (p.1 : Nat), .int (p.2 : Nat)]) T := fun T => by rw [hE]; rfl
  have st : vSet (.ref B.length) (.tup [.int (p.1 : Nat), .int (p.2 : Nat)]) (.bl true) (B ++ .dT (keyed (fun _ => .bl true) ps) :: (q ++ g4)) = .ok () (B ++ .dT (keyed (fun _ => .bl true) (ps ++ [p])) :: (q ++ g4)) := by
    have e : putC (.dT (keyed (fun _ => .bl true) ps)) (.tup [.int (p.1 : Nat), .int (p.2 : Nat)]) (.bl true) = some (.dT (keyed (fun _ => .bl true) (ps ++ [p]))) := by
      unfold putC
      dsimp only
      rw [if_pos (by rw [keyed_len]; exact lt_sl hl)]
      show (some (pk p)).map _ = _
      rw [Option.map_some]
      have e := putD_new (f := fun _ => .bl true) hp
      rw [← e]
    unfold vSet
    dsimp only
    rw [at0]
    dsimp only
    rw [e]
    dsimp only
    rw [st0]
  rw [e_asg, e_C, R.toS_ok, e_gsb, v1, Dn.R.bind_ok, t, Dn.R.bind_ok, st, Dn.R.bind_ok]
theorem look_ok {A : Store} {s m : Nat} {g : Gate} (h : Shape s m g) (hg : IsGate s m g) : OpF A FLook [gateD g] (.bl true) := by
  intro B hB
  have hm := h.m0
  have hs1 := h.s1
  have hm1 := h.m1
  have hmul : m * s ≤ 1000 * 1000 := Nat.mul_le_mul hm1 hs1
  obtain ⟨ps, hps⟩ : ∃ ps, ps = g.flatten := ⟨_, rfl⟩
  have hperm : ps.Perm (allP s m) := hps ▸ hg.perm
  have hnd : ps.Nodup := hperm.nodup_iff.mpr (nodup_allP s m)
  have hpl : ps.length ≤ 1000000 := by
    rw [hperm.length_eq, allP_len]
    rw [Nat.mul_comm] at hmul
    omega
  have hpl2 := sl_ge _ hpl
  obtain ⟨g1, f1⟩ := EvN.ifF (A := B) (E := [some (gateD g), none, none, none, none, none, none]) (a := dBad) (EvB.not (b := true) (EvB.test (Ev.call (.cons (.var (i := 0) rfl) .nil) (form_ok h)))) .next B (List.prefix_refl _)
  obtain ⟨C, hC⟩ : ∃ C : Store, C = B ++ g1 := ⟨_, rfl⟩
  rw [← hC] at f1
  have p2 : dAsg dNewT (gNm 1) [some (gateD g), none, none, none, none, none, none] C = .nx (kEnv g C.length none none none none none) (C ++ [.dT []]) := rfl
  obtain ⟨q, e⟩ := lc2_map (S := C ++ [.dT []]) (g := gNm 5) (g1 := gNm 6) (te := dVar 6) (it1 := iVal (dVar 5)) (ws1 := [6]) (env := kEnv g C.length none none none none none) (h := rowD) (h1 := pairD) (f := pairD) (r := id) (l := g) (acc := []) (q := []) (by simpa [hps] using hpl2) fun r _ => ⟨_, fun _ => rfl, fun _ => rfl, fun p _ => ⟨_, fun _ => rfl, .var rfl⟩⟩
  rw [List.flatMap_id, ← hps, List.nil_append] at e
  have it : iEnumD (aCons (dLc2 (iVal (dVar 0)) (gNm 5) dYes (iVal (dVar 5)) (gNm 6) dYes (dVar 6) [5, 6] [6]) aNil) (kEnv g C.length none none none none none) (C ++ [.dT []]) = .ok (enumD 0 (ps.map pairD), fun st' => isLst st' (C.length + 1) (ps.map pairD)) (C ++ .dT [] :: .lst (ps.map pairD) :: q) := by
    have e1 : dLc2 (iVal (dVar 0)) (gNm 5) dYes (iVal (dVar 5)) (gNm 6) dYes (dVar 6) [5, 6] [6] (kEnv g C.length none none none none none) (C ++ [.dT []]) = .ok (.ref (C ++ [Cell.dT []]).length) (C ++ .dT [] :: .lst (ps.map pairD) :: q) := by
      have i0 : iVal (dVar 0) (kEnv g C.length none none none none none) (C ++ [.dT []]) = .ok (g.map rowD, fun _ => true) (C ++ [.dT []]) := rfl
      unfold dLc2
      rw [i0, Dn.R.bind_ok]
      dsimp only
      have e' : lc2N (C ++ [Cell.dT []]).length (fun _ => true) (gNm 5) dYes (iVal (dVar 5)) (gNm 6) dYes (dVar 6) [6] (dWipe (kEnv g C.length none none none none none) [5, 6]) (g.map rowD) (C ++ [Cell.dT []] ++ [.lst []]) = .ok () (C ++ [Cell.dT []] ++ .lst (ps.map pairD) :: q) := e
      rw [e', Dn.R.bind_ok]
      simp
    have hlen : (C ++ [Cell.dT []]).length = C.length + 1 := by simp
    rw [hlen] at e1
    have e2 : aCons (dLc2 (iVal (dVar 0)) (gNm 5) dYes (iVal (dVar 5)) (gNm 6) dYes (dVar 6) [5, 6] [6]) aNil (kEnv g C.length none none none none none) (C ++ [.dT []]) = .ok [.ref (C.length + 1)] (C ++ .dT [] :: .lst (ps.map pairD) :: q) := by
      rw [e_acons, e1, Dn.R.bind_ok, e_anil, Dn.R.bind_ok]
    unfold iEnumD
    rw [e2, Dn.R.bind_ok]
    dsimp only
    unfold seq2Of
    dsimp only
    rw [at1]
    rfl
  obtain ⟨env', st', e3, x2, x3, x4, x5, x6, q', rfl, e4⟩ := forL_run (chk := fun st' => isLst st' (C.length + 1) (ps.map pairD)) (g := gTp 2 (gsCons (gNm 2) (gsCons (gTp 2 (gsCons (gNm 3) (gsCons (gNm 4) gsNil))) gsNil))) (m := lBody)
    (fun i env st => ∃ x2 x3 x4 x5 x6 q, env = kEnv g C.length x2 x3 x4 x5 x6 ∧ st = C ++ .dT (keyed (fun _ => .bl true) (ps.take i)) :: .lst (ps.map pairD) :: q)
    (fun i env st ⟨_, _, _, _, _, q, _, h⟩ => by rw [h]; unfold isLst; rw [at1]; simp)
    (xs := enumD 0 (ps.map pairD)) (i0 := 0) (env := kEnv g C.length none none none none none) (st := C ++ .dT [] :: .lst (ps.map pairD) :: q) ⟨none, none, none, none, none, q, rfl, rfl⟩ (by
      rintro i x env st hx ⟨x2, x3, x4, x5, x6, q, rfl, rfl⟩
      rw [Nat.zero_add]
      obtain ⟨y, hy, rfl⟩ := enum_get hx
      obtain ⟨p, hp, rfl⟩ := map_get hy
      have hpm : p ∈ allP s m := hperm.mem_iff.mp (List.mem_of_getElem? hp)
      obtain ⟨a1, a2⟩ := mem_allP.mp hpm
      have hi : i < ps.length := (List.getElem?_eq_some_iff.mp hp).1
      have hnp : p ∉ ps.take i := by
        intro hmem
        have hd : p ∈ ps.drop i := List.mem_of_getElem? (i := 0) (by rw [List.getElem?_drop]; exact hp)
        have h1 : (ps.take i ++ ps.drop i).Nodup := by rw [List.take_append_drop]; exact hnd
        rw [List.nodup_append] at h1
        exact h1.2.2 p hmem p hd rfl
      obtain ⟨g', e⟩ := lBody_ok (B := C) (ps := ps.take i) (p := p) (x2 := some (.int (i : Nat))) (x5 := x5) (x6 := x6) (q := .lst (ps.map pairD) :: q) h a1 a2 hnp (by rw [List.length_take]; omega)
      refine ⟨_, _, _, _, rfl, e, some (.int (i : Nat)), _, _, x5, x6, q ++ g', rfl, ?_⟩
      rw [List.take_add_one, hp]
      rfl)
  have p3 : dFor (iEnumD (aCons (dLc2 (iVal (dVar 0)) (gNm 5) dYes (iVal (dVar 5)) (gNm 6) dYes (dVar 6) [5, 6] [6]) aNil)) (gTp 2 (gsCons (gNm 2) (gsCons (gTp 2 (gsCons (gNm 3) (gsCons (gNm 4) gsNil))) gsNil))) lBody (kEnv g C.length none none none none none) (C ++ [.dT []]) = .nx (kEnv g C.length x2 x3 x4 x5 x6) st' := by
    rw [e_for, it, R.toS_ok]
    exact e3
  refine trimF_pure (g := g1 ++ .dT (keyed (fun _ => .bl true) (ps.take (0 + (enumD 0 (ps.map pairD)).length))) :: .lst (ps.map pairD) :: q') (dDef_rt rfl rfl ((dSeq_nx f1).trans ((dSeq_nx p2).trans ((dSeq_nx p3).trans ?_)))) rfl
  rw [e4, hC]
  simp [e_ret, e_C]
end
end Pn
set_option Elab.async false
set_option linter.all false
set_option maxHeartbeats 1000000
set_option maxRecDepth 100000
namespace Pn
open PySem PySem.Spec L2 Dn
section
variable {A S B : Store} {E E' : Dn.Env} {m ma mb : DE} {xs ys vs : List D} {x y v : D}
theorem forC {it : DI} {g : DG} {body : DS} {q : Store} (C : Nat → Cell) (Inv : Dn.Env → Prop) (hi : EvT (B ++ C 0 :: q) E it xs) (h0 : Inv E)
    (step : ∀ i x E q, xs[i]? = some x → Inv E → ∃ E1 E2 q', (∀ S, g x E S = .ok E1 S) ∧ body E1 (B ++ C i :: q) = .nx E2 (B ++ C (i + 1) :: q') ∧ Inv E2) :
    ∃ E' q', dFor it g body E (B ++ C 0 :: q) = .nx E' (B ++ C xs.length :: q') ∧ Inv E' := by
  obtain ⟨g1, e1⟩ := hi _ (List.prefix_refl _)
  obtain ⟨env', st', e2, h1, q', h2⟩ := forL_run (chk := fun _ => true) (g := g) (m := body) (fun i env st => Inv env ∧ ∃ q, st = B ++ C i :: q) (fun _ _ _ _ => rfl) (xs := xs) (i0 := 0) (env := E) (st := B ++ C 0 :: (q ++ g1)) ⟨h0, _, rfl⟩ (by
    rintro i x env st hx ⟨h1, q, rfl⟩
    rw [Nat.zero_add] at *
    obtain ⟨E1, E2, q', a, b, c⟩ := step i x env q hx h1
    exact ⟨_, _, _, _, a _, b, c, q', rfl⟩)
  rw [Nat.zero_add] at h2
  refine ⟨env', q', ?_, h1⟩
  rw [e_for, e1, Dn.R.toS_ok]
  have e : (B ++ C 0 :: q ++ g1 : Store) = B ++ C 0 :: (q ++ g1) := by simp
  rw [e, e2, h2]
theorem rng_eq (k : Nat) : rngD 0 (k : Nat) = (List.range k).map fun i => D.int (i : Nat) := by
  have e := rng_map id k
  rw [List.map_id] at e
  exact e
theorem enum_zip : ∀ (k : Nat) (row : List (Nat × Nat)), enumD k (row.map pairD) = (row.zipIdx k).map fun z => .tup [.int (z.2 : Nat), pairD z.1]
  | _, [] => rfl
  | k, p :: row => by
    rw [List.map_cons, List.zipIdx_cons, List.map_cons, ← enum_zip (k + 1) row]
    rfl
theorem op_ixDT {n : Nat} {kvs : List (List Key × D)} {ks : List D} {kk : List Key} (h : A[n]? = some (.dT kvs)) (hk : keysOf ks = some kk) (hv : valD kvs kk = some x) : Op2 A vIx (.ref n) (.tup ks) x := fun S hS => by
  have e : look (.dT kvs) (.tup ks) = some (some x) := by
    show (keysOf ks).map (valD kvs) = _
    rw [hk, Option.map_some, hv]
  unfold vIx
  dsimp only
  rw [pre_at hS h]
  dsimp only
  rw [e]
theorem dcL_map {α : Type} {g : DG} {tk tv : DE} {env : Dn.Env} {h : α → D} {kf : α → Nat × Nat} {f : Nat × Nat → D} : ∀ {l : List α} {ps : List (Nat × Nat)} {q : Store}, (ps ++ l.map kf).Nodup → ps.length + l.length ≤ sizeLine →
    (∀ a ∈ l, ∃ E', (∀ T, g (h a) env T = .ok E' T) ∧ Ev S E' tk (pairD (kf a)) ∧ Ev S E' tv (f (kf a))) →
    ∃ q', dcL (fun _ => true) g dYes tk tv env (l.map h) (keyed f ps) (S ++ q) = .ok (keyed f (ps ++ l.map kf)) (S ++ q')
  | [], ps, q, _, _, _ => ⟨q, by simp [dcL]⟩
  | a :: l, ps, q, hn, hl, hs => by
    obtain ⟨E', h1, h2, h3⟩ := hs a (List.mem_cons_self ..)
    obtain ⟨g2, e2⟩ := h2 (S ++ q) (List.prefix_append ..)
    obtain ⟨g3, e3⟩ := h3 (S ++ q ++ g2) (pre_ext (List.prefix_append ..) g2)
    have hn2 : (ps ++ [kf a] ++ l.map kf).Nodup := by simpa using hn
    have hq : kf a ∉ ps := by
      intro hm
      rw [List.nodup_append] at hn
      exact hn.2.2 _ hm _ (by simp) rfl
    obtain ⟨q', e4⟩ := dcL_map (g := g) (tk := tk) (tv := tv) (env := env) (h := h) (kf := kf) (f := f) (l := l) (ps := ps ++ [kf a]) (q := q ++ g2 ++ g3) hn2 (by simp at hl ⊢; omega) fun b hb => hs b (List.mem_cons_of_mem _ hb)
    refine ⟨q', ?_⟩
    rw [List.map_cons]
    unfold dcL
    rw [if_pos rfl, h1]
    show (match tk E' (S ++ q) with
        | .ok (.tup ks) st3 => (match keysOf ks with
          | some kk => (match tv E' st3 with
            | .ok y st4 => if (keyed f ps).length < sizeLine then dcL (fun _ => true) g dYes tk tv env (l.map h) (putD (keyed f ps) kk y) st4 else .bad
            | _ => .bad)
          | none => .bad)
        | _ => .bad) = _
    rw [e2]
    show (match tv E' (S ++ q ++ g2) with
            | .ok y st4 => if (keyed f ps).length < sizeLine then dcL (fun _ => true) g dYes tk tv env (l.map h) (putD (keyed f ps) (pk (kf a)) y) st4 else .bad
            | _ => .bad) = _
    rw [e3]
    dsimp only
    rw [if_pos (by rw [keyed_len]; simp at hl; omega), putD_new hq]
    have e5 : S ++ q ++ g2 ++ g3 = S ++ (q ++ g2 ++ g3) := by simp
    rw [e5, e4]
    simp
end
/-! ### the inverse of a gate -/
def gat (g : Gate) (k i : Nat) : Option (Nat × Nat) := g[k]?.bind (·[i]?)
open Classical in
noncomputable def inv (g : Gate) (p : Nat × Nat) : Nat × Nat := if h : ∃ z : Nat × Nat, gat g z.2 z.1 = some p then h.choose else (0, 0)
theorem gat_uniq {g : Gate} : g.flatten.Nodup → ∀ {k i k' i' : Nat} {p : Nat × Nat}, gat g k i = some p → gat g k' i' = some p → k = k' ∧ i = i' := by
  induction g with
  | nil => intro _ k i k' i' p h; simp [gat] at h
  | cons r g ih =>
    intro hn k i k' i' p h h'
    rw [List.flatten_cons, List.nodup_append] at hn
    obtain ⟨n1, n2, n3⟩ := hn
    have mem : ∀ {k i : Nat}, gat g k i = some p → p ∈ g.flatten := fun {k i} h => by
      unfold gat at h
      obtain ⟨r, h1, h2⟩ := Option.bind_eq_some_iff.mp h
      exact List.mem_flatten.mpr ⟨r, List.mem_of_getElem? h1, List.mem_of_getElem? h2⟩
    cases k with
    | zero =>
      have h0 : r[i]? = some p := h
      cases k' with
      | zero =>
        have h0' : r[i']? = some p := h'
        refine ⟨rfl, ?_⟩
        have hi := (List.getElem?_eq_some_iff.mp h0).1
        exact (List.getElem?_inj hi n1).mp (h0.trans h0'.symm)
      | succ k' => exact absurd rfl (n3 p (List.mem_of_getElem? h0) p (mem (k := k') (i := i') h'))
    | succ k =>
      cases k' with
      | zero =>
        have h0' : r[i']? = some p := h'
        exact absurd rfl (n3 p (List.mem_of_getElem? h0') p (mem (k := k) (i := i) h))
      | succ k' =>
        obtain ⟨a, b⟩ := ih n2 (k := k) (i := i) (k' := k') (i' := i') h h'
        exact ⟨by rw [a], b⟩
theorem inv_of {g : Gate} (hn : g.flatten.Nodup) {k i : Nat} {p : Nat × Nat} (h : gat g k i = some p) : inv g p = (i, k) := by
  unfold inv
  have hex : ∃ z : Nat × Nat, gat g z.2 z.1 = some p := ⟨(i, k), h⟩
  rw [dif_pos hex]
  obtain ⟨a, b⟩ := gat_uniq hn hex.choose_spec h
  exact Prod.ext b a
noncomputable def turnG (s m : Nat) (g : Gate) : Gate := (List.range m).map fun k => (List.range s).map fun i => inv g (i, k)
/-! ### turned_gate -/
noncomputable def FTurned : DF := trimF (dDef 1 6 (den_turned_gate FMarks FSides))
def tEnv (g : Gate) (n : Nat) (x2 x3 x4 x5 : Option D) : Dn.Env := [some (gateD g), some (.ref n), x2, x3, x4, x5]
theorem small_pk {p : Nat × Nat} (h1 : p.1 < 9) (h2 : p.2 < 32) : smallKey (pk p) = true := by
  unfold pk smallKey
  simp only [Bool.and_eq_true, decide_eq_true_eq]
  omega
theorem tBody_ok {B q : Store} {g : Gate} {k : Nat} {row ps : List (Nat × Nat)} {f : Nat × Nat → D} {x4 x5 : Option D} (hn : (ps ++ row).Nodup) (hl : ps.length + row.length ≤ 1000000) (hs : ∀ p ∈ row, p.1 < 9 ∧ p.2 < 32) (hf : ∀ i p, row[i]? = some p → f p = pairD (i, k)) :
    ∃ q', (dDrop (dMeth "dict" mUpdT (dVar 1) (aCons (dDcT (iEnumD (aCons (dVar 3) aNil)) (gTp 2 (gsCons (gNm 4) (gsCons (gNm 5) gsNil))) dYes (dVar 5) (dTup (aCons (dVar 4) (aCons (dVar 2) aNil))) [4, 5]) aNil)))
      (tEnv g B.length (some (.int (k : Nat))) (some (rowD row)) x4 x5) (B ++ .dT (keyed f ps) :: q) = .nx (tEnv g B.length (some (.int (k : Nat))) (some (rowD row)) x4 x5) (B ++ .dT (keyed f (ps ++ row)) :: q') := by
  obtain ⟨S, hS⟩ : ∃ S : Store, S = B ++ .dT (keyed f ps) :: q := ⟨_, rfl⟩
  rw [← hS]
  have hSn : S[B.length]? = some (.dT (keyed f ps)) := by rw [hS]; exact at0
  have hrow : row.zipIdx.map (·.1) = row := by simp
  obtain ⟨q1, e1⟩ := dcL_map (S := S) (g := gTp 2 (gsCons (gNm 4) (gsCons (gNm 5) gsNil))) (tk := dVar 5) (tv := dTup (aCons (dVar 4) (aCons (dVar 2) aNil))) (env := dWipe (tEnv g B.length (some (.int (k : Nat))) (some (rowD row)) x4 x5) [4, 5]) (h := fun z : (Nat × Nat) × Nat => .tup [.int (z.2 : Nat), pairD z.1]) (kf := fun z => z.1) (f := f) (l := row.zipIdx) (ps := []) (q := []) (by
    rw [hrow, List.nil_append]
    rw [List.nodup_append] at hn
    exact hn.2.1) (by simp only [List.length_nil, List.length_zipIdx]; exact sl_ge _ (by omega)) (fun z hz => by
      refine ⟨tEnv g B.length (some (.int (k : Nat))) (some (rowD row)) (some (.int (z.2 : Nat))) (some (pairD z.1)), fun _ => rfl, .var rfl, ?_⟩
      obtain ⟨p, i⟩ := z
      have hi : row[i]? = some p := by
        have := List.mem_zipIdx_iff_getElem?.mp hz
        exact this
      rw [hf i p hi]
      exact Ev.tup2 (.var rfl) (.var rfl))
  rw [hrow, List.nil_append, ← enum_zip] at e1
  have d1 : dDcT (iEnumD (aCons (dVar 3) aNil)) (gTp 2 (gsCons (gNm 4) (gsCons (gNm 5) gsNil))) dYes (dVar 5) (dTup (aCons (dVar 4) (aCons (dVar 2) aNil))) [4, 5] (tEnv g B.length (some (.int (k : Nat))) (some (rowD row)) x4 x5) S = .ok (.ref (S ++ q1).length) (S ++ q1 ++ [.dT (keyed f row)]) := by
    have i0 : iEnumD (aCons (dVar 3) aNil) (tEnv g B.length (some (.int (k : Nat))) (some (rowD row)) x4 x5) S = .ok (enumD 0 (row.map pairD), fun _ => true) S := rfl
    unfold dDcT
    rw [i0, Dn.R.bind_ok]
    dsimp only
    rw [List.append_nil] at e1
    have e1' : dcL (fun _ => true) (gTp 2 (gsCons (gNm 4) (gsCons (gNm 5) gsNil))) dYes (dVar 5) (dTup (aCons (dVar 4) (aCons (dVar 2) aNil))) (dWipe (tEnv g B.length (some (.int (k : Nat))) (some (rowD row)) x4 x5) [4, 5]) (enumD 0 (row.map pairD)) [] S = .ok (keyed f row) (S ++ q1) := e1
    rw [e1', Dn.R.bind_ok]
    rfl
  have hneq : B.length ≠ (S ++ q1).length := by rw [hS]; simp
  have u1 : mUpdT (.ref B.length) [.ref (S ++ q1).length] (S ++ q1 ++ [.dT (keyed f row)]) = .ok .non (B ++ .dT (keyed f (ps ++ row)) :: (q ++ q1 ++ [.dT (keyed f row)])) := by
    unfold mUpdT
    dsimp only
    have a1 : (S ++ q1 ++ [Cell.dT (keyed f row)])[B.length]? = some (.dT (keyed f ps)) := atA (atA hSn)
    have a2 : (S ++ q1 ++ [Cell.dT (keyed f row)])[(S ++ q1).length]? = some (.dT (keyed f row)) := at0
    rw [a1, a2]
    dsimp only
    have c1 : (keyed f row).all (fun kv => smallKey kv.1) = true := by
      rw [List.all_eq_true]
      intro kv hkv
      obtain ⟨p, hp, rfl⟩ := List.mem_map.mp hkv
      exact small_pk (hs p hp).1 (hs p hp).2
    have c2 : (keyed f ps).length + (keyed f row).length ≤ sizeLine := by
      rw [keyed_len, keyed_len]
      exact sl_ge _ hl
    rw [if_pos ⟨hneq, .inr c1, c2⟩, merge_new hn]
    have e : S ++ q1 ++ [Cell.dT (keyed f row)] = B ++ .dT (keyed f ps) :: (q ++ q1 ++ [.dT (keyed f row)]) := by rw [hS]; simp
    rw [e, st0]
  have r0 : recv "dict" (.ref B.length) S = true := by unfold recv; dsimp only; rw [hSn]; rfl
  have v1 : ∀ T, dVar 1 (tEnv g B.length (some (.int (k : Nat))) (some (rowD row)) x4 x5) T = .ok (.ref B.length) T := fun T => rfl
  exact ⟨_, by rw [e_drop, e_meth, v1, Dn.R.bind_ok, r0, if_pos rfl, e_acons, d1, Dn.R.bind_ok, e_anil, Dn.R.bind_ok, Dn.R.bind_ok, u1, R.toS_ok]⟩
theorem turned_ok {A : Store} {s m : Nat} {g : Gate} (h : Shape s m g) (hg : IsGate s m g) (hs : s ≤ 9) (hm : m ≤ 32) : OpF A FTurned [gateD g] (gateD (turnG s m g)) := by
  intro B hB
  have hlg := h.len
  have hnd : g.flatten.Nodup := hg.perm.nodup_iff.mpr (nodup_allP s m)
  have hfl : ∀ i, (g.take i).flatten.length ≤ i * s := fun i => by
    induction i with
    | zero => simp
    | succ i ih =>
      rw [List.take_add_one, List.flatten_append, List.length_append, Nat.succ_mul]
      cases e : g[i]? with
      | none =>
        have e2 : (none : Option (List (Nat × Nat))).toList.flatten.length = 0 := rfl
        rw [e2]
        omega
      | some r =>
        have := h.rows r (List.mem_of_getElem? e)
        have e2 : (some r).toList.flatten.length = r.length := by simp
        rw [e2]
        omega
  have p1 : dAsg dNewT (gNm 1) [some (gateD g), none, none, none, none, none] B = .nx (tEnv g B.length none none none none) (B ++ [.dT []]) := rfl
  obtain ⟨E', q', e, x2, x3, x4, x5, rfl⟩ := forC (B := B) (q := []) (xs := enumD 0 (g.map rowD)) (fun i => .dT (keyed (fun p => pairD (inv g p)) (g.take i).flatten)) (fun E' => ∃ x2 x3 x4 x5, E' = tEnv g B.length x2 x3 x4 x5) (EvT.enum (.var (i := 0) rfl)) (E := tEnv g B.length none none none none) ⟨_, _, _, _, rfl⟩ (g := gTp 2 (gsCons (gNm 2) (gsCons (gNm 3) gsNil)))
    (body := dDrop (dMeth "dict" mUpdT (dVar 1) (aCons (dDcT (iEnumD (aCons (dVar 3) aNil)) (gTp 2 (gsCons (gNm 4) (gsCons (gNm 5) gsNil))) dYes (dVar 5) (dTup (aCons (dVar 4) (aCons (dVar 2) aNil))) [4, 5]) aNil))) (by
      rintro i x E q hx ⟨x2, x3, x4, x5, rfl⟩
      obtain ⟨y, hy, rfl⟩ := enum_get hx
      obtain ⟨row, hrow, rfl⟩ := map_get hy
      have hi : i < g.length := (List.getElem?_eq_some_iff.mp hrow).1
      have ht : (g.take (i + 1)).flatten = (g.take i).flatten ++ row := by rw [List.take_add_one, hrow]; simp
      have hrl := h.rows row (List.mem_of_getElem? hrow)
      have hsub : ((g.take (i + 1)).flatten).Nodup := by
        have e : g = g.take (i + 1) ++ g.drop (i + 1) := (List.take_append_drop ..).symm
        rw [e, List.flatten_append, List.nodup_append] at hnd
        exact hnd.1
      obtain ⟨q', e⟩ := tBody_ok (B := B) (q := q) (g := g) (k := i) (row := row) (ps := (g.take i).flatten) (f := fun p => pairD (inv g p)) (x4 := x4) (x5 := x5) (by rw [← ht]; exact hsub) (by
        have h1 := hfl i
        have h2 : i * s ≤ 32 * 9 := Nat.mul_le_mul (by omega) hs
        omega) (fun p hp => by
          have hpm : p ∈ g.flatten := List.mem_flatten.mpr ⟨row, List.mem_of_getElem? hrow, hp⟩
          obtain ⟨a, b⟩ := mem_allP.mp (hg.perm.mem_iff.mp hpm)
          omega) (fun j p hj => by
            have hgat : gat g i j = some p := by unfold gat; rw [hrow]; exact hj
            rw [inv_of hnd hgat])
      refine ⟨tEnv g B.length (some (.int (i : Nat))) (some (rowD row)) x4 x5, tEnv g B.length (some (.int (i : Nat))) (some (rowD row)) x4 x5, q', fun _ => rfl, ?_, _, _, x4, x5, rfl⟩
      rw [ht]
      exact e)
  rw [enum_len, List.length_map, List.take_length] at e
  obtain ⟨S, hS⟩ : ∃ S : Store, S = B ++ .dT (keyed (fun p => pairD (inv g p)) g.flatten) :: q' := ⟨_, rfl⟩
  rw [← hS] at e
  have hSn : S[B.length]? = some (.dT (keyed (fun p => pairD (inv g p)) g.flatten)) := by rw [hS]; exact at0
  have hm1 : m ≤ 1000000 := by omega
  have hBS : B <+: S := by rw [hS]; exact List.prefix_append ..
  have L := EvL.lcA (A := S) (E := tEnv g B.length x2 x3 x4 x5) (ws := [2]) (g := gNm 2) (te := dCall bTuple (aCons (dLc (iRange1 (aCons (dCall FSides (aCons (dVar 0) aNil)) aNil)) (gNm 4) dYes (dBin vIx (dVar 1) (dTup (aCons (dVar 4) (aCons (dVar 2) aNil)))) [4]) aNil)) (l := List.range m) (h := fun k => D.int (k : Nat)) (fun k => rowD ((List.range s).map fun i => inv g (i, k)))
    (by rw [← rng_eq]; exact EvI.range (Ev.call (.cons (.var (i := 0) rfl) .nil) (marks_ok h)) hm1) (by rw [List.length_range]; exact sl_ge _ hm1) (fun k hk => by
      have hk := List.mem_range.mp hk
      refine ⟨tEnv g B.length (some (.int (k : Nat))) x3 x4 x5, fun _ => rfl, ?_⟩
      have e : rowD ((List.range s).map fun i => inv g (i, k)) = .tup ((List.range s).map fun i => pairD (inv g (i, k))) := by unfold rowD; rw [List.map_map]; rfl
      rw [e]
      refine Ev.tupleL (EvL.lcA (h := fun k => D.int (k : Nat)) (fun i => pairD (inv g (i, k))) (by rw [← rng_eq]; exact EvI.range (Ev.call (.cons (.var (i := 0) rfl) .nil) (sides_ok h)) (by omega)) (by rw [List.length_range]; exact sl_ge _ (by omega)) fun i hi => ?_)
      have hi := List.mem_range.mp hi
      refine ⟨tEnv g B.length (some (.int (k : Nat))) x3 (some (.int (i : Nat))) x5, fun _ => rfl, Ev.bin (.var rfl) (Ev.tup2 (.var rfl) (.var rfl)) (op_ixDT hSn (kk := pk (i, k)) rfl (valD_mem (hg.perm.mem_iff.mpr (mem_allP.mpr ⟨hi, hk⟩))))⟩)
  obtain ⟨g4, e4⟩ := EvR.ret (Ev.tupleL L) S (List.prefix_refl _)
  refine trimF_pure (g := .dT (keyed (fun p => pairD (inv g p)) g.flatten) :: (q' ++ g4)) (dDef_rt rfl rfl ((dSeq_nx p1).trans ((dSeq_nx e).trans (e4.trans ?_)))) (gate_lt _ _)
  have eg : D.tup ((List.range m).map fun k => rowD ((List.range s).map fun i => inv g (i, k))) = gateD (turnG s m g) := by unfold gateD turnG; rw [List.map_map]; rfl
  rw [eg, hS]
  simp only [List.append_assoc, List.cons_append]
end Pn
set_option Elab.async false
set_option linter.all false
set_option maxHeartbeats 1000000
set_option maxRecDepth 100000
namespace Pn
open PySem PySem.Spec L2 Dn
/-! ### gates as functions -/
def FF (g : Gate) (k i : Nat) : Nat × Nat := (g.getD k []).getD i (0, 0)
def mkG (s m : Nat) (f : Nat → Nat → Nat × Nat) : Gate := (List.range m).map fun k => (List.range s).map fun i => f k i
theorem mkG_congr {s m : Nat} {f f' : Nat → Nat → Nat × Nat} (h : ∀ k < m, ∀ i < s, f k i = f' k i) : mkG s m f = mkG s m f' := by
  unfold mkG
  apply List.map_congr_left
  intro k hk
  apply List.map_congr_left
  intro i hi
  exact h k (List.mem_range.mp hk) i (List.mem_range.mp hi)
theorem FF_mkG {s m : Nat} {f : Nat → Nat → Nat × Nat} {k i : Nat} (hk : k < m) (hi : i < s) : FF (mkG s m f) k i = f k i := by
  have e : (mkG s m f).getD k [] = (List.range s).map fun i => f k i := by
    unfold mkG
    rw [List.getD_eq_getElem?_getD, List.getElem?_map, List.getElem?_range hk]
    rfl
  unfold FF
  rw [e, List.getD_eq_getElem?_getD, List.getElem?_map, List.getElem?_range hi]
  rfl
theorem mkG_len {s m : Nat} {f : Nat → Nat → Nat × Nat} : (mkG s m f).length = m := by simp [mkG]
theorem mkG_rows {s m : Nat} {f : Nat → Nat → Nat × Nat} : ∀ r ∈ mkG s m f, r.length = s := fun r hr => by
  obtain ⟨k, _, rfl⟩ := List.mem_map.mp hr
  simp
theorem mkG_FF {s m : Nat} {g : Gate} (hl : g.length = m) (hr : ∀ r ∈ g, r.length = s) : mkG s m (FF g) = g := by
  apply List.ext_getElem?
  intro k
  unfold mkG
  by_cases hk : k < m
  · have hg : g[k]? = some (g[k]'(by omega)) := List.getElem?_eq_getElem _
    rw [List.getElem?_map, List.getElem?_range hk, Option.map_some, hg]
    congr 1
    have hrl := hr (g[k]'(by omega)) (List.getElem_mem _)
    apply List.ext_getElem?
    intro i
    by_cases hi : i < s
    · rw [List.getElem?_map, List.getElem?_range hi, Option.map_some]
      have e : g.getD k [] = g[k]'(by omega) := by rw [List.getD_eq_getElem?_getD, hg]; rfl
      unfold FF
      rw [e, List.getD_eq_getElem?_getD, List.getElem?_eq_getElem (by omega), Option.getD_some]
    · rw [List.getElem?_eq_none (by simp; omega), List.getElem?_eq_none (by omega)]
  · rw [List.getElem?_eq_none (by simp; omega), List.getElem?_eq_none (by omega)]
def bF (m2 s1 : Nat) (f f' : Nat → Nat → Nat × Nat) (k i : Nat) : Nat × Nat := if i < s1 then ((f (k / m2) i).1, (f (k / m2) i).2 * m2 + k % m2) else (s1 + (f' (k % m2) (i - s1)).1, k / m2 * m2 + (f' (k % m2) (i - s1)).2)
theorem beside_mk {s1 m1 s2 m2 : Nat} {a b : Gate} (ha : a.length = m1) (ha' : ∀ r ∈ a, r.length = s1) (hb : b.length = m2) (hb' : ∀ r ∈ b, r.length = s2) (h0 : 0 < m2) : besideG m2 s1 a b = mkG (s1 + s2) (m1 * m2) (bF m2 s1 (FF a) (FF b)) := by
  unfold besideG
  rw [← due_rows hb h0, ha]
  unfold mkG
  apply List.map_congr_left
  intro k hk
  have hk := List.mem_range.mp hk
  have h1 : k / m2 < a.length := by rw [ha]; exact Nat.div_lt_of_lt_mul (by rw [Nat.mul_comm]; exact hk)
  have h2 : k % m2 < b.length := by rw [hb]; exact Nat.mod_lt _ h0
  have e1 := ha' (a[k / m2]) (List.getElem_mem _)
  have e2 := hb' (b[k % m2]) (List.getElem_mem _)
  have g1 : a.getD (k / m2) [] = a[k / m2] := by rw [List.getD_eq_getElem?_getD, List.getElem?_eq_getElem h1]; rfl
  have g2 : b.getD (k % m2) [] = b[k % m2] := by rw [List.getD_eq_getElem?_getD, List.getElem?_eq_getElem h2]; rfl
  unfold dRow bRow
  rw [g1, g2]
  apply List.ext_getElem?
  intro i
  by_cases hi : i < s1
  · rw [List.getElem?_append_left (by rw [List.length_map]; omega), List.getElem?_map, List.getElem?_eq_getElem (by omega), Option.map_some, List.getElem?_map, List.getElem?_range (by omega), Option.map_some]
    unfold bF FF
    rw [if_pos hi, g1, List.getD_eq_getElem?_getD, List.getElem?_eq_getElem (by omega)]
    rfl
  · by_cases hi2 : i < s1 + s2
    · rw [List.getElem?_append_right (by rw [List.length_map]; omega), List.getElem?_map, List.length_map, e1, List.getElem?_eq_getElem (by omega), Option.map_some, List.getElem?_map, List.getElem?_range (by omega), Option.map_some]
      unfold bF FF
      rw [if_neg hi, g2, List.getD_eq_getElem?_getD, List.getElem?_eq_getElem (by omega)]
      rfl
    · rw [List.getElem?_eq_none (by simp; omega), List.getElem?_eq_none (by simp; omega)]
theorem mod2 (k m2 m3 : Nat) : k % (m2 * m3) = k / m3 % m2 * m3 + k % m3 := by
  rw [Nat.mul_comm m2, Nat.mod_mul, Nat.mul_comm m3, Nat.add_comm]
theorem mod2_div {k m2 m3 : Nat} (h : 0 < m3) : k % (m2 * m3) / m3 = k / m3 % m2 := by
  rw [mod2, Nat.mul_comm, Nat.mul_add_div h, Nat.div_eq_of_lt (Nat.mod_lt _ h), Nat.add_zero]
theorem mod2_mod (k m2 m3 : Nat) : k % (m2 * m3) % m3 = k % m3 := Nat.mod_mul_left_mod ..
theorem div2 (k m2 m3 : Nat) : k / (m2 * m3) = k / m3 / m2 := by rw [Nat.div_div_eq_div_mul, Nat.mul_comm]
theorem bF_assoc {m2 m3 s1 s2 : Nat} {a b c : Nat → Nat → Nat × Nat} (h3 : 0 < m3) (k i : Nat) : bF m3 (s1 + s2) (bF m2 s1 a b) c k i = bF (m2 * m3) s1 a (bF m3 s2 b c) k i := by
  unfold bF
  by_cases h1 : i < s1
  · rw [if_pos (by omega), if_pos h1, if_pos h1, div2, mod2]
    dsimp only
    rw [Nat.add_mul, Nat.mul_assoc, Nat.add_assoc]
  · by_cases h2 : i < s1 + s2
    · rw [if_pos h2, if_neg h1, if_neg h1, if_pos (by omega), div2, mod2_div h3, mod2_mod]
      dsimp only
      rw [Nat.add_mul, Nat.mul_assoc, Nat.add_assoc]
    · rw [if_neg h2, if_neg h1, if_neg (by omega), div2, mod2_div h3, mod2_mod]
      have e : i - s1 - s2 = i - (s1 + s2) := by omega
      dsimp only
      rw [e, Nat.add_assoc, ← Nat.add_assoc (k / m3 / m2 * (m2 * m3)), ← Nat.mul_assoc, ← Nat.add_mul, Nat.mul_comm _ m2, Nat.div_add_mod]
theorem bF_congr {m2 s1 : Nat} {f f' g g' : Nat → Nat → Nat × Nat} {k i : Nat} (h : i < s1 → f (k / m2) i = g (k / m2) i) (h' : ¬ i < s1 → f' (k % m2) (i - s1) = g' (k % m2) (i - s1)) : bF m2 s1 f f' k i = bF m2 s1 g g' k i := by
  unfold bF
  by_cases hi : i < s1
  · rw [if_pos hi, if_pos hi, h hi]
  · rw [if_neg hi, if_neg hi, h' hi]
theorem beside_assoc {s1 m1 s2 m2 s3 m3 : Nat} {a b c : Gate} (ha : a.length = m1) (ha' : ∀ r ∈ a, r.length = s1) (hb : b.length = m2) (hb' : ∀ r ∈ b, r.length = s2) (hc : c.length = m3) (hc' : ∀ r ∈ c, r.length = s3) (h2 : 0 < m2) (h3 : 0 < m3) :
    besideG m3 (s1 + s2) (besideG m2 s1 a b) c = besideG (m2 * m3) s1 a (besideG m3 s2 b c) := by
  have e1 := beside_mk ha ha' hb hb' h2
  have e2 := beside_mk hb hb' hc hc' h3
  have l1 : (besideG m2 s1 a b).length = m1 * m2 := by rw [e1, mkG_len]
  have r1 : ∀ r ∈ besideG m2 s1 a b, r.length = s1 + s2 := by rw [e1]; exact mkG_rows
  have l2 : (besideG m3 s2 b c).length = m2 * m3 := by rw [e2, mkG_len]
  have r2 : ∀ r ∈ besideG m3 s2 b c, r.length = s2 + s3 := by rw [e2]; exact mkG_rows
  rw [beside_mk l1 r1 hc hc' h3, beside_mk ha ha' l2 r2 (Nat.mul_pos h2 h3), Nat.add_assoc, Nat.mul_assoc]
  apply mkG_congr
  intro k hk i hi
  have hk1 : k / m3 < m1 * m2 := Nat.div_lt_of_lt_mul (by rw [Nat.mul_comm, Nat.mul_assoc]; exact hk)
  have hk3 : k % (m2 * m3) < m2 * m3 := Nat.mod_lt _ (Nat.mul_pos h2 h3)
  rw [e1, e2, bF_congr (g := bF m2 s1 (FF a) (FF b)) (g' := FF c) (fun h1 => FF_mkG hk1 h1) (fun _ => rfl), bF_congr (g := FF a) (g' := bF m3 s2 (FF b) (FF c)) (fun _ => rfl) (fun h1 => FF_mkG hk3 (by omega)), bF_assoc h3]
/-! ### the inverse of beside -/
theorem gat_FF {s m : Nat} {g : Gate} (hl : g.length = m) (hr : ∀ r ∈ g, r.length = s) {k i : Nat} (hk : k < m) (hi : i < s) : gat g k i = some (FF g k i) := by
  have hg : g[k]? = some (g[k]'(by omega)) := List.getElem?_eq_getElem _
  have hrl := hr (g[k]'(by omega)) (List.getElem_mem _)
  have e : g.getD k [] = g[k]'(by omega) := by rw [List.getD_eq_getElem?_getD, hg]; rfl
  unfold gat FF
  rw [hg, Option.bind_some, e, List.getD_eq_getElem?_getD, List.getElem?_eq_getElem (by omega)]
  rfl
theorem inv_spec {s m : Nat} {g : Gate} (h : IsGate s m g) {i k : Nat} (hi : i < s) (hk : k < m) : (inv g (i, k)).1 < s ∧ (inv g (i, k)).2 < m ∧ FF g (inv g (i, k)).2 (inv g (i, k)).1 = (i, k) := by
  have hm : (i, k) ∈ g.flatten := h.perm.mem_iff.mpr (mem_allP.mpr ⟨hi, hk⟩)
  obtain ⟨r, hr, hp⟩ := List.mem_flatten.mp hm
  obtain ⟨a, ha⟩ := List.mem_iff_getElem?.mp hr
  obtain ⟨b, hb⟩ := List.mem_iff_getElem?.mp hp
  have hg : gat g a b = some (i, k) := by unfold gat; rw [ha]; exact hb
  have hnd : g.flatten.Nodup := h.perm.nodup_iff.mpr (nodup_allP s m)
  rw [inv_of hnd hg]
  have h1 : a < m := by rw [← h.len]; exact (List.getElem?_eq_some_iff.mp ha).1
  have h2 : b < s := by rw [← h.rows r hr]; exact (List.getElem?_eq_some_iff.mp hb).1
  refine ⟨h2, h1, ?_⟩
  rw [gat_FF h.len h.rows h1 h2] at hg
  exact Option.some.inj hg
theorem flatten_len {s : Nat} : ∀ {g : Gate}, (∀ r ∈ g, r.length = s) → g.flatten.length = g.length * s
  | [], _ => by simp
  | r :: g, h => by
    rw [List.flatten_cons, List.length_append, flatten_len fun r hr => h r (List.mem_cons_of_mem _ hr), h r (List.mem_cons_self ..), List.length_cons, Nat.succ_mul]
    omega
theorem isGate_of {s m : Nat} {g : Gate} (hl : g.length = m) (hr : ∀ r ∈ g, r.length = s) (hs : ∀ i < s, ∀ k < m, ∃ b < s, ∃ a < m, FF g a b = (i, k)) : IsGate s m g := by
  refine ⟨hl, hr, (subset_perm (nodup_allP s m) (fun p hp => ?_) ?_).symm⟩
  · obtain ⟨hi, hk⟩ := mem_allP.mp hp
    obtain ⟨b, hb, a, ha, e⟩ := hs p.1 hi p.2 hk
    have hg := gat_FF hl hr ha hb
    unfold gat at hg
    obtain ⟨r, h1, h2⟩ := Option.bind_eq_some_iff.mp hg
    rw [e] at h2
    exact List.mem_flatten.mpr ⟨r, List.mem_of_getElem? h1, List.mem_of_getElem? h2⟩
  · rw [flatten_len hr, hl, allP_len, Nat.mul_comm]
    exact Nat.le_refl _
/-- what the inverses of two gates, laid beside, do -/
theorem bF_inv {s1 m1 s2 m2 : Nat} {a b : Gate} (ha : IsGate s1 m1 a) (hb : IsGate s2 m2 b) (h0 : 0 < m2) {i k : Nat} (hi : i < s1 + s2) (hk : k < m1 * m2) :
    (bF m2 s1 (fun k i => inv a (i, k)) (fun k i => inv b (i, k)) k i).1 < s1 + s2 ∧ (bF m2 s1 (fun k i => inv a (i, k)) (fun k i => inv b (i, k)) k i).2 < m1 * m2 ∧
    bF m2 s1 (FF a) (FF b) (bF m2 s1 (fun k i => inv a (i, k)) (fun k i => inv b (i, k)) k i).2 (bF m2 s1 (fun k i => inv a (i, k)) (fun k i => inv b (i, k)) k i).1 = (i, k) := by
  have hk1 : k / m2 < m1 := Nat.div_lt_of_lt_mul (by rw [Nat.mul_comm]; exact hk)
  have hk2 : k % m2 < m2 := Nat.mod_lt _ h0
  have hdm := Nat.div_add_mod k m2
  have lt : ∀ {x y : Nat}, x < m1 → y < m2 → x * m2 + y < m1 * m2 := fun {x y} hx hy => by
    have : (x + 1) * m2 ≤ m1 * m2 := Nat.mul_le_mul_right _ hx
    rw [Nat.succ_mul] at this
    omega
  have dv : ∀ {x y : Nat}, y < m2 → (x * m2 + y) / m2 = x := fun {x y} hy => by rw [Nat.mul_comm, Nat.mul_add_div h0, Nat.div_eq_of_lt hy, Nat.add_zero]
  have md : ∀ {x y : Nat}, y < m2 → (x * m2 + y) % m2 = y := fun {x y} hy => by rw [Nat.mul_comm, Nat.mul_add_mod, Nat.mod_eq_of_lt hy]
  have hdm' : k / m2 * m2 + k % m2 = k := by rw [Nat.mul_comm]; exact hdm
  by_cases h1 : i < s1
  · obtain ⟨p1, p2, p3⟩ := inv_spec ha h1 hk1
    have e : bF m2 s1 (fun k i => inv a (i, k)) (fun k i => inv b (i, k)) k i = ((inv a (i, k / m2)).1, (inv a (i, k / m2)).2 * m2 + k % m2) := by unfold bF; rw [if_pos h1]
    rw [e]
    refine ⟨by dsimp only; omega, lt p2 hk2, ?_⟩
    dsimp only
    unfold bF
    rw [if_pos p1, dv hk2, md hk2, p3]
    dsimp only
    rw [hdm']
  · obtain ⟨p1, p2, p3⟩ := inv_spec hb (i := i - s1) (by omega) hk2
    have e : bF m2 s1 (fun k i => inv a (i, k)) (fun k i => inv b (i, k)) k i = (s1 + (inv b (i - s1, k % m2)).1, k / m2 * m2 + (inv b (i - s1, k % m2)).2) := by unfold bF; rw [if_neg h1]
    rw [e]
    refine ⟨by dsimp only; omega, lt hk1 p2, ?_⟩
    dsimp only
    unfold bF
    rw [if_neg (by omega), dv p2, md p2, Nat.add_sub_cancel_left, p3]
    dsimp only
    rw [hdm', Nat.add_sub_of_le (by omega)]
theorem isGate_beside {s1 m1 s2 m2 : Nat} {a b : Gate} (ha : IsGate s1 m1 a) (hb : IsGate s2 m2 b) (h0 : 0 < m2) : IsGate (s1 + s2) (m1 * m2) (besideG m2 s1 a b) := by
  rw [beside_mk ha.len ha.rows hb.len hb.rows h0]
  refine isGate_of mkG_len mkG_rows fun i hi k hk => ?_
  obtain ⟨p1, p2, p3⟩ := bF_inv ha hb h0 hi hk
  exact ⟨_, p1, _, p2, by rw [FF_mkG p2 p1, p3]⟩
theorem turn_eq (s m : Nat) (g : Gate) : turnG s m g = mkG s m fun k i => inv g (i, k) := rfl
theorem isGate_turn {s m : Nat} {g : Gate} (h : IsGate s m g) : IsGate s m (turnG s m g) := by
  rw [turn_eq]
  refine isGate_of mkG_len mkG_rows fun i hi k hk => ?_
  have hg := gat_FF h.len h.rows hk hi
  have hnd : g.flatten.Nodup := h.perm.nodup_iff.mpr (nodup_allP s m)
  have e := inv_of hnd hg
  have hmem : FF g k i ∈ g.flatten := by
    unfold gat at hg
    obtain ⟨r, h1, h2⟩ := Option.bind_eq_some_iff.mp hg
    exact List.mem_flatten.mpr ⟨r, List.mem_of_getElem? h1, List.mem_of_getElem? h2⟩
  obtain ⟨p1, p2⟩ := mem_allP.mp (h.perm.mem_iff.mp hmem)
  exact ⟨(FF g k i).1, p1, (FF g k i).2, p2, by rw [FF_mkG p2 p1]; exact e⟩
theorem turn_beside {s1 m1 s2 m2 : Nat} {a b : Gate} (ha : IsGate s1 m1 a) (hb : IsGate s2 m2 b) (h0 : 0 < m2) : turnG (s1 + s2) (m1 * m2) (besideG m2 s1 a b) = besideG m2 s1 (turnG s1 m1 a) (turnG s2 m2 b) := by
  have ta := isGate_turn ha
  have tb := isGate_turn hb
  have hg := isGate_beside ha hb h0
  have hnd : (besideG m2 s1 a b).flatten.Nodup := hg.perm.nodup_iff.mpr (nodup_allP _ _)
  rw [turn_eq, beside_mk ta.len ta.rows tb.len tb.rows h0]
  apply mkG_congr
  intro k hk i hi
  obtain ⟨p1, p2, p3⟩ := bF_inv ha hb h0 hi hk
  have hk1 : k / m2 < m1 := Nat.div_lt_of_lt_mul (by rw [Nat.mul_comm]; exact hk)
  have hk2 : k % m2 < m2 := Nat.mod_lt _ h0
  have hx := gat_FF hg.len hg.rows p2 p1
  rw [beside_mk ha.len ha.rows hb.len hb.rows h0, FF_mkG p2 p1, p3] at hx
  rw [beside_mk ha.len ha.rows hb.len hb.rows h0] at hnd ⊢
  rw [inv_of hnd hx, turn_eq, turn_eq]
  have e : bF m2 s1 (FF (mkG s1 m1 fun k i => inv a (i, k))) (FF (mkG s2 m2 fun k i => inv b (i, k))) k i = bF m2 s1 (fun k i => inv a (i, k)) (fun k i => inv b (i, k)) k i := by
    refine bF_congr (fun h1 => FF_mkG hk1 h1) (fun h1 => ?_)
    have hi2 : i - s1 < s2 := by omega
    exact FF_mkG (f := fun k i => inv b (i, k)) hk2 hi2
  rw [e]
end Pn
set_option Elab.async false
set_option linter.all false
set_option maxHeartbeats 1000000
set_option maxRecDepth 100000
namespace Pn
open PySem PySem.Spec L2 Dn
/-! ### k04's law -/
/-- a gate as a law draws it -/
structure GG (s m : Nat) (g : Gate) : Prop where
  gate : IsGate s m g
  s0 : 0 < s
  m0 : 0 < m
  s1 : s ≤ 4
  m1 : m ≤ 5
theorem GG.shape {s m : Nat} {g : Gate} (h : GG s m g) : Shape s m g := h.gate.shape h.s0 h.m0 (by have := h.s1; omega) (by have := h.m1; omega)
def lEnv (ns : List Int) (x1 x2 x3 x4 x5 x6 x7 x8 x9 : Option D) : Dn.Env := [some (.scr ns), x1, x2, x3, x4, x5, x6, x7, x8, x9]
theorem Da.gate (g : Gate) : Da 3 (gateD g) := .tup fun r hr => by
  obtain ⟨r, _, rfl⟩ := List.mem_map.mp hr
  exact .tup fun p hp => by
    obtain ⟨p, _, rfl⟩ := List.mem_map.mp hp
    exact .tup fun x hx => by
      simp only [List.mem_cons, List.not_mem_nil, or_false] at hx
      rcases hx with rfl | rfl <;> exact .int _
theorem op_neG {A : Store} {g : Gate} : Op2 A vNe (gateD g) (gateD g) (.bl false) := op_neS (Da.gate g) (by decide)
theorem wts_pairs : ∀ r : List (Nat × Nat), wts (r.map pairD) = 3 * r.length
  | [] => rfl
  | p :: r => by
    have e : wt (pairD p) = 3 := rfl
    rw [List.map_cons, wts, e, wts_pairs r, List.length_cons]
    omega
theorem wts_rows {s : Nat} : ∀ {g : Gate}, (∀ r ∈ g, r.length = s) → wts (g.map rowD) = g.length * (1 + 3 * s)
  | [], _ => by simp [wts]
  | r :: g, h => by
    have e : wt (rowD r) = 1 + 3 * s := by rw [rowD, wt, wts_pairs, h r (List.mem_cons_self ..)]
    rw [List.map_cons, wts, e, wts_rows fun r hr => h r (List.mem_cons_of_mem _ hr), List.length_cons, Nat.add_mul, Nat.one_mul, Nat.add_comm]
theorem wt_gate {s m : Nat} {g : Gate} (h : Shape s m g) : wt (gateD g) ≤ 1 + m * (1 + 3 * s) := by
  rw [gateD, wt, wts_rows h.rows, h.len]
  exact Nat.le_refl _
theorem alikeG {A : Store} {s m : Nat} {g : Gate} (h : Shape s m g) (hs : s ≤ 20) (hm : m ≤ 200) : OpF A FAlike [gateD g, gateD g] (.bl true) :=
  alike_ok (Da.gate g) (by decide) (by
    have h1 := wt_gate h
    have h2 : m * (1 + 3 * s) ≤ 200 * 61 := Nat.mul_le_mul hm (by omega)
    omega) fun _ => gate_lt _ _
theorem shape_beside {s1 m1 s2 m2 : Nat} {a b : Gate} (ha : Shape s1 m1 a) (hb : Shape s2 m2 b) (ga : IsGate s1 m1 a) (gb : IsGate s2 m2 b) (hs : s1 + s2 ≤ 1000) (hm : m1 * m2 ≤ 1000) : Shape (s1 + s2) (m1 * m2) (besideG m2 s1 a b) :=
  (isGate_beside ga gb hb.m0).shape (by have := ha.s0; omega) (Nat.mul_pos ha.m0 hb.m0) hs hm
theorem op_isnotT {A : Store} : Op2 A vIsNot (.bl true) (.bl true) (.bl false) := fun _ _ => rfl
section
variable {A : Store} {ns : List Int} {x1 x2 x3 x4 x5 x6 x7 x8 x9 : Option D}
theorem lPair {s m s' m' : Nat} {a b : Gate} (ha : GG s m a) (hb : GG s' m' b) : EvN A (lEnv ns x1 x2 x3 x4 x5 x6 (some (gateD a)) (some (gateD b)) x9) (dSeq (dAsg (dCall FBeside (aCons (dVar 7) (aCons (dVar 8) aNil))) (gNm 9)) (dIf (dTOr (dTNot (dTest (dCall FAlike (aCons (dVar 9) (aCons (dCall FDue (aCons (dVar 7) (aCons (dVar 8) aNil))) aNil))))) (dTest (dBin vIsNot (dCall FLook (aCons (dVar 9) aNil)) (dC (.bl true))))) (dRet (dC (.bl false))) dNext))
    (lEnv ns x1 x2 x3 x4 x5 x6 (some (gateD a)) (some (gateD b)) (some (gateD (besideG m' s a b)))) := by
  have h1 := ha.s1
  have h2 := hb.s1
  have h3 : m * m' ≤ 5 * 5 := Nat.mul_le_mul ha.m1 hb.m1
  have sh := shape_beside ha.shape hb.shape ha.gate hb.gate (by omega) (by omega)
  exact EvN.seq (EvN.asg (Ev.call (.cons (.var (i := 7) rfl) (.cons (.var (i := 8) rfl) .nil)) (beside_ok ha.shape hb.shape)))
    (EvN.ifF (EvB.or (b := false) (b' := false) (EvB.not (b := true) (EvB.test (Ev.call (.cons (.var (i := 9) rfl) (.cons (Ev.call (.cons (.var (i := 7) rfl) (.cons (.var (i := 8) rfl) .nil)) (due_ok ha.shape hb.shape)) .nil)) (alikeG sh (by omega) (by omega))))) fun _ =>
      EvB.test (Ev.bin (Ev.call (.cons (.var (i := 9) rfl) .nil) (look_ok sh (isGate_beside ha.gate hb.gate hb.m0))) (.c _) op_isnotT)) .next)
theorem forE {E : Dn.Env} {it : DI} {g : DG} {body : DS} {xs : List D} (Inv : Dn.Env → Prop) (hi : EvT A E it xs) (h0 : Inv E) (step : ∀ x ∈ xs, ∀ E, Inv E → ∃ E1 E2, (∀ S, g x E S = .ok E1 S) ∧ EvN A E1 body E2 ∧ Inv E2) {S : Store} (hS : A <+: S) : ∃ E' q, dFor it g body E S = .nx E' (S ++ q) ∧ Inv E' := by
  obtain ⟨g1, e1⟩ := hi S hS
  obtain ⟨env', st', e2, h1, q', h2⟩ := forL_run (chk := fun _ => true) (g := g) (m := body) (fun i env st => Inv env ∧ ∃ q, st = S ++ q) (fun _ _ _ _ => rfl) (xs := xs) (i0 := 0) (env := E) (st := S ++ g1) ⟨h0, _, rfl⟩ (by
    rintro i x env st hx ⟨h1, q, rfl⟩
    obtain ⟨E1, E2, a, b, c⟩ := step x (List.mem_of_getElem? hx) env h1
    obtain ⟨g2, e2⟩ := b _ (pre_ext hS q)
    exact ⟨_, _, _, _, a _, e2, c, q ++ g2, by simp⟩)
  exact ⟨env', q', by rw [e_for, e1, Dn.R.toS_ok, e2, h2], h1⟩
end
end Pn
set_option Elab.async false
set_option linter.all false
set_option maxHeartbeats 1000000
set_option maxRecDepth 100000
namespace Pn
open PySem PySem.Spec L2 Dn
/-! ### repr of gates -/
def Sok (x : Str) : Prop := ∀ c ∈ x.cps.toList, c < 0x110000
theorem Sok.ok {x : Str} (h : Sok x) : Ok 0 (.str x) := by
  refine ⟨?_, by simp [PyData.depth]⟩
  simp only [PyData.canLay0]
  unfold PyData.strOk
  rw [Array.all_eq_true']
  intro c hc
  exact decide_eq_true (h c (Array.mem_toList_iff.mpr hc))
theorem sok_of (s : String) : Sok (Str.ofString s) := by
  intro c hc
  rw [Str.ofString_eq_toList] at hc
  simp only [List.toList_toArray, List.mem_map] at hc
  obtain ⟨ch, _, rfl⟩ := hc
  have h := ch.valid
  show ch.val.toNat < 0x110000
  rcases h with h | h
  · exact Nat.lt_trans h (by decide)
  · exact h.2
theorem Sok.app {x y : Str} (h : Sok x) (h' : Sok y) : Sok (x ++ y) := by
  intro c hc
  have e : (x ++ y).cps = x.cps ++ y.cps := rfl
  rw [e, Array.toList_append, List.mem_append] at hc
  exact hc.elim (h c) (h' c)
theorem sok_join {s : Str} (hs : Sok s) : ∀ {ts : List Str}, (∀ t ∈ ts, Sok t) → Sok (Str.join s ts)
  | [], _ => sok_of ""
  | [x], h => h x (List.mem_cons_self ..)
  | x :: y :: r, h => ((h x (List.mem_cons_self ..)).app hs).app (sok_join hs fun t ht => h t (List.mem_cons_of_mem _ ht))
theorem shownAll_mem {t : Str} : ∀ {xs : List PyData}, t ∈ PyData.shownAll xs → ∃ x ∈ xs, t = x.shown
  | [], h => by simp [PyData.shownAll] at h
  | x :: xs, h => by
    rw [PyData.shownAll_cons] at h
    rcases List.mem_cons.mp h with rfl | h
    · exact ⟨x, List.mem_cons_self .., rfl⟩
    · obtain ⟨y, hy, e⟩ := shownAll_mem h
      exact ⟨y, List.mem_cons_of_mem _ hy, e⟩
theorem sok_int (i : Int) : Sok (PyData.int i).shown := by
  rw [PyData.shown_int]
  exact sok_of _
theorem sok_tuple {xs : List PyData} (h : ∀ x ∈ xs, Sok x.shown) : Sok (PyData.tuple xs).shown := by
  rw [PyData.shown_tuple]
  exact ((sok_of _).app (sok_join (sok_of _) fun t ht => by
    obtain ⟨x, hx, rfl⟩ := shownAll_mem ht
    exact h x hx)).app (sok_of _)
theorem sok_list {xs : List PyData} (h : ∀ x ∈ xs, Sok x.shown) : Sok (PyData.list xs).shown := by
  rw [PyData.shown_list]
  exact ((sok_of _).app (sok_join (sok_of _) fun t ht => by
    obtain ⟨x, hx, rfl⟩ := shownAll_mem ht
    exact h x hx)).app (sok_of _)
/-- data fit for repr: shown, no dict, not deep, not heavy -/
structure Rp (k w : Nat) (p : PyData) : Prop where
  show_ : p.showable = true
  dict : p.hasDict = false
  depth : p.depth ≤ k
  short : p.leavesShort 13 = true
  weight : p.weight ≤ w
  sok : Sok p.shown
theorem Rp.int {i : Nat} (h : i < 1024) : Rp 0 10 (.int (i : Nat)) := by
  have hl : i.log2 < 10 ∨ i = 0 := by
    by_cases h0 : i = 0
    · exact .inr h0
    · exact .inl ((Nat.log2_lt h0).mpr h)
  have hl2 : i.log2 < 10 := by
    rcases hl with h | h
    · exact h
    · subst h; decide
  refine ⟨?_, by simp [PyData.hasDict], by simp [PyData.depth], ?_, ?_, sok_int _⟩
  · simp only [PyData.showable, Int.natAbs_natCast]
    exact decide_eq_true (by omega)
  · simp only [PyData.leavesShort]
    exact decide_eq_true (PyData.shown_int_le (by simp only [Int.natAbs_natCast]; exact Nat.lt_trans h (by decide)))
  · simp only [PyData.weight, Int.natAbs_natCast]
    split <;> omega
theorem showAll {xs : List PyData} (h : ∀ x ∈ xs, x.showable = true) : PyData.showableAll xs = true := by
  induction xs with
  | nil => simp [PyData.showableAll]
  | cons x xs ih => simp [PyData.showableAll, h x (List.mem_cons_self ..), ih fun q hq => h q (List.mem_cons_of_mem _ hq)]
theorem dictAll {xs : List PyData} (h : ∀ x ∈ xs, x.hasDict = false) : PyData.hasDictAll xs = false := by
  induction xs with
  | nil => simp [PyData.hasDictAll]
  | cons x xs ih => simp [PyData.hasDictAll, h x (List.mem_cons_self ..), ih fun q hq => h q (List.mem_cons_of_mem _ hq)]
theorem shortAll {xs : List PyData} (h : ∀ x ∈ xs, x.leavesShort 13 = true) : PyData.leavesShortAll 13 xs = true := by
  induction xs with
  | nil => simp [PyData.leavesShortAll]
  | cons x xs ih => simp [PyData.leavesShortAll, h x (List.mem_cons_self ..), ih fun q hq => h q (List.mem_cons_of_mem _ hq)]
theorem weightAll {w : Nat} {xs : List PyData} (h : ∀ x ∈ xs, x.weight ≤ w) : PyData.weightAll xs ≤ xs.length * (w + 1) := by
  induction xs with
  | nil => simp [PyData.weightAll]
  | cons x xs ih =>
    have h1 := h x (List.mem_cons_self ..)
    have h2 := ih fun q hq => h q (List.mem_cons_of_mem _ hq)
    simp only [PyData.weightAll, List.length_cons, Nat.add_mul, Nat.one_mul]
    omega
theorem Rp.tup {k w n : Nat} {xs : List PyData} (h : ∀ x ∈ xs, Rp k w x) (hn : xs.length ≤ n) : Rp (k + 1) (n * (w + 1)) (.tuple xs) :=
  ⟨by simp only [PyData.showable]; exact showAll fun x hx => (h x hx).show_, by simp only [PyData.hasDict]; exact dictAll fun x hx => (h x hx).dict,
    by simp only [PyData.depth]; exact Nat.succ_le_succ (depth_all fun p hp => (h p hp).depth), by simp only [PyData.leavesShort]; exact shortAll fun x hx => (h x hx).short,
    by simp only [PyData.weight]; exact Nat.le_trans (weightAll fun x hx => (h x hx).weight) (Nat.mul_le_mul_right _ hn), sok_tuple fun x hx => (h x hx).sok⟩
theorem Rp.lst {k w n : Nat} {xs : List PyData} (h : ∀ x ∈ xs, Rp k w x) (hn : xs.length ≤ n) : Rp (k + 1) (n * (w + 1)) (.list xs) :=
  ⟨by simp only [PyData.showable]; exact showAll fun x hx => (h x hx).show_, by simp only [PyData.hasDict]; exact dictAll fun x hx => (h x hx).dict,
    by simp only [PyData.depth]; exact Nat.succ_le_succ (depth_all fun p hp => (h p hp).depth), by simp only [PyData.leavesShort]; exact shortAll fun x hx => (h x hx).short,
    by simp only [PyData.weight]; exact Nat.le_trans (weightAll fun x hx => (h x hx).weight) (Nat.mul_le_mul_right _ hn), sok_list fun x hx => (h x hx).sok⟩
theorem Rp.up {k w k' w' : Nat} {p : PyData} (h : Rp k w p) (h1 : k ≤ k') (h2 : w ≤ w') : Rp k' w' p := ⟨h.show_, h.dict, Nat.le_trans h.depth h1, h.short, Nat.le_trans h.weight h2, h.sok⟩
theorem Rp.repr {k w : Nat} {p : PyData} (h : Rp k w p) (hk : k ≤ 60) (hw : w ≤ 2 ^ 20) : reprOk p = true := by
  unfold reprOk
  simp only [Bool.and_eq_true, Bool.not_eq_true', decide_eq_true_eq]
  exact ⟨⟨⟨⟨h.show_, h.dict⟩, Nat.le_trans h.depth hk⟩, h.short⟩, Nat.le_trans h.weight hw⟩
/-- a gate, a list of gates -/
theorem Rp.gate {s m : Nat} {g : Gate} (h : Shape s m g) (hg : IsGate s m g) (hs : s ≤ 20) (hm : m ≤ 200) : Rp 3 100000 (gateP g) := by
  have hr : ∀ r ∈ g, Rp 2 460 (rowP r) := fun r hr => by
    have hp : ∀ p ∈ r, Rp 1 22 (pairP p) := fun p hp => by
      obtain ⟨a, b⟩ := mem_allP.mp (hg.perm.mem_iff.mp (List.mem_flatten.mpr ⟨r, hr, hp⟩))
      refine Rp.tup (n := 2) (w := 10) (fun x hx => ?_) (Nat.le_refl _)
      simp only [List.mem_cons, List.not_mem_nil, or_false] at hx
      rcases hx with rfl | rfl
      · exact Rp.int (by omega)
      · exact Rp.int (by omega)
    refine Rp.tup (n := 20) (w := 22) (fun x hx => ?_) (by rw [List.length_map, h.rows r hr]; exact hs)
    obtain ⟨p, hp', rfl⟩ := List.mem_map.mp hx
    exact hp p hp'
  refine (Rp.tup (n := 200) (w := 460) (fun x hx => ?_) (by rw [List.length_map, h.len]; exact hm)).up (Nat.le_refl _) (by decide)
  obtain ⟨r, hr', rfl⟩ := List.mem_map.mp hx
  exact hr r hr'
end Pn
set_option Elab.async false
set_option linter.all false
set_option maxHeartbeats 1000000
set_option maxRecDepth 100000
namespace Pn
open PySem PySem.Spec L2 Dn
theorem op_neT {A : Store} {z : Str} (h : Sok z) : Op2 A vNe (.str z) (.str z) (.bl false) := op_neS (Da.str (k := 0) h.ok) (by decide)
/-- repr of a list of gates -/
theorem repr_gates {A : Store} {E : Dn.Env} {m : DE} {gs : List Gate} (h : EvL A E m (gs.map gateD)) (hg : ∀ g ∈ gs, Rp 3 100000 (gateP g)) (hl : gs.length ≤ 8) : Ev A E (dCall bRepr (aCons m aNil)) (.str (PyData.list (gs.map gateP)).shown) := by
  refine Ev.callL h fun S n hn => ?_
  have hr : Rp 4 (8 * 100001) (.list (gs.map gateP)) := Rp.lst (fun x hx => by
    obtain ⟨g, hg', rfl⟩ := List.mem_map.mp hx
    exact hg g hg') (by rw [List.length_map]; exact hl)
  unfold bRepr
  dsimp only
  rw [toPy_lst hn (pyWs_map gate_py gs)]
  dsimp only
  rw [if_pos (hr.repr (by decide) (by decide))]
noncomputable def dLaw04 : DS := den_law_k04 (dDef 2 4 den__law_box) FGate FBeside FAlike FDue FLook FTurned
section
variable {A : Store} {ns : List Int}
/-- the tests behind the gates -/
theorem lTail {s1 m1 s2 m2 s3 m3 : Nat} {a b c : Gate} {k n : Int} {nb : Nat} {x6 x7 x8 x9 : Option D} (ha : GG s1 m1 a) (hb : GG s2 m2 b) (hc : GG s3 m3 c) (x1 x2 : Option D) :
    ∀ S, A <+: S → ∃ E' g, (dSeq (dAsg (dCall bRepr (aCons (dLst (aCons (dVar 3) (aCons (dVar 4) (aCons (dVar 5) aNil)))) aNil)) (gNm 6)) (dSeq (dFor (iVal (dTup (aCons (dTup (aCons (dVar 3) (aCons (dVar 4) aNil))) (aCons (dTup (aCons (dVar 4) (aCons (dVar 3) aNil))) (aCons (dTup (aCons (dVar 3) (aCons (dVar 3) aNil))) (aCons (dTup (aCons (dVar 5) (aCons (dVar 4) aNil))) (aCons (dTup (aCons (dVar 3) (aCons (dVar 4) aNil))) aNil))))))) (gTp 2 (gsCons (gNm 7) (gsCons (gNm 8) gsNil))) (dSeq (dAsg (dCall FBeside (aCons (dVar 7) (aCons (dVar 8) aNil))) (gNm 9)) (dIf (dTOr (dTNot (dTest (dCall FAlike (aCons (dVar 9) (aCons (dCall FDue (aCons (dVar 7) (aCons (dVar 8) aNil))) aNil))))) (dTest (dBin vIsNot (dCall FLook (aCons (dVar 9) aNil)) (dC (.bl true))))) (dRet (dC (.bl false))) dNext))) (dSeq (dIf (dTest (dBin vNe (dCall FBeside (aCons (dCall FBeside (aCons (dVar 5) (aCons (dVar 3) aNil))) (aCons (dVar 4) aNil))) (dCall FBeside (aCons (dVar 5) (aCons (dCall FBeside (aCons (dVar 3) (aCons (dVar 4) aNil))) aNil))))) (dRet (dC (.bl false))) dNext) (dSeq (dIf (dTest (dBin vNe (dCall FTurned (aCons (dCall FBeside (aCons (dVar 3) (aCons (dVar 4) aNil))) aNil)) (dCall FBeside (aCons (dCall FTurned (aCons (dVar 3) aNil)) (aCons (dCall FTurned (aCons (dVar 4) aNil)) aNil))))) (dRet (dC (.bl false))) dNext) (dIf (dTest (dBin vNe (dCall bRepr (aCons (dLst (aCons (dVar 3) (aCons (dVar 4) (aCons (dVar 5) aNil)))) aNil)) (dVar 6))) (dRet (dC (.bl false))) dNext)))))
      (lEnv ns x1 x2 (some (gateD a)) (some (gateD b)) (some (gateD c)) x6 x7 x8 x9) S = .nx E' (S ++ g) ∧ ∃ x1 x2 x3 x4 x5 x6 x7 x8 x9, E' = lEnv ns x1 x2 x3 x4 x5 x6 x7 x8 x9 := by
  intro S hS
  have hs1 := ha.s1
  have hs2 := hb.s1
  have hs3 := hc.s1
  have hmab : m1 * m2 ≤ 5 * 5 := Nat.mul_le_mul ha.m1 hb.m1
  have hmca : m3 * m1 ≤ 5 * 5 := Nat.mul_le_mul hc.m1 ha.m1
  have hm0 := ha.m0
  have hm1 := hb.m0
  obtain ⟨z, hz⟩ : ∃ z, z = (PyData.list ([a, b, c].map gateP)).shown := ⟨_, rfl⟩
  have gab := isGate_beside ha.gate hb.gate hb.m0
  have gca := isGate_beside hc.gate ha.gate ha.m0
  have sab := shape_beside ha.shape hb.shape ha.gate hb.gate (by omega) (by omega)
  have sca := shape_beside hc.shape ha.shape hc.gate ha.gate (by omega) (by omega)
  have ta := isGate_turn ha.gate
  have tb := isGate_turn hb.gate
  have hrp : ∀ g ∈ [a, b, c], Rp 3 100000 (gateP g) := fun g hg => by
    simp only [List.mem_cons, List.not_mem_nil, or_false] at hg
    rcases hg with rfl | rfl | rfl
    · exact Rp.gate ha.shape ha.gate (by omega) (by have := ha.m1; omega)
    · exact Rp.gate hb.shape hb.gate (by omega) (by have := hb.m1; omega)
    · exact Rp.gate hc.shape hc.gate (by omega) (by have := hc.m1; omega)
  have hzs : Sok z := by
    rw [hz]
    exact sok_list fun x hx => by
      obtain ⟨g, hg, rfl⟩ := List.mem_map.mp hx
      exact (hrp g hg).sok
  have rep : ∀ {A : Store} {x6 x7 x8 x9 : Option D}, Ev A (lEnv ns x1 x2 (some (gateD a)) (some (gateD b)) (some (gateD c)) x6 x7 x8 x9) (dCall bRepr (aCons (dLst (aCons (dVar 3) (aCons (dVar 4) (aCons (dVar 5) aNil)))) aNil)) (.str z) := fun {A x6 x7 x8 x9} => by
    rw [hz]
    exact repr_gates (EvL.lst (.cons (.var rfl) (.cons (.var rfl) (.cons (.var rfl) .nil))) (show 3 ≤ sizeLine by decide)) hrp (show 3 ≤ 8 by decide)
  have k1 : EvN A (lEnv ns x1 x2 (some (gateD a)) (some (gateD b)) (some (gateD c)) x6 x7 x8 x9) (dAsg (dCall bRepr (aCons (dLst (aCons (dVar 3) (aCons (dVar 4) (aCons (dVar 5) aNil)))) aNil)) (gNm 6)) (lEnv ns x1 x2 (some (gateD a)) (some (gateD b)) (some (gateD c)) (some (.str z)) x7 x8 x9) := EvN.asg rep
  obtain ⟨g1, e1⟩ := k1 S hS
  have it : EvT A (lEnv ns x1 x2 (some (gateD a)) (some (gateD b)) (some (gateD c)) (some (.str z)) x7 x8 x9) (iVal (dTup (aCons (dTup (aCons (dVar 3) (aCons (dVar 4) aNil))) (aCons (dTup (aCons (dVar 4) (aCons (dVar 3) aNil))) (aCons (dTup (aCons (dVar 3) (aCons (dVar 3) aNil))) (aCons (dTup (aCons (dVar 5) (aCons (dVar 4) aNil))) (aCons (dTup (aCons (dVar 3) (aCons (dVar 4) aNil))) aNil))))))) [.tup [gateD a, gateD b], .tup [gateD b, gateD a], .tup [gateD a, gateD a], .tup [gateD c, gateD b], .tup [gateD a, gateD b]] :=
    EvT.tup (Ev.tup (.cons (Ev.tup2 (.var rfl) (.var rfl)) (.cons (Ev.tup2 (.var rfl) (.var rfl)) (.cons (Ev.tup2 (.var rfl) (.var rfl)) (.cons (Ev.tup2 (.var rfl) (.var rfl)) (.cons (Ev.tup2 (.var rfl) (.var rfl)) .nil))))) (show 5 ≤ sizeLine by decide))
  obtain ⟨E2, g2, e2, y7, y8, y9, rfl⟩ := forE (g := gTp 2 (gsCons (gNm 7) (gsCons (gNm 8) gsNil))) (body := (dSeq (dAsg (dCall FBeside (aCons (dVar 7) (aCons (dVar 8) aNil))) (gNm 9)) (dIf (dTOr (dTNot (dTest (dCall FAlike (aCons (dVar 9) (aCons (dCall FDue (aCons (dVar 7) (aCons (dVar 8) aNil))) aNil))))) (dTest (dBin vIsNot (dCall FLook (aCons (dVar 9) aNil)) (dC (.bl true))))) (dRet (dC (.bl false))) dNext)))
    (fun E => ∃ y7 y8 y9, E = lEnv ns x1 x2 (some (gateD a)) (some (gateD b)) (some (gateD c)) (some (.str z)) y7 y8 y9) it ⟨_, _, _, rfl⟩ (by
      rintro x hx E ⟨y7, y8, y9, rfl⟩
      simp only [List.mem_cons, List.not_mem_nil, or_false] at hx
      rcases hx with rfl | rfl | rfl | rfl | rfl
      · exact ⟨_, _, fun _ => rfl, lPair ha hb, _, _, _, rfl⟩
      · exact ⟨_, _, fun _ => rfl, lPair hb ha, _, _, _, rfl⟩
      · exact ⟨_, _, fun _ => rfl, lPair ha ha, _, _, _, rfl⟩
      · exact ⟨_, _, fun _ => rfl, lPair hc hb, _, _, _, rfl⟩
      · exact ⟨_, _, fun _ => rfl, lPair ha hb, _, _, _, rfl⟩) (pre_ext hS g1)
  have k3 : EvN A (lEnv ns x1 x2 (some (gateD a)) (some (gateD b)) (some (gateD c)) (some (.str z)) y7 y8 y9) (dIf (dTest (dBin vNe (dCall FBeside (aCons (dCall FBeside (aCons (dVar 5) (aCons (dVar 3) aNil))) (aCons (dVar 4) aNil))) (dCall FBeside (aCons (dVar 5) (aCons (dCall FBeside (aCons (dVar 3) (aCons (dVar 4) aNil))) aNil))))) (dRet (dC (.bl false))) dNext) (lEnv ns x1 x2 (some (gateD a)) (some (gateD b)) (some (gateD c)) (some (.str z)) y7 y8 y9) := by
    have l1 := Ev.call (A := A) (E := lEnv ns x1 x2 (some (gateD a)) (some (gateD b)) (some (gateD c)) (some (.str z)) y7 y8 y9) (.cons (Ev.call (.cons (.var (i := 5) rfl) (.cons (.var (i := 3) rfl) .nil)) (beside_ok hc.shape ha.shape)) (.cons (.var (i := 4) rfl) .nil)) (beside_ok sca hb.shape)
    have l2 := Ev.call (A := A) (E := lEnv ns x1 x2 (some (gateD a)) (some (gateD b)) (some (gateD c)) (some (.str z)) y7 y8 y9) (.cons (.var (i := 5) rfl) (.cons (Ev.call (.cons (.var (i := 3) rfl) (.cons (.var (i := 4) rfl) .nil)) (beside_ok ha.shape hb.shape)) .nil)) (beside_ok hc.shape sab)
    rw [beside_assoc hc.gate.len hc.gate.rows ha.gate.len ha.gate.rows hb.gate.len hb.gate.rows hm0 hm1] at l1
    exact EvN.ifF (EvB.test (Ev.bin l1 l2 op_neG)) .next
  have k4 : EvN A (lEnv ns x1 x2 (some (gateD a)) (some (gateD b)) (some (gateD c)) (some (.str z)) y7 y8 y9) (dIf (dTest (dBin vNe (dCall FTurned (aCons (dCall FBeside (aCons (dVar 3) (aCons (dVar 4) aNil))) aNil)) (dCall FBeside (aCons (dCall FTurned (aCons (dVar 3) aNil)) (aCons (dCall FTurned (aCons (dVar 4) aNil)) aNil))))) (dRet (dC (.bl false))) dNext) (lEnv ns x1 x2 (some (gateD a)) (some (gateD b)) (some (gateD c)) (some (.str z)) y7 y8 y9) := by
    have l1 := Ev.call (A := A) (E := lEnv ns x1 x2 (some (gateD a)) (some (gateD b)) (some (gateD c)) (some (.str z)) y7 y8 y9) (.cons (Ev.call (.cons (.var (i := 3) rfl) (.cons (.var (i := 4) rfl) .nil)) (beside_ok ha.shape hb.shape)) .nil) (turned_ok sab gab (by omega) (by omega))
    have l2 := Ev.call (A := A) (E := lEnv ns x1 x2 (some (gateD a)) (some (gateD b)) (some (gateD c)) (some (.str z)) y7 y8 y9) (.cons (Ev.call (.cons (.var (i := 3) rfl) .nil) (turned_ok ha.shape ha.gate (by omega) (by have := ha.m1; omega))) (.cons (Ev.call (.cons (.var (i := 4) rfl) .nil) (turned_ok hb.shape hb.gate (by omega) (by have := hb.m1; omega))) .nil)) (beside_ok (ta.shape ha.s0 ha.m0 (by omega) (by have := ha.m1; omega)) (tb.shape hb.s0 hb.m0 (by omega) (by have := hb.m1; omega)))
    rw [turn_beside ha.gate hb.gate hm1] at l1
    exact EvN.ifF (EvB.test (Ev.bin l1 l2 op_neG)) .next
  have k5 : EvN A (lEnv ns x1 x2 (some (gateD a)) (some (gateD b)) (some (gateD c)) (some (.str z)) y7 y8 y9) (dIf (dTest (dBin vNe (dCall bRepr (aCons (dLst (aCons (dVar 3) (aCons (dVar 4) (aCons (dVar 5) aNil)))) aNil)) (dVar 6))) (dRet (dC (.bl false))) dNext) (lEnv ns x1 x2 (some (gateD a)) (some (gateD b)) (some (gateD c)) (some (.str z)) y7 y8 y9) :=
    EvN.ifF (EvB.test (Ev.bin rep (.var (i := 6) rfl) (op_neT hzs))) .next
  obtain ⟨g3, e3⟩ := (k3.seq (k4.seq k5)) _ (pre_ext (pre_ext hS g1) g2)
  refine ⟨lEnv ns x1 x2 (some (gateD a)) (some (gateD b)) (some (gateD c)) (some (.str z)) y7 y8 y9, g1 ++ g2 ++ g3, (dSeq_nx e1).trans ((dSeq_nx e2).trans (e3.trans (by simp only [List.append_assoc]))), _, _, _, _, _, _, _, _, _, rfl⟩
/-- one turn of the law -/
theorem lTurn {k : Nat} {x2 x3 x4 x5 x6 x7 x8 x9 : Option D} (hk : k ≤ 1000000) (hl : ns.length ≤ 1000000) (T : DS) (hT : ∀ {s1 m1 s2 m2 s3 m3 : Nat} {a b c : Gate}, GG s1 m1 a → GG s2 m2 b → GG s3 m3 c → ∀ (x1 x2 : Option D) (S : Store), ∃ E' g, T (lEnv ns x1 x2 (some (gateD a)) (some (gateD b)) (some (gateD c)) x6 x7 x8 x9) S = .nx E' (S ++ g) ∧ ∃ x1 x2 x3 x4 x5 x6 x7 x8 x9, E' = lEnv ns x1 x2 x3 x4 x5 x6 x7 x8 x9) (S : Store) :
    ∃ E' S', dSeq (dAsg (dCall (dDef 2 4 den__law_box) (aCons (dVar 0) (aCons (dVar 1) aNil))) (gNm 2)) (dSeq (dPar [3, 4, 5] (aCons (dCall FGate (aCons (dVar 2) (aCons (dC (.int 4)) (aCons (dC (.int 5)) aNil)))) (aCons (dCall FGate (aCons (dVar 2) (aCons (dC (.int 4)) (aCons (dC (.int 5)) aNil)))) (aCons (dCall FGate (aCons (dVar 2) (aCons (dC (.int 2)) (aCons (dC (.int 3)) aNil)))) aNil)))) T) (lEnv ns (some (.int (k : Nat))) x2 x3 x4 x5 x6 x7 x8 x9) S = .nx E' S' ∧ ∃ x1 x2 x3 x4 x5 x6 x7 x8 x9, E' = lEnv ns x1 x2 x3 x4 x5 x6 x7 x8 x9 := by
  obtain ⟨v, s, g, e1⟩ := box_ok (A := S) (is := ns) hk hl
  obtain ⟨n, hn⟩ : ∃ n, n = (S ++ g).length := ⟨_, rfl⟩
  obtain ⟨S1, hS1⟩ : ∃ S1 : Store, S1 = S ++ g ++ [boxC v s 0] := ⟨_, rfl⟩
  rw [← hn, ← hS1] at e1
  have hb : S1[n]? = some (boxC v s 0) := by rw [hS1, hn]; exact at0
  have hnl : n < S1.length := (List.getElem?_eq_some_iff.mp hb).1
  have p1 : dAsg (dCall (dDef 2 4 den__law_box) (aCons (dVar 0) (aCons (dVar 1) aNil))) (gNm 2) (lEnv ns (some (.int (k : Nat))) x2 x3 x4 x5 x6 x7 x8 x9) S = .nx (lEnv ns (some (.int (k : Nat))) (some (.ref n)) x3 x4 x5 x6 x7 x8 x9) S1 := by
    have c : dCall (dDef 2 4 den__law_box) (aCons (dVar 0) (aCons (dVar 1) aNil)) (lEnv ns (some (.int (k : Nat))) x2 x3 x4 x5 x6 x7 x8 x9) S = .ok (.ref n) S1 := (call2 (x := .scr ns) (y := .int (k : Nat)) rfl rfl).trans e1
    rw [e_asg, c, R.toS_ok]
    rfl
  obtain ⟨a, v1, c1, d1, s1, m1, f1, i1, q1, q2, q3, q4⟩ := gateF_ok (sd := 4) (mk := 5) (by decide) (by decide) (by decide) (by decide) hb
  obtain ⟨b, v2, c2, d2, s2, m2, f2, i2, r1, r2, r3, r4⟩ := gateF_ok (A := S1.set n (boxC v1 c1 d1)) (sd := 4) (mk := 5) (by decide) (by decide) (by decide) (by decide) (List.getElem?_set_self hnl)
  rw [List.set_set] at f2
  obtain ⟨c, v3, c3, d3, s3, m3, f3, i3, t1, t2, t3, t4⟩ := gateF_ok (A := S1.set n (boxC v2 c2 d2)) (sd := 2) (mk := 3) (by decide) (by decide) (by decide) (by decide) (List.getElem?_set_self hnl)
  rw [List.set_set] at f3
  obtain ⟨E1, hE1⟩ : ∃ E1, E1 = lEnv ns (some (.int (k : Nat))) (some (.ref n)) x3 x4 x5 x6 x7 x8 x9 := ⟨_, rfl⟩
  have v2' : ∀ T, dVar 2 E1 T = .ok (.ref n) T := fun T => by rw [hE1]; rfl
  have p2 : dPar [3, 4, 5] (aCons (dCall FGate (aCons (dVar 2) (aCons (dC (.int 4)) (aCons (dC (.int 5)) aNil)))) (aCons (dCall FGate (aCons (dVar 2) (aCons (dC (.int 4)) (aCons (dC (.int 5)) aNil)))) (aCons (dCall FGate (aCons (dVar 2) (aCons (dC (.int 2)) (aCons (dC (.int 3)) aNil)))) aNil))) E1 S1 = .nx (lEnv ns (some (.int (k : Nat))) (some (.ref n)) (some (gateD a)) (some (gateD b)) (some (gateD c)) x6 x7 x8 x9) (S1.set n (boxC v3 c3 d3)) := by
    have z1 : dCall FGate (aCons (dVar 2) (aCons (dC (.int 4)) (aCons (dC (.int 5)) aNil))) E1 S1 = .ok (gateD a) (S1.set n (boxC v1 c1 d1)) := (call3 (v2' _) (by rfl) (by rfl)).trans f1
    have z2 : dCall FGate (aCons (dVar 2) (aCons (dC (.int 4)) (aCons (dC (.int 5)) aNil))) E1 (S1.set n (boxC v1 c1 d1)) = .ok (gateD b) (S1.set n (boxC v2 c2 d2)) := (call3 (v2' _) (by rfl) (by rfl)).trans f2
    have z3 : dCall FGate (aCons (dVar 2) (aCons (dC (.int 2)) (aCons (dC (.int 3)) aNil))) E1 (S1.set n (boxC v2 c2 d2)) = .ok (gateD c) (S1.set n (boxC v3 c3 d3)) := (call3 (v2' _) (by rfl) (by rfl)).trans f3
    unfold dPar
    rw [e_acons, z1, Dn.R.bind_ok, e_acons, z2, Dn.R.bind_ok, e_acons, z3, Dn.R.bind_ok, e_anil, Dn.R.bind_ok, Dn.R.bind_ok, Dn.R.bind_ok, R.toS_ok, hE1]
    rfl
  obtain ⟨E', g', e3, hI⟩ := hT (s1 := s1) (m1 := m1) (s2 := s2) (m2 := m2) (s3 := s3) (m3 := m3) ⟨i1, q1, q3, q2, q4⟩ ⟨i2, r1, r3, r2, r4⟩ ⟨i3, t1, t3, by omega, by omega⟩ (some (.int (k : Nat))) (some (.ref n)) (S1.set n (boxC v3 c3 d3))
  refine ⟨E', S1.set n (boxC v3 c3 d3) ++ g', (dSeq_nx p1).trans ?_, hI⟩
  rw [← hE1]
  exact (dSeq_nx p2).trans e3
theorem for_eq {it : DI} {g : DG} {m : DS} {E : Dn.Env} {S S1 : Store} {xs : List D} {chk : Store → Bool} (e : it E S = .ok (xs, chk) S1) : dFor it g m E S = forL chk g m xs E S1 := by rw [e_for, e, R.toS_ok]
theorem law04 (hl : ns.length ≤ 1000000) : ∃ st', dDef 1 10 dLaw04 [.scr ns] [] = .ok (.bl true) st' := by
  obtain ⟨N, hN, hN2⟩ : ∃ N : Nat, (if (if (ns.length : Int) < 4 then (ns.length : Int) else 4) > 2 then (if (ns.length : Int) < 4 then (ns.length : Int) else 4) else (2 : Int)) = (N : Nat) ∧ N ≤ 4 := by
    by_cases h4 : (ns.length : Int) < 4
    · rw [if_pos h4]
      by_cases h2 : (ns.length : Int) > 2
      · rw [if_pos h2]; exact ⟨ns.length, rfl, by omega⟩
      · rw [if_neg h2]; exact ⟨2, rfl, by omega⟩
    · rw [if_neg h4, if_pos (by decide)]; exact ⟨4, rfl, by omega⟩
  have it : EvT [] (lEnv ns none none none none none none none none none) (iRange1 (aCons (dCall bMax (aCons (dC (.int 2)) (aCons (dCall bMin (aCons (dC (.int 4)) (aCons (dCall bLen (aCons (dVar 0) aNil)) aNil))) aNil))) aNil)) (rngD 0 N) := by
    refine EvT.range ?_ (by omega)
    rw [← hN]
    exact Ev.call (.cons (.c _) (.cons (Ev.call (.cons (.c _) (.cons (Ev.call (.cons (.var (i := 0) (v := .scr ns) rfl) .nil) (fun _ _ => rfl)) .nil)) (fun _ _ => rfl)) .nil)) (fun _ _ => rfl)
  obtain ⟨g1, e1⟩ := it [] (List.prefix_refl _)
  obtain ⟨env', st', e2, h1⟩ := forL_run (chk := fun _ => true) (g := gNm 1) (m := _) (fun i env st => ∃ x1 x2 x3 x4 x5 x6 x7 x8 x9, env = lEnv ns x1 x2 x3 x4 x5 x6 x7 x8 x9) (fun _ _ _ _ => rfl) (xs := rngD 0 N) (i0 := 0) (env := lEnv ns none none none none none none none none none) (st := [] ++ g1) ⟨_, _, _, _, _, _, _, _, _, rfl⟩ (by
    rintro i x env st hx ⟨x1, x2, x3, x4, x5, x6, x7, x8, x9, rfl⟩
    obtain ⟨hi, rfl⟩ := rng_get hx
    obtain ⟨E', S', e, hI⟩ := lTurn (ns := ns) (k := i) (x2 := x2) (x3 := x3) (x4 := x4) (x5 := x5) (x6 := x6) (x7 := x7) (x8 := x8) (x9 := x9) (by omega) hl _ (fun {s1 m1 s2 m2 s3 m3 a b c} ha hb hc x1 x2 S => lTail (A := []) (k := 0) (n := 0) (nb := 0) ha hb hc x1 x2 S List.nil_prefix) st
    exact ⟨lEnv ns (some (.int (i : Nat))) x2 x3 x4 x5 x6 x7 x8 x9, st, E', S', rfl, e, hI⟩)
  refine ⟨st', dDef_rt rfl rfl ?_⟩
  exact (dSeq_nx ((for_eq e1).trans e2)).trans rfl
end
end Pn
set_option Elab.async false
set_option linter.all false
set_option maxHeartbeats 1000000
set_option maxRecDepth 100000
/-! Qn1: what is known of the slots: data, cells of their own; what stands elsewhere stands -/
namespace Qn
open PySem PySem.Spec L2 Dn Pn
inductive PV where
  | any | d (x : D) | c (o : Option Nat) (c : Cell)
abbrev PE := List PV
/-- cells of others -/
abbrev Fr := Nat → Option Cell
def Fr.add (f : Fr) (n : Nat) (c : Cell) : Fr := fun k => if k = n then some c else f k
def PvOk (f : Fr) (S : Store) (x : Option (Option D)) : PV → Prop
  | .any => True
  | .d v => x = some (some v)
  | .c o c => ∃ n, x = some (some (.ref n)) ∧ S[n]? = some c ∧ f n = none ∧ ∀ m, o = some m → n = m
structure Sd (f : Fr) (P : PE) (E : Dn.Env) (S : Store) : Prop where
  len : E.length = P.length
  fr : ∀ n c, f n = some c → S[n]? = some c
  at_ : ∀ (i : Nat) (p : PV), P[i]? = some p → PvOk f S E[i]? p
  sep : ∀ (i j : Nat) (o o' : Option Nat) (c c' : Cell) (n : Nat), P[i]? = some (.c o c) → P[j]? = some (.c o' c') → E[i]? = some (some (.ref n)) → E[j]? = some (some (.ref n)) → i = j
section
variable {f f' : Fr} {P P' P1 P2 : PE} {E E' : Dn.Env} {S S' g : Store} {i j n : Nat} {o : Option Nat} {c c' : Cell} {p : PV} {x v w : D}
theorem get_lt {c : Cell} (h : S[n]? = some c) : n < S.length := (List.getElem?_eq_some_iff.mp h).1
theorem Sd.cell (h : Sd f P E S) (hP : P[i]? = some (.c o c)) : ∃ n, E[i]? = some (some (.ref n)) ∧ S[n]? = some c ∧ f n = none ∧ ∀ m, o = some m → n = m := h.at_ i _ hP
theorem Sd.data (h : Sd f P E S) (hP : P[i]? = some (.d v)) : E[i]? = some (some v) := h.at_ i _ hP
theorem PvOk.grow {xo : Option (Option D)} (h : PvOk f S xo p) (g : Store) : PvOk f (S ++ g) xo p := by
  cases p with
  | any => trivial
  | d v => exact h
  | c o c =>
    obtain ⟨n, a, b, d⟩ := h
    exact ⟨n, a, by rw [List.getElem?_append_left (get_lt b), b], d⟩
theorem Sd.grow (h : Sd f P E S) (g : Store) : Sd f P E (S ++ g) :=
  ⟨h.len, fun n c e => by rw [List.getElem?_append_left (get_lt (h.fr n c e)), h.fr n c e], fun i p e => (h.at_ i p e).grow g, h.sep⟩
theorem Sd.fnew (h : Sd f P E S) (hn : S.length ≤ n) : f n = none := by
  cases e : f n with
  | none => rfl
  | some c =>
    have := get_lt (h.fr n c e)
    omega
theorem getS {α : Type} {l : List α} {a b : α} (h : (l.set i a)[j]? = some b) : (i = j ∧ a = b ∧ i < l.length) ∨ (i ≠ j ∧ l[j]? = some b) := by
  by_cases e : i = j
  · subst e
    have hl : i < l.length := by
      have := (List.getElem?_eq_some_iff.mp h).1
      simpa using this
    rw [List.getElem?_set_self hl] at h
    cases h
    exact .inl ⟨rfl, rfl, hl⟩
  · rw [List.getElem?_set_ne e] at h
    exact .inr ⟨e, h⟩
theorem Sd.set (h : Sd f P E S) (i : Nat) (p : PV) (x : Option D) (hp : PvOk f S (some x) p) (hs : ∀ o c n, p = .c o c → x = some (.ref n) → ∀ j o' c', j ≠ i → P[j]? = some (.c o' c') → E[j]? ≠ some (some (.ref n))) : Sd f (P.set i p) (E.set i x) S := by
  refine ⟨by rw [List.length_set, List.length_set, h.len], h.fr, fun j q e => ?_, fun a b oa ob ca cb n ha hb ea eb => ?_⟩
  · rcases getS e with ⟨rfl, rfl, hl⟩ | ⟨hne, e⟩
    · rw [List.getElem?_set_self (by rw [h.len]; exact hl)]
      exact hp
    · rw [List.getElem?_set_ne hne]
      exact h.at_ j q e
  · rcases getS ha with ⟨rfl, rfl, hl⟩ | ⟨na, ha'⟩
    · rcases getS hb with ⟨rfl, _, _⟩ | ⟨nb, hb'⟩
      · rfl
      · rw [List.getElem?_set_self (by rw [h.len]; exact hl)] at ea
        rw [List.getElem?_set_ne nb] at eb
        cases ea
        exact absurd eb (hs _ _ _ rfl rfl b ob cb (Ne.symm nb) hb')
    · rcases getS hb with ⟨rfl, rfl, hl⟩ | ⟨nb, hb'⟩
      · rw [List.getElem?_set_self (by rw [h.len]; exact hl)] at eb
        rw [List.getElem?_set_ne na] at ea
        cases eb
        exact absurd ea (hs _ _ _ rfl rfl a oa ca (Ne.symm na) ha')
      · rw [List.getElem?_set_ne na] at ea
        rw [List.getElem?_set_ne nb] at eb
        exact h.sep a b oa ob ca cb n ha' hb' ea eb
theorem Sd.setD (h : Sd f P E S) (i : Nat) (v : D) : Sd f (P.set i (.d v)) (E.set i (some v)) S := h.set i _ _ rfl fun _ _ _ z => by cases z
theorem Sd.setAny (h : Sd f P E S) (i : Nat) (x : Option D) : Sd f (P.set i .any) (E.set i x) S := h.set i _ _ trivial fun _ _ _ z => by cases z
theorem set_same {α : Type} {l : List α} {a : α} (h : l[i]? = some a) : l.set i a = l := by
  apply List.ext_getElem?
  intro j
  by_cases e : i = j
  · subst e; rw [List.getElem?_set_self (List.getElem?_eq_some_iff.mp h).1, h]
  · rw [List.getElem?_set_ne e]
theorem Sd.forget (h : Sd f P E S) (i : Nat) : Sd f (P.set i .any) E S := by
  cases e : E[i]? with
  | none =>
    have hl : P.length ≤ i := by
      rw [← h.len]
      exact List.getElem?_eq_none_iff.mp e
    rw [List.set_eq_of_length_le hl]
    exact h
  | some x =>
    have := h.setAny i x
    rw [set_same e] at this
    exact this
theorem Sd.write (h : Sd f P E S) (hP : P[i]? = some (.c o c)) (hE : E[i]? = some (some (.ref n))) (c' : Cell) : Sd f (P.set i (.c o c')) E (S.set n c') := by
  obtain ⟨n', e1, e2, e3, e4⟩ := h.cell hP
  rw [hE] at e1
  cases e1
  have hl := get_lt e2
  refine ⟨by rw [List.length_set]; exact h.len, fun k d e => ?_, fun j q e => ?_, fun a b oa ob ca cb m ha hb ea eb => ?_⟩
  · have hk : n ≠ k := fun z => by subst z; rw [e3] at e; cases e
    rw [List.getElem?_set_ne hk]
    exact h.fr k d e
  · rcases getS e with ⟨rfl, rfl, _⟩ | ⟨hne, e⟩
    · exact ⟨n, hE, List.getElem?_set_self hl, e3, e4⟩
    · have q0 := h.at_ j q e
      cases q with
      | any => trivial
      | d v => exact q0
      | c oj cj =>
        obtain ⟨m, a, b, d⟩ := q0
        have hm : n ≠ m := fun z => by subst z; exact hne (h.sep i j _ _ _ _ n hP e hE a)
        exact ⟨m, a, by rw [List.getElem?_set_ne hm]; exact b, d⟩
  · have get : ∀ (k : Nat) (ok : Option Nat) (ck : Cell), (P.set i (.c o c'))[k]? = some (.c ok ck) → ∃ (ok' : Option Nat) (ck' : Cell), P[k]? = some (.c ok' ck') := fun k ok ck e => by
      rcases getS e with ⟨rfl, _, _⟩ | ⟨_, e⟩
      · exact ⟨_, _, hP⟩
      · exact ⟨_, _, e⟩
    obtain ⟨_, _, ha'⟩ := get a _ _ ha
    obtain ⟨_, _, hb'⟩ := get b _ _ hb
    exact h.sep a b _ _ _ _ m ha' hb' ea eb
theorem Fr.add_same (f : Fr) : f.add n c n = some c := if_pos rfl
theorem Fr.add_ne (f : Fr) {k : Nat} (h : k ≠ n) : f.add n c k = f k := if_neg h
/-- fewer cells of others -/
theorem Sd.weak (h : Sd f' P E S) (hf : ∀ n c, f n = some c → f' n = some c) : Sd f P E S := by
  refine ⟨h.len, fun n c e => h.fr n c (hf n c e), fun i p e => ?_, h.sep⟩
  have q := h.at_ i p e
  cases p with
  | any => trivial
  | d v => exact q
  | c o c =>
    obtain ⟨n, a, b, d, k⟩ := q
    refine ⟨n, a, b, ?_, k⟩
    cases e : f n with
    | none => rfl
    | some c' => rw [hf n c' e] at d; cases d
theorem Sd.unadd (h : Sd (f.add n c) P E S) (hn : f n = none) : Sd f P E S := h.weak fun k d e => by
  by_cases z : k = n
  · subst z; rw [hn] at e; cases e
  · rw [Fr.add_ne f z, e]
theorem Sd.addc (h : Sd (f.add n c) P E S) : S[n]? = some c := h.fr n c (Fr.add_same f)
/-- a new cell -/
theorem Sd.alloc (h : Sd f P E S) (c : Cell) : Sd (f.add S.length c) P E (S ++ [c]) ∧ f S.length = none := by
  have hn : f S.length = none := h.fnew (Nat.le_refl _)
  have h1 := h.grow [c]
  refine ⟨⟨h.len, fun k d e => ?_, fun i p e => ?_, h.sep⟩, hn⟩
  · by_cases z : k = S.length
    · subst z
      rw [Fr.add_same] at e
      cases e
      simp
    · rw [Fr.add_ne f z] at e
      exact h1.fr k d e
  · have q := h.at_ i p e
    cases p with
    | any => trivial
    | d v => exact q
    | c o c' =>
      obtain ⟨m, a, b, d⟩ := q
      have hm := get_lt b
      exact ⟨m, a, by rw [List.getElem?_append_left hm, b], by rw [Fr.add_ne f (by omega)]; exact d.1, d.2⟩
/-- a new cell put into a slot -/
theorem Sd.take (h : Sd (f.add n c) P E S) (hn : f n = none) (i : Nat) : Sd f (P.set i (.c none c)) (E.set i (some (.ref n))) S := by
  refine (h.unadd hn).set i _ _ ⟨n, rfl, h.addc, hn, fun _ z => by cases z⟩ fun o' c'' n' z1 z2 j oj cj hj ej q => ?_
  cases z2
  obtain ⟨m, a, b, d, _⟩ := h.cell ej
  rw [q] at a
  cases a
  rw [Fr.add_same] at d
  cases d
/-- the slot's cell, its number told -/
theorem Sd.name (h : Sd f P E S) (hP : P[i]? = some (.c o c)) : ∃ n, Sd f (P.set i (.c (some n) c)) E S := by
  obtain ⟨n, e1, e2, e3, e4⟩ := h.cell hP
  have z := h.set i (.c (some n) c) (some (.ref n)) ⟨n, rfl, e2, e3, fun m z => by cases z; rfl⟩ fun o' c'' n' z1 z2 j oj cj hj ej q => by
    cases z2
    exact hj (h.sep j i _ _ _ _ n ej hP q e1)
  rw [set_same e1] at z
  exact ⟨n, z⟩
theorem Sd.unname (h : Sd f P E S) (hP : P[i]? = some (.c o c)) : Sd f (P.set i (.c none c)) E S := by
  obtain ⟨n, e1, e2, e3, e4⟩ := h.cell hP
  have z := h.set i (.c none c) (some (.ref n)) ⟨n, rfl, e2, e3, fun m z => by cases z⟩ fun o' c'' n' z1 z2 j oj cj hj ej q => by
    cases z2
    exact hj (h.sep j i _ _ _ _ n ej hP q e1)
  rw [set_same e1] at z
  exact z
/-- what is data, known of a slot ahead, is known of it behind -/
theorem Sd.know (h : Sd f P E S) (hE : E[i]? = some (some v)) : Sd f (P.set i (.d v)) E S := by
  have z := h.setD i v
  rw [set_same hE] at z
  exact z
end
end Qn
set_option Elab.async false
set_option linter.all false
set_option maxHeartbeats 1000000
set_option maxRecDepth 100000
/-! Qn2: expressions -/
namespace Qn
open PySem PySem.Spec L2 Dn Pn
/-! ### judgements -/
def Ex (P : PE) (m : DE) (v : D) (P' : PE) : Prop := ∀ f E S, Sd f P E S → ∃ S', m E S = .ok v S' ∧ Sd f P' E S'
def ExB (P : PE) (m : DB) (b : Bool) (P' : PE) : Prop := ∀ f E S, Sd f P E S → ∃ S', m E S = .ok b S' ∧ Sd f P' E S'
def ExA (P : PE) (m : DA) (vs : List D) (P' : PE) : Prop := ∀ f E S, Sd f P E S → ∃ S', m E S = .ok vs S' ∧ Sd f P' E S'
/-- a new cell -/
def ExN (P : PE) (m : DE) (c : Cell) (P' : PE) : Prop := ∀ f E S, Sd f P E S → ∃ n S', m E S = .ok (.ref n) S' ∧ f n = none ∧ Sd (f.add n c) P' E S'
def Sub (f f' : Fr) : Prop := ∀ n c, f n = some c → f' n = some c
theorem Sub.refl (f : Fr) : Sub f f := fun _ _ h => h
theorem Sub.trans {f g h : Fr} (a : Sub f g) (b : Sub g h) : Sub f h := fun n c e => b n c (a n c e)
theorem Sub.add {f : Fr} {n : Nat} {c : Cell} (h : f n = none) : Sub f (f.add n c) := fun k d e => by
  by_cases z : k = n
  · subst z; rw [h] at e; cases e
  · rw [Fr.add_ne f z, e]
theorem Sub.addS {f f' : Fr} (h : Sub f f') (n : Nat) (c : Cell) : Sub (f.add n c) (f'.add n c) := fun k d e => by
  by_cases z : k = n
  · subst z; rw [Fr.add_same] at e ⊢; exact e
  · rw [Fr.add_ne _ z] at e ⊢; exact h k d e
theorem Sub.none {f f' : Fr} {n : Nat} (h : Sub f f') (e : f' n = none) : f n = none := by
  cases q : f n with
  | none => rfl
  | some c => rw [h n c q] at e; cases e
/-- where a cell is held: by a slot, or newly -/
def Hold (f f' : Fr) (E : Dn.Env) (n : Nat) (c : Cell) : Option Nat → Prop
  | none => f n = none ∧ f' n = some c
  | some i => E[i]? = some (some (.ref n))
def Keep (P : PE) (c : Cell) : Option Nat → Prop
  | none => True
  | some i => ∃ o, P[i]? = some (.c o c)
def Hd (P : PE) (m : DE) (k : Option Nat) (c : Cell) (P' : PE) : Prop := ∀ f E S, Sd f P E S → ∃ n S' f', m E S = .ok (.ref n) S' ∧ Sd f' P' E S' ∧ Sub f f' ∧ Hold f f' E n c k
section
variable {f f' f'' : Fr} {P P' P0 P1 P2 P3 : PE} {E E' : Dn.Env} {S S' g : Store} {i j n : Nat} {o : Option Nat} {k k' : Option Nat} {c c' : Cell} {p : PV} {x y z v w : D} {m ma mb mc : DE} {a : DA} {xs ys vs : List D} {b b' : Bool} {nb nb' : DB}
theorem Hold.get (h : Hold f f' E n c k) (K : Keep P c k) (s : Sd f'' P E S) (u : Sub f' f'') : S[n]? = some c := by
  cases k with
  | none => exact s.fr n c (u n c h.2)
  | some i =>
    obtain ⟨o, e⟩ := K
    obtain ⟨n', e1, e2, _⟩ := s.cell e
    rw [h] at e1
    cases e1
    exact e2
theorem Ex.con (v : D) : Ex P (dC v) v P := fun f E S h => ⟨S, rfl, h⟩
theorem Ex.var (hv : P[i]? = some (.d v)) : Ex P (dVar i) v P := fun f E S h => ⟨S, by unfold dVar; rw [h.data hv], h⟩
theorem ExN.hd (h : ExN P m c P') : Hd P m none c P' := fun f E S s => by
  obtain ⟨n, S', e, hn, s'⟩ := h f E S s
  exact ⟨n, S', _, e, s', Sub.add hn, hn, Fr.add_same f⟩
theorem Hd.var (hv : P[i]? = some (.c o c)) : Hd P (dVar i) (some i) c P := fun f E S h => by
  obtain ⟨n, e1, _⟩ := h.cell hv
  exact ⟨n, S, f, by unfold dVar; rw [e1], h, Sub.refl f, e1⟩
theorem Hd.keep (h : Hd P m k c P') (hk : Keep P' c k) {f : Fr} {E : Dn.Env} {S : Store} (s : Sd f P E S) : ∃ n S', m E S = .ok (.ref n) S' ∧ Sd f P' E S' ∧ S'[n]? = some c := by
  obtain ⟨n, S', f', e, s', u, hh⟩ := h f E S s
  exact ⟨n, S', e, s'.weak u, hh.get hk s' (Sub.refl _)⟩
/-! ### operators -/
theorem Ex.bin {t : D → D → Store → R D} (ha : Ex P ma x P1) (hb : Ex P1 mb y P2) (ht : ∀ S, t x y S = .ok z S) : Ex P (dBin t ma mb) z P2 := fun f E S s => by
  obtain ⟨S1, e1, s1⟩ := ha f E S s
  obtain ⟨S2, e2, s2⟩ := hb f E S1 s1
  exact ⟨S2, by rw [e_Bin, e1, Dn.R.bind_ok, e2, Dn.R.bind_ok, ht], s2⟩
theorem Ex.un {t : D → Store → R D} (ha : Ex P ma x P1) (ht : ∀ S, t x S = .ok z S) : Ex P (dUn t ma) z P1 := fun f E S s => by
  obtain ⟨S1, e1, s1⟩ := ha f E S s
  exact ⟨S1, by rw [e_Un, e1, Dn.R.bind_ok, ht], s1⟩
/-- a held cell and data -/
theorem Ex.binH {t : D → D → Store → R D} (ha : Hd P ma k c P1) (hb : Ex P1 mb y P2) (hk : Keep P2 c k) (ht : ∀ S n, S[n]? = some c → t (.ref n) y S = .ok z S) : Ex P (dBin t ma mb) z P2 := fun f E S s => by
  obtain ⟨n, S1, f', e1, s1, u, hh⟩ := ha f E S s
  obtain ⟨S2, e2, s2⟩ := hb f' E S1 s1
  exact ⟨S2, by rw [e_Bin, e1, Dn.R.bind_ok, e2, Dn.R.bind_ok, ht _ _ (hh.get hk s2 (Sub.refl _))], s2.weak u⟩
/-- data and a held cell -/
theorem Ex.binD {t : D → D → Store → R D} (ha : Ex P ma x P1) (hb : Hd P1 mb k c P2) (hk : Keep P2 c k) (ht : ∀ S n, S[n]? = some c → t x (.ref n) S = .ok z S) : Ex P (dBin t ma mb) z P2 := fun f E S s => by
  obtain ⟨S1, e1, s1⟩ := ha f E S s
  obtain ⟨n, S2, e2, s2, h2⟩ := hb.keep hk s1
  exact ⟨S2, by rw [e_Bin, e1, Dn.R.bind_ok, e2, Dn.R.bind_ok, ht _ _ h2], s2⟩
theorem Ex.binHH {t : D → D → Store → R D} (ha : Hd P ma k c P1) (hb : Hd P1 mb k' c' P2) (hk : Keep P2 c k) (hk' : Keep P2 c' k') (ht : ∀ S n n', S[n]? = some c → S[n']? = some c' → t (.ref n) (.ref n') S = .ok z S) : Ex P (dBin t ma mb) z P2 := fun f E S s => by
  obtain ⟨n, S1, f1, e1, s1, u1, h1⟩ := ha f E S s
  obtain ⟨n', S2, f2, e2, s2, u2, h2⟩ := hb f1 E S1 s1
  exact ⟨S2, by rw [e_Bin, e1, Dn.R.bind_ok, e2, Dn.R.bind_ok, ht _ _ _ (h1.get hk s2 u2) (h2.get hk' s2 (Sub.refl _))], s2.weak (u1.trans u2)⟩
/-- what is new at the store's end, or further on -/
theorem Sd.newAt (s : Sd f P E S) (hn : S.length ≤ n) (hc : (S ++ g)[n]? = some c) : f n = none ∧ Sd (f.add n c) P E (S ++ g) := by
  have hf := s.fnew hn
  have s1 := s.grow g
  refine ⟨hf, s1.len, fun k d e => ?_, fun i p e => ?_, s1.sep⟩
  · by_cases q : k = n
    · subst q; rw [Fr.add_same] at e; cases e; exact hc
    · rw [Fr.add_ne f q] at e; exact s1.fr k d e
  · have q := s.at_ i p e
    cases p with
    | any => trivial
    | d v => exact q
    | c o c' =>
      obtain ⟨r, a, b, d⟩ := q
      have hr := get_lt b
      exact ⟨r, a, by rw [List.getElem?_append_left hr, b], by rw [Fr.add_ne f (by omega)]; exact d.1, d.2⟩
theorem ExN.binHH {t : D → D → Store → R D} (ha : Hd P ma k c P1) (hb : Hd P1 mb k' c' P2) (hk : Keep P2 c k) (hk' : Keep P2 c' k') {cz : Cell} (ht : ∀ S n n', S[n]? = some c → S[n']? = some c' → t (.ref n) (.ref n') S = .ok (.ref S.length) (S ++ [cz])) : ExN P (dBin t ma mb) cz P2 := fun f E S s => by
  obtain ⟨n, S1, f1, e1, s1, u1, h1⟩ := ha f E S s
  obtain ⟨n', S2, f2, e2, s2, u2, h2⟩ := hb f1 E S1 s1
  obtain ⟨q1, q2⟩ := (s2.weak (u1.trans u2)).newAt (g := [cz]) (n := S2.length) (c := cz) (Nat.le_refl _) (by simp)
  exact ⟨_, _, by rw [e_Bin, e1, Dn.R.bind_ok, e2, Dn.R.bind_ok, ht _ _ _ (h1.get hk s2 u2) (h2.get hk' s2 (Sub.refl _))], q1, q2⟩
theorem ExN.binH {t : D → D → Store → R D} (ha : Hd P ma k c P1) (hb : Ex P1 mb y P2) (hk : Keep P2 c k) {cz : Cell} (ht : ∀ S n, S[n]? = some c → t (.ref n) y S = .ok (.ref S.length) (S ++ [cz])) : ExN P (dBin t ma mb) cz P2 := fun f E S s => by
  obtain ⟨n, S1, f1, e1, s1, u1, h1⟩ := ha f E S s
  obtain ⟨S2, e2, s2⟩ := hb f1 E S1 s1
  obtain ⟨q1, q2⟩ := (s2.weak u1).newAt (g := [cz]) (n := S2.length) (c := cz) (Nat.le_refl _) (by simp)
  exact ⟨_, _, by rw [e_Bin, e1, Dn.R.bind_ok, e2, Dn.R.bind_ok, ht _ _ (h1.get hk s2 (Sub.refl _))], q1, q2⟩
theorem ExN.unH {t : D → Store → R D} (ha : Hd P ma k c P1) (hk : Keep P1 c k) {cz : Cell} (ht : ∀ S n, S[n]? = some c → t (.ref n) S = .ok (.ref S.length) (S ++ [cz])) : ExN P (dUn t ma) cz P1 := fun f E S s => by
  obtain ⟨n, S1, e1, s1, h1⟩ := ha.keep hk s
  obtain ⟨q1, q2⟩ := s1.newAt (g := [cz]) (n := S1.length) (c := cz) (Nat.le_refl _) (by simp)
  exact ⟨_, _, by rw [e_Un, e1, Dn.R.bind_ok, ht _ _ h1], q1, q2⟩
/-! ### truths -/
theorem ExB.test (h : Ex P m (.bl b) P') : ExB P (dTest m) b P' := fun f E S s => by
  obtain ⟨S1, e1, s1⟩ := h f E S s
  exact ⟨S1, by rw [e_Test, e1, Dn.R.bind_ok], s1⟩
theorem ExB.yes : ExB P dYes true P := fun f E S s => ⟨S, rfl, s⟩
theorem ExB.not (h : ExB P nb b P') : ExB P (dTNot nb) (!b) P' := fun f E S s => by
  obtain ⟨S1, e1, s1⟩ := h f E S s
  exact ⟨S1, by unfold dTNot; rw [e1, Dn.R.bind_ok], s1⟩
theorem ExB.orT (h : ExB P nb true P') : ExB P (dTOr nb nb') true P' := fun f E S s => by
  obtain ⟨S1, e1, s1⟩ := h f E S s
  exact ⟨S1, by unfold dTOr; rw [e1, Dn.R.bind_ok]; rfl, s1⟩
theorem ExB.orF (h : ExB P nb false P1) (h' : ExB P1 nb' b' P') : ExB P (dTOr nb nb') b' P' := fun f E S s => by
  obtain ⟨S1, e1, s1⟩ := h f E S s
  obtain ⟨S2, e2, s2⟩ := h' f E S1 s1
  exact ⟨S2, by unfold dTOr; rw [e1, Dn.R.bind_ok]; exact e2, s2⟩
theorem ExB.andF (h : ExB P nb false P') : ExB P (dTAnd nb nb') false P' := fun f E S s => by
  obtain ⟨S1, e1, s1⟩ := h f E S s
  exact ⟨S1, by unfold dTAnd; rw [e1, Dn.R.bind_ok]; rfl, s1⟩
theorem ExB.andT (h : ExB P nb true P1) (h' : ExB P1 nb' b' P') : ExB P (dTAnd nb nb') b' P' := fun f E S s => by
  obtain ⟨S1, e1, s1⟩ := h f E S s
  obtain ⟨S2, e2, s2⟩ := h' f E S1 s1
  exact ⟨S2, by unfold dTAnd; rw [e1, Dn.R.bind_ok]; exact e2, s2⟩
theorem ExB.or (h : ExB P nb b P) (h' : b = false → ExB P nb' b' P) : ExB P (dTOr nb nb') (b || b') P := by
  cases b with
  | true => exact ExB.orT h
  | false => exact ExB.orF h (h' rfl)
theorem ExB.and (h : ExB P nb b P) (h' : b = true → ExB P nb' b' P) : ExB P (dTAnd nb nb') (b && b') P := by
  cases b with
  | false => exact ExB.andF h
  | true => exact ExB.andT h (h' rfl)
theorem Ex.andF (h : Ex P ma (.bl false) P') : Ex P (dAnd ma mb) (.bl false) P' := fun f E S s => by
  obtain ⟨S1, e1, s1⟩ := h f E S s
  exact ⟨S1, by unfold dAnd; rw [e1, Dn.R.bind_ok], s1⟩
theorem Ex.andT (h : Ex P ma (.bl true) P1) (h' : Ex P1 mb v P') : Ex P (dAnd ma mb) v P' := fun f E S s => by
  obtain ⟨S1, e1, s1⟩ := h f E S s
  obtain ⟨S2, e2, s2⟩ := h' f E S1 s1
  exact ⟨S2, by unfold dAnd; rw [e1, Dn.R.bind_ok]; exact e2, s2⟩
theorem Ex.and (h : Ex P ma (.bl b) P) (h' : b = true → Ex P mb (.bl b') P) : Ex P (dAnd ma mb) (.bl (b && b')) P := by
  cases b with
  | false => exact Ex.andF h
  | true => exact Ex.andT h (h' rfl)
theorem Ex.orT (h : Ex P ma (.bl true) P') : Ex P (dOr ma mb) (.bl true) P' := fun f E S s => by
  obtain ⟨S1, e1, s1⟩ := h f E S s
  exact ⟨S1, by unfold dOr; rw [e1, Dn.R.bind_ok], s1⟩
theorem Ex.orF (h : Ex P ma (.bl false) P1) (h' : Ex P1 mb v P') : Ex P (dOr ma mb) v P' := fun f E S s => by
  obtain ⟨S1, e1, s1⟩ := h f E S s
  obtain ⟨S2, e2, s2⟩ := h' f E S1 s1
  exact ⟨S2, by unfold dOr; rw [e1, Dn.R.bind_ok]; exact e2, s2⟩
theorem Ex.or (h : Ex P ma (.bl b) P) (h' : b = false → Ex P mb (.bl b') P) : Ex P (dOr ma mb) (.bl (b || b')) P := by
  cases b with
  | true => exact Ex.orT h
  | false => exact Ex.orF h (h' rfl)
theorem Ex.not (h : Ex P ma (.bl b) P') : Ex P (dNot ma) (.bl !b) P' := fun f E S s => by
  obtain ⟨S1, e1, s1⟩ := h f E S s
  exact ⟨S1, by unfold dNot; rw [e1, Dn.R.bind_ok], s1⟩
theorem Ex.chainT {t t' : D → D → Store → R D} (ha : Ex P ma x P1) (hb : Ex P1 mb y P2) (ht : ∀ S, t x y S = .ok (.bl true) S) (hc : Ex P2 mc z P3) (ht' : ∀ S, t' y z S = .ok v S) : Ex P (dChain t t' ma mb mc) v P3 := fun f E S s => by
  obtain ⟨S1, e1, s1⟩ := ha f E S s
  obtain ⟨S2, e2, s2⟩ := hb f E S1 s1
  obtain ⟨S3, e3, s3⟩ := hc f E S2 s2
  refine ⟨S3, ?_, s3⟩
  unfold dChain
  rw [e1, Dn.R.bind_ok, e2, Dn.R.bind_ok, ht, Dn.R.bind_ok]
  dsimp only
  rw [e3, Dn.R.bind_ok, ht']
theorem Ex.chainF {t t' : D → D → Store → R D} (ha : Ex P ma x P1) (hb : Ex P1 mb y P2) (ht : ∀ S, t x y S = .ok (.bl false) S) : Ex P (dChain t t' ma mb mc) (.bl false) P2 := fun f E S s => by
  obtain ⟨S1, e1, s1⟩ := ha f E S s
  obtain ⟨S2, e2, s2⟩ := hb f E S1 s1
  refine ⟨S2, ?_, s2⟩
  unfold dChain
  rw [e1, Dn.R.bind_ok, e2, Dn.R.bind_ok, ht, Dn.R.bind_ok]
/-- a chain of comparisons of whole numbers -/
theorem Ex.chain {q q' : Int → Int → Bool} {a b d : Int} (ha : Ex P ma (.int a) P) (hb : Ex P mb (.int b) P) (hc : Ex P mc (.int d) P) : Ex P (dChain (vCmp q) (vCmp q') ma mb mc) (.bl (q a b && q' b d)) P := by
  cases e : q a b with
  | false => exact Ex.chainF ha hb (fun S => by rw [e_cmp, e])
  | true => exact Ex.chainT ha hb (fun S => by rw [e_cmp, e]) hc (fun S => by rw [e_cmp]; rfl)
theorem Ex.ifT (h : ExB P nb true P1) (h' : Ex P1 ma v P') : Ex P (dIfE nb ma mb) v P' := fun f E S s => by
  obtain ⟨S1, e1, s1⟩ := h f E S s
  obtain ⟨S2, e2, s2⟩ := h' f E S1 s1
  exact ⟨S2, by unfold dIfE; rw [e1, Dn.R.bind_ok]; exact e2, s2⟩
theorem Ex.ifF (h : ExB P nb false P1) (h' : Ex P1 mb v P') : Ex P (dIfE nb ma mb) v P' := fun f E S s => by
  obtain ⟨S1, e1, s1⟩ := h f E S s
  obtain ⟨S2, e2, s2⟩ := h' f E S1 s1
  exact ⟨S2, by unfold dIfE; rw [e1, Dn.R.bind_ok]; exact e2, s2⟩
/-! ### several -/
theorem ExA.nil : ExA P aNil [] P := fun f E S s => ⟨S, rfl, s⟩
theorem ExA.cons (h : Ex P m x P1) (h' : ExA P1 a xs P') : ExA P (aCons m a) (x :: xs) P' := fun f E S s => by
  obtain ⟨S1, e1, s1⟩ := h f E S s
  obtain ⟨S2, e2, s2⟩ := h' f E S1 s1
  exact ⟨S2, by rw [e_acons, e1, Dn.R.bind_ok, e2, Dn.R.bind_ok], s2⟩
theorem ExA.one (h : Ex P m x P') : ExA P (aCons m aNil) [x] P' := .cons h .nil
theorem ExA.two (h : Ex P ma x P1) (h' : Ex P1 mb y P') : ExA P (aCons ma (aCons mb aNil)) [x, y] P' := .cons h (.one h')
theorem Ex.tup (h : ExA P a xs P') (hl : xs.length ≤ sizeLine) : Ex P (dTup a) (.tup xs) P' := fun f E S s => by
  obtain ⟨S1, e1, s1⟩ := h f E S s
  exact ⟨S1, by rw [e_tup, e1, Dn.R.bind_ok, mkTup_ok hl], s1⟩
theorem le_sl {n : Nat} (h : n ≤ 1000 := by decide) : n ≤ sizeLine := sl_ge n (by omega)
theorem Ex.tup2 (h : Ex P ma x P1) (h' : Ex P1 mb y P') : Ex P (dTup (aCons ma (aCons mb aNil))) (.tup [x, y]) P' := Ex.tup (.two h h') (show 2 ≤ sizeLine from le_sl)
theorem ExN.lst (h : ExA P a xs P') (hl : xs.length ≤ sizeLine) : ExN P (dLst a) (.lst xs) P' := fun f E S s => by
  obtain ⟨S1, e1, s1⟩ := h f E S s
  obtain ⟨q1, q2⟩ := s1.newAt (g := [.lst xs]) (n := S1.length) (c := .lst xs) (Nat.le_refl _) (by simp)
  exact ⟨_, _, by rw [e_lst, e1, Dn.R.bind_ok, mkLst_ok hl], q1, q2⟩
theorem ExN.nil : ExN P (dLst aNil) (.lst []) P := .lst .nil (Nat.zero_le _)
theorem ExN.newT : ExN P dNewT (.dT []) P := fun f E S s => by
  obtain ⟨q1, q2⟩ := s.newAt (g := [.dT []]) (n := S.length) (c := .dT []) (Nat.le_refl _) (by simp)
  exact ⟨_, _, rfl, q1, q2⟩
theorem ExN.newK : ExN P dNewK (.dK []) P := fun f E S s => by
  obtain ⟨q1, q2⟩ := s.newAt (g := [.dK []]) (n := S.length) (c := .dK []) (Nat.le_refl _) (by simp)
  exact ⟨_, _, rfl, q1, q2⟩
theorem Ex.call {F : DF} (h : ExA P a xs P') (hF : ∀ S, F xs S = .ok v S) : Ex P (dCall F a) v P' := fun f E S s => by
  obtain ⟨S1, e1, s1⟩ := h f E S s
  exact ⟨S1, by rw [e_call, e1, Dn.R.bind_ok, hF], s1⟩
theorem Ex.callF {F : DF} (h : ExA P a xs P') (hF : OpF [] F xs v) : Ex P (dCall F a) v P' := Ex.call h fun S => hF S List.nil_prefix
/-- of one held cell -/
theorem Ex.callH {F : DF} (h : Hd P m k c P') (hk : Keep P' c k) (hF : ∀ S n, S[n]? = some c → F [.ref n] S = .ok v S) : Ex P (dCall F (aCons m aNil)) v P' := fun f E S s => by
  obtain ⟨n, S1, e1, s1, h1⟩ := h.keep hk s
  exact ⟨S1, by rw [e_call, e_acons, e1, Dn.R.bind_ok, e_anil, Dn.R.bind_ok, Dn.R.bind_ok, hF _ _ h1], s1⟩
theorem ExN.callH {F : DF} (h : Hd P m k c P') (hk : Keep P' c k) {cz : Cell} (hF : ∀ S n, S[n]? = some c → F [.ref n] S = .ok (.ref S.length) (S ++ [cz])) : ExN P (dCall F (aCons m aNil)) cz P' := fun f E S s => by
  obtain ⟨n, S1, e1, s1, h1⟩ := h.keep hk s
  obtain ⟨q1, q2⟩ := s1.newAt (g := [cz]) (n := S1.length) (c := cz) (Nat.le_refl _) (by simp)
  exact ⟨_, _, by rw [e_call, e_acons, e1, Dn.R.bind_ok, e_anil, Dn.R.bind_ok, Dn.R.bind_ok, hF _ _ h1], q1, q2⟩
theorem ExN.call {F : DF} (h : ExA P a xs P') (hF : ∀ S, ∃ n g, F xs S = .ok (.ref n) (S ++ g) ∧ S.length ≤ n ∧ (S ++ g)[n]? = some c) : ExN P (dCall F a) c P' := fun f E S s => by
  obtain ⟨S1, e1, s1⟩ := h f E S s
  obtain ⟨n, g, e2, hn, hc⟩ := hF S1
  obtain ⟨q1, q2⟩ := s1.newAt hn hc
  exact ⟨_, _, by rw [e_call, e1, Dn.R.bind_ok, e2], q1, q2⟩
theorem Ex.len (h : Ex P m (.tup xs) P') : Ex P (dCall bLen (aCons m aNil)) (.int xs.length) P' := Ex.call (.one h) fun _ => rfl
theorem Ex.lenH (h : Hd P m k (.lst xs) P') (hk : Keep P' (.lst xs) k) : Ex P (dCall bLen (aCons m aNil)) (.int xs.length) P' := Ex.callH h hk fun _ _ e => len_at e
theorem Ex.tupleH (h : Hd P m k (.lst xs) P') (hk : Keep P' (.lst xs) k) : Ex P (dCall bTuple (aCons m aNil)) (.tup xs) P' := Ex.callH h hk fun _ _ e => tuple_at e
theorem Ex.tupleN (h : ExN P m (.lst xs) P') : Ex P (dCall bTuple (aCons m aNil)) (.tup xs) P' := Ex.tupleH h.hd trivial
theorem Ex.allN {α : Type} {t : α → Bool} {l : List α} (h : ExN P m (.lst (l.map fun a => D.bl (t a))) P') : Ex P (dCall bAll (aCons m aNil)) (.bl (l.all t)) P' := Ex.callH h.hd trivial fun _ _ e => all_at e
/-! ### arguments, held cells among them -/
inductive Arg where
  | d (v : D) | h (k : Option Nat) (c : Cell)
def ArgOk (f f' : Fr) (E : Dn.Env) (x : D) : Arg → Prop
  | .d v => x = v
  | .h k c => ∃ n, x = .ref n ∧ Hold f f' E n c k
def ArgsOk (f f' : Fr) (E : Dn.Env) : List D → List Arg → Prop
  | [], [] => True
  | x :: xs, a :: as => ArgOk f f' E x a ∧ ArgsOk f f' E xs as
  | _, _ => False
def freshA : List D → List Arg → List Nat
  | .ref n :: xs, .h none _ :: as => n :: freshA xs as
  | _ :: xs, _ :: as => freshA xs as
  | _, _ => []
def ExM (P : PE) (a : DA) (as : List Arg) (P' : PE) : Prop := ∀ f E S, Sd f P E S → ∃ xs S' f', a E S = .ok xs S' ∧ Sd f' P' E S' ∧ Sub f f' ∧ ArgsOk f f' E xs as ∧ (freshA xs as).Nodup ∧ ∀ n ∈ freshA xs as, f n = none
theorem Hold.sub {f0 : Fr} (h : Hold f f' E n c k) (u : Sub f' f'') (u0 : Sub f0 f) : Hold f0 f'' E n c k := by
  cases k with
  | none => exact ⟨u0.none h.1, u _ _ h.2⟩
  | some i => exact h
theorem ArgsOk.sub {f0 : Fr} (u : Sub f' f'') (u0 : Sub f0 f) : ∀ {xs : List D} {as : List Arg}, ArgsOk f f' E xs as → ArgsOk f0 f'' E xs as
  | [], [], h => h
  | x :: xs, .d v :: as, h => ⟨h.1, ArgsOk.sub u u0 h.2⟩
  | x :: xs, .h k c :: as, h => ⟨let ⟨n, a, b⟩ := h.1; ⟨n, a, b.sub u u0⟩, ArgsOk.sub u u0 h.2⟩
theorem ExM.nil : ExM P aNil [] P := fun f E S s => ⟨[], S, f, rfl, s, Sub.refl f, trivial, .nil, fun n h => by cases h⟩
theorem ExM.cons {as : List Arg} (h : Ex P m x P1) (h' : ExM P1 a as P') : ExM P (aCons m a) (.d x :: as) P' := fun f E S s => by
  obtain ⟨S1, e1, s1⟩ := h f E S s
  obtain ⟨xs, S2, f', e2, s2, u, q1, q2, q3⟩ := h' f E S1 s1
  have e : freshA (x :: xs) (.d x :: as) = freshA xs as := by cases x <;> rfl
  exact ⟨x :: xs, S2, f', by rw [e_acons, e1, Dn.R.bind_ok, e2, Dn.R.bind_ok], s2, u, ⟨rfl, q1⟩, by rw [e]; exact q2, by rw [e]; exact q3⟩
theorem ExM.consH {as : List Arg} (h : Hd P m k c P1) (h' : ExM P1 a as P') : ExM P (aCons m a) (.h k c :: as) P' := fun f E S s => by
  obtain ⟨n, S1, f1, e1, s1, u1, hh⟩ := h f E S s
  obtain ⟨xs, S2, f', e2, s2, u, q1, q2, q3⟩ := h' f1 E S1 s1
  refine ⟨.ref n :: xs, S2, f', by rw [e_acons, e1, Dn.R.bind_ok, e2, Dn.R.bind_ok], s2, u1.trans u, ⟨⟨n, rfl, hh.sub u (Sub.refl _)⟩, q1.sub (Sub.refl _) u1⟩, ?_, ?_⟩
  · cases k with
    | none =>
      show (n :: freshA xs as).Nodup
      refine List.nodup_cons.mpr ⟨fun z => ?_, q2⟩
      have := q3 n z
      rw [hh.2] at this
      cases this
    | some i => exact q2
  · cases k with
    | none =>
      intro r hr
      rcases List.mem_cons.mp hr with rfl | hr
      · exact hh.1
      · exact u1.none (q3 r hr)
    | some i => exact fun r hr => u1.none (q3 r hr)
theorem ExM.consN {as : List Arg} (h : ExN P m c P1) (h' : ExM P1 a as P') : ExM P (aCons m a) (.h none c :: as) P' := .consH h.hd h'
def KeepA (P : PE) : Arg → Prop
  | .d _ => True
  | .h k c => Keep P c k
def KeepAs (P : PE) : List Arg → Prop
  | [] => True
  | a :: as => KeepA P a ∧ KeepAs P as
/-- what the cells of the arguments hold -/
def Args (S : Store) : List D → List Arg → Prop
  | [], [] => True
  | x :: xs, .d v :: as => x = v ∧ Args S xs as
  | x :: xs, .h _ c :: as => (∃ n, x = .ref n ∧ S[n]? = some c) ∧ Args S xs as
  | _, _ => False
theorem ArgsOk.args (s : Sd f' P E S) : ∀ {xs : List D} {as : List Arg}, ArgsOk f f' E xs as → KeepAs P as → Args S xs as
  | [], [], _, _ => trivial
  | x :: xs, .d v :: as, h, hk => ⟨h.1, ArgsOk.args s h.2 hk.2⟩
  | x :: xs, .h k c :: as, h, hk => ⟨let ⟨n, a, b⟩ := h.1; ⟨n, a, b.get hk.1 s (Sub.refl _)⟩, ArgsOk.args s h.2 hk.2⟩
theorem Ex.callM {F : DF} {as : List Arg} (h : ExM P a as P') (hk : KeepAs P' as) (hF : ∀ S xs, Args S xs as → F xs S = .ok v S) : Ex P (dCall F a) v P' := fun f E S s => by
  obtain ⟨xs, S1, f', e1, s1, u, q1, _, _⟩ := h f E S s
  exact ⟨S1, by rw [e_call, e1, Dn.R.bind_ok, hF _ _ (q1.args s1 hk)], s1.weak u⟩
theorem ExN.callM {F : DF} {as : List Arg} (h : ExM P a as P') (hk : KeepAs P' as) (hF : ∀ S xs, Args S xs as → ∃ n g, F xs S = .ok (.ref n) (S ++ g) ∧ S.length ≤ n ∧ (S ++ g)[n]? = some c) : ExN P (dCall F a) c P' := fun f E S s => by
  obtain ⟨xs, S1, f', e1, s1, u, q1, _, _⟩ := h f E S s
  obtain ⟨n, g, e2, hn, hc⟩ := hF _ _ (q1.args s1 hk)
  obtain ⟨r1, r2⟩ := (s1.weak u).newAt hn hc
  exact ⟨_, _, by rw [e_call, e1, Dn.R.bind_ok, e2], r1, r2⟩
/-- a call that changes the cell of its first argument, a slot's -/
theorem Ex.callW {F : DF} {as : List Arg} (h : ExM P a (.h (some i) c :: as) P') (hP : P'[i]? = some (.c o c)) (hk : KeepAs P' as) (hF : ∀ S n xs, S[n]? = some c → Args S xs as → F (.ref n :: xs) S = .ok v (S.set n c')) : Ex P (dCall F a) v (P'.set i (.c o c')) := fun f E S s => by
  obtain ⟨xs, S1, f', e1, s1, u, q1, _, _⟩ := h f E S s
  cases xs with
  | nil => exact q1.elim
  | cons x xs =>
    obtain ⟨⟨n, rfl, hn⟩, q2⟩ := q1
    have hc : S1[n]? = some c := Hold.get (k := some i) hn ⟨o, hP⟩ s1 (Sub.refl _)
    exact ⟨_, by rw [e_call, e1, Dn.R.bind_ok, hF _ _ _ hc (q2.args s1 hk)], (s1.weak u).write hP hn c'⟩
theorem ExN.callW {F : DF} {as : List Arg} {cz : Cell} (h : ExM P a (.h (some i) c :: as) P') (hP : P'[i]? = some (.c o c)) (hk : KeepAs P' as) (hF : ∀ S n xs, S[n]? = some c → Args S xs as → ∃ m g, F (.ref n :: xs) S = .ok (.ref m) (S.set n c' ++ g) ∧ S.length ≤ m ∧ (S.set n c' ++ g)[m]? = some cz) : ExN P (dCall F a) cz (P'.set i (.c o c')) := fun f E S s => by
  obtain ⟨xs, S1, f', e1, s1, u, q1, _, _⟩ := h f E S s
  cases xs with
  | nil => exact q1.elim
  | cons x xs =>
    obtain ⟨⟨n, rfl, hn⟩, q2⟩ := q1
    have hc : S1[n]? = some c := Hold.get (k := some i) hn ⟨o, hP⟩ s1 (Sub.refl _)
    obtain ⟨m, g, e2, hm, hcz⟩ := hF _ _ _ hc (q2.args s1 hk)
    have s2 := (s1.weak u).write hP hn c'
    obtain ⟨r1, r2⟩ := s2.newAt (by simpa using hm) hcz
    exact ⟨_, _, by rw [e_call, e1, Dn.R.bind_ok, e2], r1, r2⟩
end
end Qn
set_option Elab.async false
set_option linter.all false
set_option maxHeartbeats 1000000
set_option maxRecDepth 100000
/-! Qn3: targets, statements, loops, comprehensions, defs -/
namespace Qn
open PySem PySem.Spec L2 Dn Pn
/-! ### statements -/
inductive Out where
  | nx (P : PE) | rt (v : D) (P : PE) | rn (c : Cell) (P : PE) | ex (x : Xc) (P : PE) | bk (P : PE) | ct (P : PE)
def Fits (f : Fr) : RS → Out → Prop
  | .nx E S, .nx P => Sd f P E S
  | .rt d S, .rt v P => d = v ∧ ∃ E, Sd f P E S
  | .rt d S, .rn c P => ∃ n E, d = .ref n ∧ f n = none ∧ Sd (f.add n c) P E S
  | .ex x E S, .ex y P => x = y ∧ Sd f P E S
  | .bk E S, .bk P => Sd f P E S
  | .ct E S, .ct P => Sd f P E S
  | _, _ => False
def QS (P : PE) (m : DS) (o : Out) : Prop := ∀ f E S, Sd f P E S → Fits f (m E S) o
def wipeP (P : PE) : List Nat → PE
  | [] => P
  | v :: vs => (wipeP P vs).set v .any
/-- a target: what it stores where (ws: the slots) -/
def Tg (ws : List Nat) (P : PE) (g : DG) (x : D) (P' : PE) : Prop := ∀ f E S, Sd f P E S → ∃ E' S', g x E S = .ok E' S' ∧ Sd f P' E' S' ∧ E'.length = E.length ∧ ∀ i, i ∉ ws → E'[i]? = E[i]?
section
variable {f f' f'' : Fr} {P P' P0 P1 P2 P3 : PE} {E E' : Dn.Env} {S S' : Store} {i j n : Nat} {o : Option Nat} {k k' : Option Nat} {c c' : Cell} {p : PV} {x y z v w : D} {m ma mb mc : DE} {a : DA} {xs ys vs : List D} {b b' : Bool} {nb nb' : DB} {s s' : DS} {g g' : DG} {gs : DGs} {ws ws' : List Nat} {ou : Out}
theorem Fits.weak {r : RS} (h : Fits f' r ou) (u : Sub f f') : Fits f r ou := by
  cases ou <;> cases r <;> first | exact h.elim | exact Sd.weak h u | skip
  · exact ⟨h.1, let ⟨E, e⟩ := h.2; ⟨E, e.weak u⟩⟩
  · exact let ⟨n, E, a, b, d⟩ := h; ⟨n, E, a, u.none b, d.weak (u.addS n _)⟩
  · exact ⟨h.1, h.2.weak u⟩
theorem retE (h : m E S = .ok v S') : dRet m E S = .rt v S' := by rw [e_ret, h, Dn.R.toS_ok]
theorem Tg.nm (i : Nat) (x : D) : Tg [i] P (gNm i) x (P.set i (.d x)) := fun f E S s => ⟨_, S, rfl, s.setD i x, by simp, fun j hj => by rw [List.getElem?_set_ne (fun e => hj (by simp [e]))]⟩
/-- several targets -/
def Tgs (ws : List Nat) (P : PE) (g : DGs) (xs : List D) (P' : PE) : Prop := ∀ f E S, Sd f P E S → ∃ E' S', g xs E S = .ok E' S' ∧ Sd f P' E' S' ∧ E'.length = E.length ∧ ∀ i, i ∉ ws → E'[i]? = E[i]?
theorem Tgs.nil : Tgs [] P gsNil [] P := fun f E S s => ⟨E, S, rfl, s, rfl, fun _ _ => rfl⟩
theorem Tgs.cons (h : Tg ws P g x P1) (h' : Tgs ws' P1 gs xs P') : Tgs (ws ++ ws') P (gsCons g gs) (x :: xs) P' := fun f E S s => by
  obtain ⟨E1, S1, e1, s1, l1, a1⟩ := h f E S s
  obtain ⟨E2, S2, e2, s2, l2, a2⟩ := h' f E1 S1 s1
  refine ⟨E2, S2, by rw [e_gsc, e1]; exact e2, s2, l2.trans l1, fun i hi => ?_⟩
  rw [a2 i fun z => hi (List.mem_append_right _ z), a1 i fun z => hi (List.mem_append_left _ z)]
theorem Tg.tp {n : Nat} (h : Tgs ws P gs xs P') (hl : xs.length = n := by rfl) : Tg ws P (gTp n gs) (.tup xs) P' := fun f E S s => by
  obtain ⟨E1, S1, e1, s1, l1, a1⟩ := h f E S s
  exact ⟨E1, S1, by rw [e_gtp, if_pos hl, e1], s1, l1, a1⟩
theorem Tg.tp2 (i j : Nat) (x y : D) : Tg [i, j] P (gTp 2 (gsCons (gNm i) (gsCons (gNm j) gsNil))) (.tup [x, y]) ((P.set i (.d x)).set j (.d y)) := Tg.tp (.cons (.nm i x) (.cons (.nm j y) .nil))
/-- x[i] = e of a slot's list -/
theorem Tg.sb {z : Int} (hP : P[j]? = some (.c o (.lst xs))) (h : Ex P m (.int z) P1) (hP1 : P1[j]? = some (.c o (.lst ys))) {r : Nat} (hi : ixN ys.length z = some r) : Tg [] P (gSb (dVar j) m) x (P1.set j (.c o (.lst (ys.set r x)))) := fun f E S s => by
  obtain ⟨n, e1, _⟩ := s.cell hP
  obtain ⟨S1, e2, s1⟩ := h f E S s
  obtain ⟨n', e1', e3, _⟩ := s1.cell hP1
  rw [e1] at e1'
  cases e1'
  refine ⟨E, S1.set n (.lst (ys.set r x)), ?_, s1.write hP1 e1 _, rfl, fun _ _ => rfl⟩
  have hv : dVar j E S = .ok (.ref n) S := by unfold dVar; rw [e1]
  rw [e_gsb, hv, Dn.R.bind_ok, e2, Dn.R.bind_ok, e_setL e3 hi, Dn.R.bind_ok]
/-- d[k] = e of a slot's dict -/
theorem Tg.sbT {c c' : Cell} (hP : P[j]? = some (.c o c0)) (h : Ex P m y P1) (hP1 : P1[j]? = some (.c o c)) (hl : ∀ xs, c ≠ .lst xs) (hp : putC c y x = some c') : Tg [] P (gSb (dVar j) m) x (P1.set j (.c o c')) := fun f E S s => by
  obtain ⟨n, e1, _⟩ := s.cell hP
  obtain ⟨S1, e2, s1⟩ := h f E S s
  obtain ⟨n', e1', e3, _⟩ := s1.cell hP1
  rw [e1] at e1'
  cases e1'
  refine ⟨E, S1.set n c', ?_, s1.write hP1 e1 _, rfl, fun _ _ => rfl⟩
  have hv : dVar j E S = .ok (.ref n) S := by unfold dVar; rw [e1]
  have hs : vSet (.ref n) y x S1 = .ok () (S1.set n c') := by
    unfold vSet
    dsimp only
    rw [e3]
    cases c with
    | lst xs => exact absurd rfl (hl xs)
    | _ => dsimp only; rw [hp]
  rw [e_gsb, hv, Dn.R.bind_ok, e2, Dn.R.bind_ok, hs, Dn.R.bind_ok]
theorem QS.next : QS P dNext (.nx P) := fun f E S s => s
theorem QS.seq (h : QS P s (.nx P1)) (h' : QS P1 s' ou) : QS P (dSeq s s') ou := fun f E S t => by
  have q := h f E S t
  rw [e_seq]
  cases e : s E S with
  | nx E1 S1 => rw [e] at q; exact h' f E1 S1 q
  | _ => rw [e] at q; exact q.elim
/-- what leaves, leaves -/
def Out.left : Out → Bool
  | .nx _ => false
  | _ => true
theorem QS.seqL (h : QS P s ou) (hl : ou.left = true := by rfl) : QS P (dSeq s s') ou := fun f E S t => by
  have q := h f E S t
  rw [e_seq]
  cases e : s E S with
  | nx E1 S1 =>
    rw [e] at q
    cases ou with
    | nx _ => cases hl
    | _ => exact q.elim
  | _ => rw [e] at q; exact q
theorem QS.ifT (h : ExB P nb true P1) (h' : QS P1 s ou) : QS P (dIf nb s s') ou := fun f E S t => by
  obtain ⟨S1, e1, s1⟩ := h f E S t
  rw [e_if, e1, R.toS_ok, if_pos rfl]
  exact h' f E S1 s1
theorem QS.ifF (h : ExB P nb false P1) (h' : QS P1 s' ou) : QS P (dIf nb s s') ou := fun f E S t => by
  obtain ⟨S1, e1, s1⟩ := h f E S t
  rw [e_if, e1, R.toS_ok, if_neg Bool.false_ne_true]
  exact h' f E S1 s1
theorem QS.ite (h : ExB P nb b P1) (h1 : b = true → QS P1 s ou) (h2 : b = false → QS P1 s' ou) : QS P (dIf nb s s') ou := by
  cases b with
  | true => exact QS.ifT h (h1 rfl)
  | false => exact QS.ifF h (h2 rfl)
theorem QS.ret (h : Ex P m v P') : QS P (dRet m) (.rt v P') := fun f E S t => by
  obtain ⟨S1, e1, s1⟩ := h f E S t
  rw [retE e1]
  exact ⟨rfl, E, s1⟩
theorem QS.retN (h : ExN P m c P') : QS P (dRet m) (.rn c P') := fun f E S t => by
  obtain ⟨n, S1, e1, hn, s1⟩ := h f E S t
  rw [retE e1]
  exact ⟨n, E, rfl, hn, s1⟩
/-- a slot's own list, handed back -/
theorem QS.retV (hP : P[i]? = some (.c none c)) : QS P (dRet (dVar i)) (.rn c (P.set i .any)) := fun f E S t => by
  obtain ⟨n, e1, e2, e3, _⟩ := t.cell hP
  have hv : dVar i E S = .ok (.ref n) S := by unfold dVar; rw [e1]
  rw [retE hv]
  refine ⟨n, E, rfl, e3, ?_⟩
  have t1 := t.forget i
  refine ⟨t1.len, fun k d e => ?_, fun j p e => ?_, t1.sep⟩
  · by_cases q : k = n
    · subst q; rw [Fr.add_same] at e; cases e; exact e2
    · rw [Fr.add_ne f q] at e; exact t1.fr k d e
  · have q := t1.at_ j p e
    cases p with
    | any => trivial
    | d v => exact q
    | c o' c'' =>
      obtain ⟨r, a, b, d⟩ := q
      refine ⟨r, a, b, ?_, d.2⟩
      rcases getS e with ⟨_, z, _⟩ | ⟨hne, e⟩
      · cases z
      · rw [Fr.add_ne f (fun z => hne (t.sep i j _ _ _ _ n hP e e1 (by rw [a, z])))]
        exact d.1
theorem QS.asg (h : Ex P m v P1) : QS P (dAsg m (gNm i)) (.nx (P1.set i (.d v))) := fun f E S t => by
  obtain ⟨S1, e1, s1⟩ := h f E S t
  rw [e_asg, e1, R.toS_ok]
  exact s1.setD i v
theorem QS.asgN (h : ExN P m c P1) : QS P (dAsg m (gNm i)) (.nx (P1.set i (.c none c))) := fun f E S t => by
  obtain ⟨n, S1, e1, hn, s1⟩ := h f E S t
  rw [e_asg, e1, R.toS_ok]
  exact s1.take hn i
theorem QS.asgT (h : Ex P m v P1) (hg : Tg ws P1 g v P2) : QS P (dAsg m g) (.nx P2) := fun f E S t => by
  obtain ⟨S1, e1, s1⟩ := h f E S t
  obtain ⟨E2, S2, e2, s2, _⟩ := hg f E S1 s1
  rw [e_asg, e1, R.toS_ok, e2]
  exact s2
theorem QS.drop (h : Ex P m v P1) : QS P (dDrop m) (.nx P1) := fun f E S t => by
  obtain ⟨S1, e1, s1⟩ := h f E S t
  rw [e_drop, e1, R.toS_ok]
  exact s1
theorem QS.aug {t : D → D → Store → R D} (hP : P[i]? = some (.d x)) (h : Ex P m y P1) (ht : ∀ S, t x y S = .ok z S) : QS P (dAug i t m) (.nx (P1.set i (.d z))) := fun f E S st => by
  obtain ⟨S1, e1, s1⟩ := h f E S st
  have hd := st.data hP
  have e : dAug i t m E S = .nx (E.set i (some z)) S1 := by
    unfold dAug
    rw [hd]
    show (m E S).toS E _ = _
    rw [e1, R.toS_ok, ht, R.toS_ok]
  rw [e]
  exact s1.setD i z
theorem QS.forget (i : Nat) (h : QS (P.set i .any) s ou) : QS P s ou := fun f E S t => h f E S (t.forget i)
theorem QS.pre (h : QS P1 s ou) (hp : ∀ f E S, Sd f P E S → Sd f P1 E S) : QS P s ou := fun f E S t => h f E S (hp f E S t)
theorem QS.post (h : QS P s (.nx P1)) (hp : ∀ f E S, Sd f P1 E S → Sd f P2 E S) : QS P s (.nx P2) := fun f E S t => by
  have q := h f E S t
  cases e : s E S with
  | nx E1 S1 => rw [e] at q; exact hp f E1 S1 q
  | _ => rw [e] at q; exact q.elim
theorem QS.name (hP : P[i]? = some (.c o c)) (h : ∀ n, QS (P.set i (.c (some n) c)) s ou) : QS P s ou := fun f E S t => by
  obtain ⟨n, t1⟩ := t.name hP
  exact h n f E S t1
/-! ### methods of a slot's list -/
theorem recvL (h : S[n]? = some (.lst xs)) : recv "list" (.ref n) S = true := by
  unfold recv
  dsimp only
  rw [h]
  rfl
theorem Ex.append (hP : P[j]? = some (.c o (.lst xs))) (h : Ex P m v P1) (hP1 : P1[j]? = some (.c o (.lst ys))) (hl : ys.length < sizeLine) : Ex P (dMeth "list" mAppend (dVar j) (aCons m aNil)) .non (P1.set j (.c o (.lst (ys ++ [v])))) := fun f E S s => by
  obtain ⟨n, e1, e2, _⟩ := s.cell hP
  obtain ⟨S1, e3, s1⟩ := h f E S s
  obtain ⟨n', e1', e4, _⟩ := s1.cell hP1
  rw [e1] at e1'
  cases e1'
  have hv : dVar j E S = .ok (.ref n) S := by unfold dVar; rw [e1]
  refine ⟨_, ?_, s1.write hP1 e1 _⟩
  rw [e_meth, hv, Dn.R.bind_ok, recvL e2, if_pos rfl, e_acons, e3, Dn.R.bind_ok, e_anil, Dn.R.bind_ok, Dn.R.bind_ok]
  unfold mAppend
  dsimp only
  rw [e4]
  dsimp only
  rw [if_pos hl]
theorem QS.append (hP : P[j]? = some (.c o (.lst xs))) (h : Ex P m v P1) (hP1 : P1[j]? = some (.c o (.lst ys))) (hl : ys.length < sizeLine) : QS P (dDrop (dMeth "list" mAppend (dVar j) (aCons m aNil))) (.nx (P1.set j (.c o (.lst (ys ++ [v]))))) := .drop (.append hP h hP1 hl)
theorem Ex.extend (hP : P[j]? = some (.c o (.lst xs))) (h : Hd P m k (.lst vs) P1) (hk : Keep P1 (.lst vs) k) (hP1 : P1[j]? = some (.c o (.lst ys))) (hl : ys.length + vs.length ≤ sizeLine) : Ex P (dMeth "list" mExtend (dVar j) (aCons m aNil)) .non (P1.set j (.c o (.lst (ys ++ vs)))) := fun f E S s => by
  obtain ⟨n, e1, e2, _⟩ := s.cell hP
  obtain ⟨r, S1, e3, s1, h1⟩ := h.keep hk s
  obtain ⟨n', e1', e4, _⟩ := s1.cell hP1
  rw [e1] at e1'
  cases e1'
  have hv : dVar j E S = .ok (.ref n) S := by unfold dVar; rw [e1]
  refine ⟨_, ?_, s1.write hP1 e1 _⟩
  rw [e_meth, hv, Dn.R.bind_ok, recvL e2, if_pos rfl, e_acons, e3, Dn.R.bind_ok, e_anil, Dn.R.bind_ok, Dn.R.bind_ok]
  unfold mExtend
  dsimp only
  rw [e4, h1]
  dsimp only
  rw [if_pos hl]
theorem Ex.pop (hP : P[j]? = some (.c o (.lst xs))) (hx : xs[xs.length - 1]? = some v) : Ex P (dMeth "list" mPop (dVar j) aNil) v (P.set j (.c o (.lst xs.dropLast))) := fun f E S s => by
  obtain ⟨n, e1, e2, _⟩ := s.cell hP
  have hv : dVar j E S = .ok (.ref n) S := by unfold dVar; rw [e1]
  refine ⟨_, ?_, s.write hP e1 _⟩
  rw [e_meth, hv, Dn.R.bind_ok, recvL e2, if_pos rfl, e_anil, Dn.R.bind_ok]
  unfold mPop
  dsimp only
  rw [e2]
  dsimp only
  rw [hx]
theorem Ex.popAt {z : Int} {r : Nat} (hP : P[j]? = some (.c o (.lst xs))) (h : Ex P m (.int z) P1) (hP1 : P1[j]? = some (.c o (.lst ys))) (h1 : -(2 ^ 63) ≤ z ∧ z < 2 ^ 63) (h2 : seqIndex? z ys.length = some r) (hx : ys[r]? = some v) : Ex P (dMeth "list" mPopAt (dVar j) (aCons m aNil)) v (P1.set j (.c o (.lst (ys.eraseIdx r)))) := fun f E S s => by
  obtain ⟨n, e1, e2, _⟩ := s.cell hP
  obtain ⟨S1, e3, s1⟩ := h f E S s
  obtain ⟨n', e1', e4, _⟩ := s1.cell hP1
  rw [e1] at e1'
  cases e1'
  have hv : dVar j E S = .ok (.ref n) S := by unfold dVar; rw [e1]
  refine ⟨_, ?_, s1.write hP1 e1 _⟩
  rw [e_meth, hv, Dn.R.bind_ok, recvL e2, if_pos rfl, e_acons, e3, Dn.R.bind_ok, e_anil, Dn.R.bind_ok, Dn.R.bind_ok]
  unfold mPopAt
  dsimp only
  rw [e4]
  dsimp only
  rw [if_pos h1, h2]
  dsimp only
  rw [hx]
/-- a method of a slot's cell that reads alone -/
theorem Ex.methR {T : String} {t : D → List D → Store → R D} (hP : P[j]? = some (.c o c)) (hr : ∀ S n, S[n]? = some c → recv T (.ref n) S = true) (h : ExA P a xs P1) (hP1 : P1[j]? = some (.c o c')) (ht : ∀ S n, S[n]? = some c' → t (.ref n) xs S = .ok v S) : Ex P (dMeth T t (dVar j) a) v P1 := fun f E S s => by
  obtain ⟨n, e1, e2, _⟩ := s.cell hP
  obtain ⟨S1, e3, s1⟩ := h f E S s
  obtain ⟨n', e1', e4, _⟩ := s1.cell hP1
  rw [e1] at e1'
  cases e1'
  have hv : dVar j E S = .ok (.ref n) S := by unfold dVar; rw [e1]
  exact ⟨S1, by rw [e_meth, hv, Dn.R.bind_ok, hr _ _ e2, if_pos rfl, e3, Dn.R.bind_ok, ht _ _ e4], s1⟩
/-! ### walks -/
def It (P : PE) (it : DI) (xs : List D) (P1 : PE) (W : PE → Prop) : Prop := ∀ f E S, Sd f P E S → ∃ S' chk f', it E S = .ok (xs, chk) S' ∧ Sd f' P1 E S' ∧ Sub f f' ∧ ∀ P2 E2 S2, W P2 → Sd f' P2 E2 S2 → chk S2 = true
abbrev WT : PE → Prop := fun _ => True
theorem It.of (h : ∀ f E S, Sd f P E S → ∃ S', it E S = .ok (xs, fun _ => true) S' ∧ Sd f P1 E S') : It P it xs P1 WT := fun f E S s => by
  obtain ⟨S1, e1, s1⟩ := h f E S s
  exact ⟨S1, _, f, e1, s1, Sub.refl f, fun _ _ _ _ _ => rfl⟩
theorem It.tup (h : Ex P m (.tup xs) P1) : It P (iVal m) xs P1 WT := .of fun f E S s => by
  obtain ⟨S1, e1, s1⟩ := h f E S s
  exact ⟨S1, by unfold iVal; rw [e1, Dn.R.bind_ok]; rfl, s1⟩
theorem It.str {u : Str} (h : Ex P m (.str u) P1) : It P (iVal m) (strD u) P1 WT := .of fun f E S s => by
  obtain ⟨S1, e1, s1⟩ := h f E S s
  exact ⟨S1, by unfold iVal; rw [e1, Dn.R.bind_ok]; rfl, s1⟩
theorem It.range {r : Nat} (h : Ex P m (.int (r : Nat)) P1) (hr : r ≤ 1000000) : It P (iRange1 (aCons m aNil)) (rngD 0 r) P1 WT := .of fun f E S s => by
  obtain ⟨S1, e1, s1⟩ := h f E S s
  refine ⟨S1, ?_, s1⟩
  unfold iRange1
  rw [e_acons, e1, Dn.R.bind_ok, e_anil, Dn.R.bind_ok, Dn.R.bind_ok]
  dsimp only
  rw [if_pos (small_nat hr)]
theorem It.enum (h : Ex P m (.tup xs) P1) : It P (iEnumD (aCons m aNil)) (enumD 0 xs) P1 WT := .of fun f E S s => by
  obtain ⟨S1, e1, s1⟩ := h f E S s
  refine ⟨S1, ?_, s1⟩
  unfold iEnumD
  rw [e_acons, e1, Dn.R.bind_ok, e_anil, Dn.R.bind_ok, Dn.R.bind_ok]
  rfl
theorem It.zip (h : Ex P ma (.tup xs) P1) (h' : Ex P1 mb (.tup ys) P2) : It P (iZipD (aCons ma (aCons mb aNil))) (zipD xs ys) P2 WT := .of fun f E S s => by
  obtain ⟨S1, e1, s1⟩ := h f E S s
  obtain ⟨S2, e2, s2⟩ := h' f E S1 s1
  refine ⟨S2, ?_, s2⟩
  unfold iZipD
  rw [e_acons, e1, Dn.R.bind_ok, e_acons, e2, Dn.R.bind_ok, e_anil, Dn.R.bind_ok, Dn.R.bind_ok, Dn.R.bind_ok]
  rfl
theorem isLst_of (h : S[n]? = some (.lst xs)) : isLst S n xs = true := by
  unfold isLst
  rw [h]
  simp
/-- a new list -/
theorem It.new (h : ExN P m (.lst xs) P1) : It P (iVal m) xs P1 WT := fun f E S s => by
  obtain ⟨n, S1, e1, hn, s1⟩ := h f E S s
  refine ⟨S1, fun S2 => isLst S2 n xs, _, ?_, s1, Sub.add hn, fun P2 E2 S2 _ s2 => isLst_of s2.addc⟩
  unfold iVal
  rw [e1, Dn.R.bind_ok]
  unfold seqOf
  dsimp only
  rw [s1.addc]
theorem It.enumN (h : ExN P m (.lst xs) P1) : It P (iEnumD (aCons m aNil)) (enumD 0 xs) P1 WT := fun f E S s => by
  obtain ⟨n, S1, e1, hn, s1⟩ := h f E S s
  refine ⟨S1, fun S2 => isLst S2 n xs, _, ?_, s1, Sub.add hn, fun P2 E2 S2 _ s2 => isLst_of s2.addc⟩
  unfold iEnumD
  rw [e_acons, e1, Dn.R.bind_ok, e_anil, Dn.R.bind_ok, Dn.R.bind_ok]
  dsimp only
  unfold seq2Of
  dsimp only
  rw [s1.addc]
  rfl
/-- a slot's list, its number told: it stays as it is meanwhile -/
def WL (j n : Nat) (xs : List D) : PE → Prop := fun P => P[j]? = some (.c (some n) (.lst xs))
theorem It.own (hP : P[j]? = some (.c (some n) (.lst xs))) : It P (iVal (dVar j)) xs P (WL j n xs) := fun f E S s => by
  obtain ⟨n', e1, e2, e3, e4⟩ := s.cell hP
  obtain rfl := e4 n rfl
  refine ⟨S, fun S2 => isLst S2 n' xs, f, ?_, s, Sub.refl f, fun P2 E2 S2 w s2 => ?_⟩
  · have hv : dVar j E S = .ok (.ref n') S := by unfold dVar; rw [e1]
    unfold iVal
    rw [hv, Dn.R.bind_ok]
    unfold seqOf
    dsimp only
    rw [e2]
  · obtain ⟨n2, a, b, c, d⟩ := s2.cell w
    obtain rfl := d n' rfl
    exact isLst_of b
theorem It.enumOwn (hP : P[j]? = some (.c (some n) (.lst xs))) : It P (iEnumD (aCons (dVar j) aNil)) (enumD 0 xs) P (WL j n xs) := fun f E S s => by
  obtain ⟨n', e1, e2, e3, e4⟩ := s.cell hP
  obtain rfl := e4 n rfl
  refine ⟨S, fun S2 => isLst S2 n' xs, f, ?_, s, Sub.refl f, fun P2 E2 S2 w s2 => ?_⟩
  · have hv : dVar j E S = .ok (.ref n') S := by unfold dVar; rw [e1]
    unfold iEnumD
    rw [e_acons, hv, Dn.R.bind_ok, e_anil, Dn.R.bind_ok, Dn.R.bind_ok]
    dsimp only
    unfold seq2Of
    dsimp only
    rw [e2]
    rfl
  · obtain ⟨n2, a, b, c, d⟩ := s2.cell w
    obtain rfl := d n' rfl
    exact isLst_of b
/-! ### loops -/
def LoopO (J : PE → Prop) (Post : Out → Prop) : Out → Prop
  | .nx P => J P
  | .ct P => J P
  | .bk P => Post (.nx P)
  | o => Post o
theorem for_out {W : PE → Prop} {it : DI} (I : Nat → PE → Prop) (Post : Out → Prop) (hW : ∀ i P, I i P → W P) : ∀ (xs : List D) (i : Nat) (P : PE), I i P →
    (∀ P, I (i + xs.length) P → Post (.nx P)) → (∀ r x P, xs[r]? = some x → I (i + r) P → ∃ ws P2, Tg ws P g x P2 ∧ ∃ o, QS P2 s o ∧ LoopO (I (i + r + 1)) Post o) →
    ∃ o, Post o ∧ ∀ f chk, (∀ P2 E2 S2, W P2 → Sd f P2 E2 S2 → chk S2 = true) → ∀ E S, Sd f P E S → Fits f (forL chk g s xs E S) o
  | [], i, P, h, he, _ => ⟨.nx P, he P h, fun f chk hc E S t => by
    unfold forL
    rw [if_pos (hc P E S (hW _ _ h) t)]
    exact t⟩
  | x :: xs, i, P, h, he, hs => by
    obtain ⟨ws, P2, tg, o, q, lo⟩ := hs 0 x P rfl h
    have go : ∀ P3, I (i + 1) P3 → ∃ o, Post o ∧ ∀ f chk, (∀ P2 E2 S2, W P2 → Sd f P2 E2 S2 → chk S2 = true) → ∀ E S, Sd f P3 E S → Fits f (forL chk g s xs E S) o := fun P3 h3 =>
      for_out (it := it) I Post hW xs (i + 1) P3 h3 (fun P hp => he P (by rw [List.length_cons]; rw [show i + (xs.length + 1) = i + 1 + xs.length by omega]; exact hp)) fun r y P hy hi => by
        have := hs (r + 1) y P (by simpa using hy) (by rw [show i + (r + 1) = i + 1 + r by omega]; exact hi)
        rw [show i + (r + 1) + 1 = i + 1 + r + 1 by omega] at this
        exact this
    have fin : ∀ o', (∀ f E S, Sd f P2 E S → Fits f (s E S) o) → (∀ f chk, (∀ P2 E2 S2, W P2 → Sd f P2 E2 S2 → chk S2 = true) → ∀ E S, Fits f (s E S) o → Fits f (match s E S with
      | .nx env2 st2 => forL chk g s xs env2 st2
      | .ct env2 st2 => forL chk g s xs env2 st2
      | .bk env2 st2 => .nx env2 st2
      | r => r) o') → ∀ f chk, (∀ P2 E2 S2, W P2 → Sd f P2 E2 S2 → chk S2 = true) → ∀ E S, Sd f P E S → Fits f (forL chk g s (x :: xs) E S) o' := fun o' h1 h2 f chk hc E S t => by
      obtain ⟨E1, S1, e1, t1, _⟩ := tg f E S t
      unfold forL
      rw [if_pos (hc P E S (hW _ _ h) t), e1]
      dsimp only
      have := h2 f chk hc E1 S1 (h1 f E1 S1 t1)
      cases hq : s E1 S1 <;> (rw [hq] at this; exact this)
    cases o with
    | nx P3 =>
      obtain ⟨o', hp, hf⟩ := go P3 lo
      refine ⟨o', hp, fin o' q fun f chk hc E S ft => ?_⟩
      cases hq : s E S with
      | nx E3 S3 => rw [hq] at ft; exact hf f chk hc E3 S3 ft
      | _ => rw [hq] at ft; exact ft.elim
    | ct P3 =>
      obtain ⟨o', hp, hf⟩ := go P3 lo
      refine ⟨o', hp, fin o' q fun f chk hc E S ft => ?_⟩
      cases hq : s E S with
      | ct E3 S3 => rw [hq] at ft; exact hf f chk hc E3 S3 ft
      | _ => rw [hq] at ft; exact ft.elim
    | bk P3 =>
      refine ⟨.nx P3, lo, fin _ q fun f chk hc E S ft => ?_⟩
      cases hq : s E S with
      | bk E3 S3 => rw [hq] at ft; exact ft
      | _ => rw [hq] at ft; exact ft.elim
    | rt v P3 =>
      refine ⟨.rt v P3, lo, fin _ q fun f chk hc E S ft => ?_⟩
      cases hq : s E S with
      | rt _ _ => rw [hq] at ft; exact ft
      | _ => rw [hq] at ft; exact ft.elim
    | rn v P3 =>
      refine ⟨.rn v P3, lo, fin _ q fun f chk hc E S ft => ?_⟩
      cases hq : s E S with
      | rt _ _ => rw [hq] at ft; exact ft
      | _ => rw [hq] at ft; exact ft.elim
    | ex v P3 =>
      refine ⟨.ex v P3, lo, fin _ q fun f chk hc E S ft => ?_⟩
      cases hq : s E S with
      | ex _ _ _ => rw [hq] at ft; exact ft
      | _ => rw [hq] at ft; exact ft.elim
/-- a loop, by what holds ahead of each turn -/
theorem QS.forP {W : PE → Prop} {it : DI} (I : Nat → PE → Prop) (Post : Out → Prop) (hi : It P it xs P1 W) (h0 : I 0 P1) (hW : ∀ i P, I i P → W P) (he : ∀ P, I xs.length P → Post (.nx P))
    (step : ∀ r x P, xs[r]? = some x → I r P → ∃ ws P2, Tg ws P g x P2 ∧ ∃ o, QS P2 s o ∧ LoopO (I (r + 1)) Post o) : ∃ o, Post o ∧ QS P (dFor it g s) o := by
  obtain ⟨o, hp, hf⟩ := for_out (g := g) (s := s) (it := it) I Post hW xs 0 P1 h0 (by simpa using he) (by simpa using step)
  refine ⟨o, hp, fun f E S t => ?_⟩
  obtain ⟨S1, chk, f', e1, t1, u, hc⟩ := hi f E S t
  rw [e_for, e1, R.toS_ok]
  exact (hf f' chk hc E S1 t1).weak u
/-- .. that goes through -/
theorem QS.forI {W : PE → Prop} {it : DI} (I : Nat → PE) (hi : It P it xs P1 W) (h0 : ∀ f E S, Sd f P1 E S → Sd f (I 0) E S) (hW : ∀ i, W (I i))
    (step : ∀ r x, xs[r]? = some x → ∃ ws P2, Tg ws (I r) g x P2 ∧ ∃ P3, QS P2 s (.nx P3) ∧ ∀ f E S, Sd f P3 E S → Sd f (I (r + 1)) E S) : QS P (dFor it g s) (.nx (I xs.length)) := by
  have hi' : It P it xs (I 0) W := fun f E S t => by
    obtain ⟨S1, chk, f', e1, t1, u, hc⟩ := hi f E S t
    exact ⟨S1, chk, f', e1, h0 _ _ _ t1, u, hc⟩
  obtain ⟨o, hp, hq⟩ := QS.forP (s := s) (g := g) (fun i P => P = I i) (fun o => o = .nx (I xs.length)) hi' rfl (fun i P e => by rw [e]; exact hW i) (fun P e => by rw [e]) fun r x P hx e => by
    subst e
    obtain ⟨ws, P2, tg, P3, q, hs⟩ := step r x hx
    exact ⟨ws, P2, tg, .nx (I (r + 1)), q.post hs, rfl⟩
  rw [hp] at hq
  exact hq
theorem while_out (I : Nat → PE → Prop) (Post : Out → Prop)
    (step : ∀ j P, I j P → ∃ b P1, ExB P nb b P1 ∧ (b = false → Post (.nx P1)) ∧ (b = true → ∃ o, QS P1 s o ∧ LoopO (fun P2 => ∃ j', j' < j ∧ I j' P2) Post o)) :
    ∀ (k j : Nat) (P : PE), I j P → j < k → ∃ o, Post o ∧ ∀ f E S, Sd f P E S → Fits f (whileL nb s k E S) o
  | 0, j, _, _, h => absurd h (Nat.not_lt_zero _)
  | k + 1, j, P, h, hj => by
    obtain ⟨b, P1, hb, hf, ht⟩ := step j P h
    cases b with
    | false =>
      refine ⟨.nx P1, hf rfl, fun f E S t => ?_⟩
      obtain ⟨S1, e1, t1⟩ := hb f E S t
      unfold whileL
      rw [e1, R.toS_ok, if_neg Bool.false_ne_true]
      exact t1
    | true =>
      obtain ⟨o, q, lo⟩ := ht rfl
      have pass : ∀ o', (∀ f E S, Fits f (s E S) o → Fits f (match s E S with
        | .nx env2 st2 => whileL nb s k env2 st2
        | .ct env2 st2 => whileL nb s k env2 st2
        | .bk env2 st2 => .nx env2 st2
        | r => r) o') → ∀ f E S, Sd f P E S → Fits f (whileL nb s (k + 1) E S) o' := fun o' h2 f E S t => by
        obtain ⟨S1, e1, t1⟩ := hb f E S t
        have := h2 f E S1 (q f E S1 t1)
        unfold whileL
        rw [e1, R.toS_ok, if_pos rfl]
        cases hq : s E S1 <;> (rw [hq] at this; exact this)
      cases o with
      | nx P3 =>
        obtain ⟨j', hj', h3⟩ := lo
        obtain ⟨o', hp, hf⟩ := while_out I Post step k j' P3 h3 (by omega)
        refine ⟨o', hp, pass o' fun f E S ft => ?_⟩
        cases hq : s E S with
        | nx E3 S3 => rw [hq] at ft; exact hf f E3 S3 ft
        | _ => rw [hq] at ft; exact ft.elim
      | ct P3 =>
        obtain ⟨j', hj', h3⟩ := lo
        obtain ⟨o', hp, hf⟩ := while_out I Post step k j' P3 h3 (by omega)
        refine ⟨o', hp, pass o' fun f E S ft => ?_⟩
        cases hq : s E S with
        | ct E3 S3 => rw [hq] at ft; exact hf f E3 S3 ft
        | _ => rw [hq] at ft; exact ft.elim
      | bk P3 =>
        refine ⟨.nx P3, lo, pass _ fun f E S ft => ?_⟩
        cases hq : s E S with
        | bk E3 S3 => rw [hq] at ft; exact ft
        | _ => rw [hq] at ft; exact ft.elim
      | rt v P3 =>
        refine ⟨.rt v P3, lo, pass _ fun f E S ft => ?_⟩
        cases hq : s E S with
        | rt _ _ => rw [hq] at ft; exact ft
        | _ => rw [hq] at ft; exact ft.elim
      | rn v P3 =>
        refine ⟨.rn v P3, lo, pass _ fun f E S ft => ?_⟩
        cases hq : s E S with
        | rt _ _ => rw [hq] at ft; exact ft
        | _ => rw [hq] at ft; exact ft.elim
      | ex v P3 =>
        refine ⟨.ex v P3, lo, pass _ fun f E S ft => ?_⟩
        cases hq : s E S with
        | ex _ _ _ => rw [hq] at ft; exact ft
        | _ => rw [hq] at ft; exact ft.elim
theorem QS.whileP (I : Nat → PE → Prop) (Post : Out → Prop) {j : Nat} (h0 : I j P) (hj : j < FU)
    (step : ∀ j P, I j P → ∃ b P1, ExB P nb b P1 ∧ (b = false → Post (.nx P1)) ∧ (b = true → ∃ o, QS P1 s o ∧ LoopO (fun P2 => ∃ j', j' < j ∧ I j' P2) Post o)) : ∃ o, Post o ∧ QS P (dWhile nb s) o := by
  obtain ⟨o, hp, hf⟩ := while_out I Post step FU j P h0 hj
  exact ⟨o, hp, fun f E S t => hf f E S t⟩
/-! ### comprehensions -/
theorem Sd.wipe (t : Sd f P E S) : ∀ vs : List Nat, Sd f (wipeP P vs) (dWipe E vs) S
  | [] => t
  | v :: vs => (Sd.wipe t vs).setAny v none
theorem wipeP_len : ∀ (vs : List Nat), (wipeP P vs).length = P.length
  | [] => rfl
  | v :: vs => by rw [wipeP, List.length_set, wipeP_len vs]
theorem wipeP_get : ∀ (vs : List Nat) (i : Nat), i < P.length → (wipeP P vs)[i]? = if i ∈ vs then some .any else P[i]?
  | [], i, _ => by simp [wipeP]
  | v :: vs, i, hi => by
    rw [wipeP]
    by_cases e : v = i
    · subst e
      rw [List.getElem?_set_self (by rw [wipeP_len]; exact hi), if_pos (List.mem_cons_self ..)]
    · rw [List.getElem?_set_ne e, wipeP_get vs i hi]
      by_cases q : i ∈ vs
      · rw [if_pos q, if_pos (List.mem_cons_of_mem _ q)]
      · rw [if_neg q, if_neg fun z => (List.mem_cons.mp z).elim (fun z => e z.symm) q]
/-- seen at slots that are otherwise at vs alone -/
theorem Sd.env (t : Sd f P E S) (hl : E'.length = E.length) (ha : ∀ i, i ∉ ws → E'[i]? = E[i]?) : Sd f (wipeP P ws) E' S := by
  have key : ∀ i p, (wipeP P ws)[i]? = some p → p = .any ∨ (i ∉ ws ∧ P[i]? = some p) := fun i p e => by
    have hi : i < P.length := by
      have := (List.getElem?_eq_some_iff.mp e).1
      rw [wipeP_len] at this
      exact this
    rw [wipeP_get ws i hi] at e
    split at e
    · cases e; exact .inl rfl
    · exact .inr ⟨by assumption, e⟩
  refine ⟨by rw [hl, wipeP_len, t.len], t.fr, fun i p e => ?_, fun i j oi oj ci cj n hi hj ei ej => ?_⟩
  · rcases key i p e with rfl | ⟨hi, e⟩
    · trivial
    · rw [ha i hi]; exact t.at_ i p e
  · rcases key i _ hi with z | ⟨hi1, hi⟩
    · cases z
    · rcases key j _ hj with z | ⟨hj1, hj⟩
      · cases z
      · rw [ha i hi1] at ei
        rw [ha j hj1] at ej
        exact t.sep i j _ _ _ _ n hi hj ei ej
theorem dWipe_len : ∀ vs : List Nat, (dWipe E vs).length = E.length
  | [] => rfl
  | v :: vs => by rw [dWipe, List.length_set, dWipe_len vs]
theorem dWipe_get : ∀ (vs : List Nat) (i : Nat), i ∉ vs → (dWipe E vs)[i]? = E[i]?
  | [], i, _ => rfl
  | v :: vs, i, h => by
    rw [dWipe, List.getElem?_set_ne (fun e => h (by simp [e])), dWipe_get vs i fun z => h (List.mem_cons_of_mem _ z)]
/-- the slots of a comprehension are again what they were -/
def backP (P Q : PE) : List Nat → PE
  | [] => Q
  | v :: vs => match P[v]? with
    | some (.d x) => (backP P Q vs).set v (.d x)
    | _ => (backP P Q vs).set v .any
theorem Sd.back {Q : PE} (t0 : Sd f' P E S') (t : Sd f (wipeP Q ws) E S) : ∀ vs : List Nat, (∀ v ∈ ws, v ∈ vs) → Sd f (backP P Q vs) E S := by
  -- the least: all slots of vs forgotten
  have low : ∀ vs : List Nat, (∀ v ∈ ws, v ∈ vs) → Sd f (wipeP Q vs) E S := fun vs hv => by
    have h1 : Sd f (wipeP (wipeP Q ws) vs) E S := by
      have : ∀ us : List Nat, Sd f (wipeP (wipeP Q ws) us) E S := fun us => by
        induction us with
        | nil => exact t
        | cons u us ih => exact ih.forget u
      exact this vs
    have e : wipeP (wipeP Q ws) vs = wipeP Q vs := by
      apply List.ext_getElem?
      intro i
      by_cases hi : i < Q.length
      · rw [wipeP_get vs i (by rw [wipeP_len]; exact hi), wipeP_get vs i hi, wipeP_get ws i hi]
        by_cases h : i ∈ vs
        · rw [if_pos h, if_pos h]
        · rw [if_neg h, if_neg h, if_neg fun z => h (hv i z)]
      · rw [List.getElem?_eq_none (by rw [wipeP_len, wipeP_len]; omega), List.getElem?_eq_none (by rw [wipeP_len]; omega)]
    rw [e] at h1
    exact h1
  intro vs hv
  have h := low vs hv
  have step : ∀ us : List Nat, (∀ R : PE, Sd f R E S → Sd f (backP P R us) E S) := fun us => by
    induction us with
    | nil => exact fun R h => h
    | cons u us ih =>
      intro R h
      unfold backP
      split
      · rename_i x hx
        exact (ih R h).know (t0.data hx)
      · exact (ih R h).forget u
  have e : backP P (wipeP Q vs) vs = backP P Q vs := by
    have len : ∀ (us : List Nat) (R : PE), (backP P R us).length = R.length := fun us R => by
      induction us with
      | nil => rfl
      | cons u us ih => unfold backP; split <;> rw [List.length_set, ih]
    have get : ∀ (us : List Nat) (R R' : PE), R.length = R'.length → (∀ i, i ∉ us → R[i]? = R'[i]?) → backP P R us = backP P R' us := fun us => by
      induction us with
      | nil => exact fun R R' hl ha => List.ext_getElem? fun i => ha i (by simp)
      | cons u us ih =>
        intro R R' hl ha
        have go : ∀ p : PV, (backP P R us).set u p = (backP P R' us).set u p := fun p => by
          by_cases hu : u ∈ us
          · rw [ih R R' hl fun i hi => ha i fun z => (List.mem_cons.mp z).elim (fun z => hi (by rw [z]; exact hu)) hi]
          · have e1 : ∀ (Z : PE) (us : List Nat), u ∉ us → backP P (Z.set u p) us = (backP P Z us).set u p := fun Z us => by
              induction us with
              | nil => exact fun _ => rfl
              | cons w us ih =>
                intro h
                have hw : u ≠ w := fun z => h (by simp [z])
                unfold backP
                rw [ih fun z => h (List.mem_cons_of_mem _ z)]
                split <;> rw [List.set_comm _ _ hw]
            rw [← e1 R us hu, ← e1 R' us hu]
            refine ih _ _ (by simp [hl]) fun i hi => ?_
            by_cases z : u = i
            · subst z
              by_cases hlt : u < R.length
              · rw [List.getElem?_set_self hlt, List.getElem?_set_self (by rw [← hl]; exact hlt)]
              · rw [List.getElem?_eq_none (by simp; omega), List.getElem?_eq_none (by simp; omega)]
            · rw [List.getElem?_set_ne z, List.getElem?_set_ne z]
              exact ha i fun q => (List.mem_cons.mp q).elim (fun q => z q.symm) hi
        unfold backP
        split <;> exact go _
    refine get vs _ _ (wipeP_len vs) fun i hi => ?_
    by_cases hlt : i < Q.length
    · rw [wipeP_get vs i hlt, if_neg hi]
    · rw [List.getElem?_eq_none (by rw [wipeP_len]; omega), List.getElem?_eq_none (by omega)]
  rw [← e]
  exact step vs _ h
theorem lc_out {W : PE → Prop} {it : DI} {tt : DB} {te : DE} {ws : List Nat} (I : Nat → PE → List D → Prop) (hW : ∀ i P acc, I i P acc → W P) : ∀ (xs : List D) (i : Nat) (P : PE) (acc : List D), I i P acc →
    (∀ r x P acc, xs[r]? = some x → I (i + r) P acc → acc.length < sizeLine ∧ ∃ P1, Tg ws P g x P1 ∧ ∃ b P2, ExB P1 tt b P2 ∧ (b = false → I (i + r + 1) (wipeP P2 ws) acc) ∧ (b = true → ∃ y P3, Ex P2 te y P3 ∧ I (i + r + 1) (wipeP P3 ws) (acc ++ [y]))) →
    ∃ Q acc', I (i + xs.length) Q acc' ∧ ∀ f chk, (∀ P2 E2 S2, W P2 → Sd f P2 E2 S2 → chk S2 = true) → ∀ E S, Sd f P E S → ∃ S', lcL chk g tt te E xs acc S = .ok acc' S' ∧ Sd f Q E S'
  | [], i, P, acc, h, _ => ⟨P, acc, h, fun f chk hc E S t => ⟨S, by unfold lcL; rw [if_pos (hc P E S (hW _ _ _ h) t)], t⟩⟩
  | x :: xs, i, P, acc, h, hs => by
    obtain ⟨hl, P1, tg, b, P2, hb, hf, ht⟩ := hs 0 x P acc rfl h
    have go : ∀ P3 acc3, I (i + 1) P3 acc3 → ∃ Q acc', I (i + (xs.length + 1)) Q acc' ∧ ∀ f chk, (∀ P2 E2 S2, W P2 → Sd f P2 E2 S2 → chk S2 = true) → ∀ E S, Sd f P3 E S → ∃ S', lcL chk g tt te E xs acc3 S = .ok acc' S' ∧ Sd f Q E S' := fun P3 acc3 h3 => by
      obtain ⟨Q, acc', hq, k⟩ := lc_out (it := it) (tt := tt) (te := te) (ws := ws) I hW xs (i + 1) P3 acc3 h3 fun r y P acc hy hi => by
        have := hs (r + 1) y P acc (by simpa using hy) (by rw [show i + (r + 1) = i + 1 + r by omega]; exact hi)
        rw [show i + (r + 1) + 1 = i + 1 + r + 1 by omega] at this
        exact this
      exact ⟨Q, acc', by rw [show i + (xs.length + 1) = i + 1 + xs.length by omega]; exact hq, k⟩
    cases b with
    | false =>
      obtain ⟨Q, acc', hq, k⟩ := go _ _ (hf rfl)
      refine ⟨Q, acc', hq, fun f chk hc E S t => ?_⟩
      obtain ⟨E1, S1, e1, t1, l1, a1⟩ := tg f E S t
      obtain ⟨S2, e2, t2⟩ := hb f E1 S1 t1
      obtain ⟨S', e3, t3⟩ := k f chk hc E S2 (t2.env l1.symm fun i hi => (a1 i hi).symm)
      refine ⟨S', ?_, t3⟩
      unfold lcL
      rw [if_pos (hc P E S (hW _ _ _ h) t), e1]
      dsimp only
      rw [e2]
      exact e3
    | true =>
      obtain ⟨y, P3, hy, h3⟩ := ht rfl
      obtain ⟨Q, acc', hq, k⟩ := go _ _ h3
      refine ⟨Q, acc', hq, fun f chk hc E S t => ?_⟩
      obtain ⟨E1, S1, e1, t1, l1, a1⟩ := tg f E S t
      obtain ⟨S2, e2, t2⟩ := hb f E1 S1 t1
      obtain ⟨S3, e3, t3⟩ := hy f E1 S2 t2
      obtain ⟨S', e4, t4⟩ := k f chk hc E S3 (t3.env l1.symm fun i hi => (a1 i hi).symm)
      refine ⟨S', ?_, t4⟩
      unfold lcL
      rw [if_pos (hc P E S (hW _ _ _ h) t), e1]
      dsimp only
      rw [e2]
      dsimp only
      rw [e3]
      dsimp only
      rw [if_pos hl]
      exact e4
/-- a list comprehension of one clause, data its items -/
theorem ExN.lcP {W : PE → Prop} {it : DI} {tt : DB} {te : DE} {ws vs : List Nat} (I : Nat → PE → List D → Prop) (hi : It P it xs P1 W) (h0 : I 0 (wipeP P1 vs) []) (hW : ∀ i P acc, I i P acc → W P) (hv : ∀ v ∈ ws, v ∈ vs)
    (step : ∀ r x P acc, xs[r]? = some x → I r P acc → acc.length < sizeLine ∧ ∃ P1, Tg ws P g x P1 ∧ ∃ b P2, ExB P1 tt b P2 ∧ (b = false → I (r + 1) (wipeP P2 ws) acc) ∧ (b = true → ∃ y P3, Ex P2 te y P3 ∧ I (r + 1) (wipeP P3 ws) (acc ++ [y]))) :
    ∃ Q acc, I xs.length Q acc ∧ ExN P (dLc it g tt te vs) (.lst acc) (backP P1 Q vs) := by
  obtain ⟨Q, acc, hq, k⟩ := lc_out (g := g) (tt := tt) (te := te) (ws := ws) (it := it) I hW xs 0 (wipeP P1 vs) [] h0 (by simpa using step)
  rw [Nat.zero_add] at hq
  refine ⟨Q, acc, hq, fun f E S t => ?_⟩
  obtain ⟨S1, chk, f', e1, t1, u, hc⟩ := hi f E S t
  obtain ⟨S2, e2, t2⟩ := k f' chk hc (dWipe E vs) S1 (t1.wipe vs)
  have t3 : Sd f' (wipeP Q vs) E S2 := t2.env (dWipe_len vs).symm fun i hi => (dWipe_get vs i hi).symm
  have t4 := Sd.back (P := P1) t1 t3 vs fun v h => h
  obtain ⟨q1, q2⟩ := (t4.weak u).newAt (g := [.lst acc]) (n := S2.length) (c := .lst acc) (Nat.le_refl _) (by simp)
  refine ⟨_, _, ?_, q1, q2⟩
  unfold dLc
  rw [e1, Dn.R.bind_ok]
  dsimp only
  rw [e2, Dn.R.bind_ok]
  rfl
/-- .. that maps, changing nothing -/
theorem ExN.lc {α : Type} {l : List α} {h : α → D} {W : PE → Prop} {it : DI} {te : DE} {ws vs : List Nat} (F : α → D) (hi : It P it (l.map h) P1 W) (hl : l.length ≤ sizeLine) (hW : W (wipeP P1 vs)) (hv : ∀ v ∈ ws, v ∈ vs)
    (step : ∀ x ∈ l, ∃ P2, Tg ws (wipeP P1 vs) g (h x) P2 ∧ Ex P2 te (F x) P2 ∧ wipeP P2 ws = wipeP P1 vs) : ExN P (dLc it g dYes te vs) (.lst (l.map F)) (backP P1 (wipeP P1 vs) vs) := by
  obtain ⟨Q, acc, ⟨rfl, e⟩, k⟩ := ExN.lcP (g := g) (tt := dYes) (te := te) (fun i P acc => P = wipeP P1 vs ∧ acc = (l.take i).map F) hi ⟨rfl, by simp⟩ (fun i P acc e => by rw [e.1]; exact hW) hv (by
    rintro r x P acc hx ⟨rfl, rfl⟩
    rw [List.getElem?_map] at hx
    obtain ⟨a, ha, rfl⟩ := Option.map_eq_some_iff.mp hx
    obtain ⟨P2, tg, he, hw⟩ := step a (List.mem_of_getElem? ha)
    have hr : r < l.length := (List.getElem?_eq_some_iff.mp ha).1
    refine ⟨by simp; omega, P2, tg, true, P2, ExB.yes, fun z => (by cases z), fun _ => ⟨F a, P2, he, hw, ?_⟩⟩
    rw [List.take_add_one, ha]
    simp)
  rw [List.length_map, List.take_length] at e
  rw [e] at k
  exact k
end
end Qn
set_option Elab.async false
set_option linter.all false
set_option maxHeartbeats 1000000
set_option maxRecDepth 100000
/-! Qn4: defs by what is known of the slots -/
namespace Qn
open PySem PySem.Spec L2 Dn Pn
def addrs : List PV → List Nat
  | [] => []
  | .c (some n) _ :: ps => n :: addrs ps
  | .c none _ :: ps => addrs ps
  | .d _ :: ps => addrs ps
  | .any :: ps => addrs ps
def fOf (S : Store) (as : List Nat) : Fr := fun j => if j ∈ as then none else S[j]?
def ArgP (S : Store) (x : D) : PV → Prop
  | .any => True
  | .d v => x = v
  | .c (some n) c => x = .ref n ∧ S[n]? = some c
  | .c none _ => False
def ArgsP (S : Store) : List D → List PV → Prop
  | [], [] => True
  | x :: xs, p :: ps => ArgP S x p ∧ ArgsP S xs ps
  | _, _ => False
section
variable {f : Fr} {P P' : PE} {Ps : List PV} {E E' : Dn.Env} {S S' : Store} {i j n a k : Nat} {o : Option Nat} {c c' : Cell} {p : PV} {x v : D} {xs vs : List D} {m : DS} {ou : Out}
theorem ArgsP.len : ∀ {xs : List D} {ps : List PV}, ArgsP S xs ps → xs.length = ps.length
  | [], [], _ => rfl
  | _ :: _, _ :: _, h => by rw [List.length_cons, List.length_cons, h.2.len]
theorem ArgsP.get : ∀ {xs : List D} {ps : List PV} {i : Nat} {p : PV}, ArgsP S xs ps → ps[i]? = some p → ∃ x, xs[i]? = some x ∧ ArgP S x p
  | [], [], _, _, _, e => by simp at e
  | x :: xs, q :: ps, 0, p, h, e => by simp at e; subst e; exact ⟨x, rfl, h.1⟩
  | x :: xs, q :: ps, i + 1, p, h, e => by
    obtain ⟨y, h1, h2⟩ := ArgsP.get (i := i) h.2 (by simpa using e)
    exact ⟨y, by simpa using h1, h2⟩
theorem addrs_mem : ∀ {ps : List PV} {i n : Nat} {c : Cell}, ps[i]? = some (.c (some n) c) → n ∈ addrs ps
  | [], _, _, _, e => by simp at e
  | q :: ps, 0, n, c, e => by simp at e; subst e; exact List.mem_cons_self ..
  | q :: ps, i + 1, n, c, e => by
    have := addrs_mem (i := i) (ps := ps) (by simpa using e)
    cases q with
    | any => exact this
    | d v => exact this
    | c o c' => cases o with
      | none => exact this
      | some k => exact List.mem_cons_of_mem _ this
theorem addrs_get : ∀ {ps : List PV} {n : Nat}, n ∈ addrs ps → ∃ (i : Nat) (c : Cell), ps[i]? = some (.c (some n) c)
  | [], n, h => by cases h
  | q :: ps, n, h => by
    have tl : n ∈ addrs ps → ∃ (i : Nat) (c : Cell), (q :: ps)[i]? = some (.c (some n) c) := fun h => by
      obtain ⟨i, c, e⟩ := addrs_get h
      exact ⟨i + 1, c, by simpa using e⟩
    cases q with
    | any => exact tl h
    | d v => exact tl h
    | c o c' => cases o with
      | none => exact tl h
      | some k =>
        rcases List.mem_cons.mp h with rfl | h
        · exact ⟨0, c', rfl⟩
        · exact tl h
theorem addrs_uniq : ∀ {ps : List PV} {i j n : Nat} {c c' : Cell}, (addrs ps).Nodup → ps[i]? = some (.c (some n) c) → ps[j]? = some (.c (some n) c') → i = j
  | [], _, _, _, _, _, _, e, _ => by simp at e
  | q :: ps, 0, 0, _, _, _, _, _, _ => rfl
  | q :: ps, 0, j + 1, n, c, c', h, e, e' => by
    simp at e
    subst e
    exact absurd (addrs_mem (ps := ps) (i := j) (by simpa using e')) (List.nodup_cons.mp h).1
  | q :: ps, i + 1, 0, n, c, c', h, e, e' => by
    simp at e'
    subst e'
    exact absurd (addrs_mem (ps := ps) (i := i) (by simpa using e)) (List.nodup_cons.mp h).1
  | q :: ps, i + 1, j + 1, n, c, c', h, e, e' => by
    have hn : (addrs ps).Nodup := by
      cases q with
      | any => exact h
      | d v => exact h
      | c o c' => cases o with
        | none => exact h
        | some k => exact (List.nodup_cons.mp h).2
    rw [addrs_uniq (i := i) (j := j) hn (by simpa using e) (by simpa using e')]
theorem Sd.start (hx : ArgsP S xs Ps) (nd : (addrs Ps).Nodup) (k : Nat) : Sd (fOf S (addrs Ps)) (Ps ++ List.replicate k .any) (xs.map some ++ List.replicate k none) S := by
  have hl := hx.len
  have getP : ∀ {i : Nat} {p : PV}, (Ps ++ List.replicate k .any)[i]? = some p → (Ps[i]? = some p) ∨ p = .any := fun {i p} e => by
    by_cases hi : i < Ps.length
    · rw [List.getElem?_append_left hi] at e; exact .inl e
    · rw [List.getElem?_append_right (by omega)] at e
      have := List.mem_of_getElem? e
      exact .inr (List.mem_replicate.mp this).2
  have getE : ∀ {i : Nat} {x : D}, xs[i]? = some x → (xs.map some ++ List.replicate k none)[i]? = some (some x) := fun {i x} e => by
    have hi := (List.getElem?_eq_some_iff.mp e).1
    rw [List.getElem?_append_left (by simpa using hi), List.getElem?_map, e]
    rfl
  refine ⟨by simp [hl], fun n c e => ?_, fun i p e => ?_, fun i j oi oj ci cj n hi hj ei ej => ?_⟩
  · unfold fOf at e
    split at e
    · cases e
    · exact e
  · rcases getP e with e | rfl
    · obtain ⟨x, h1, h2⟩ := hx.get e
      rw [getE h1]
      cases p with
      | any => trivial
      | d v => obtain rfl : x = v := h2; rfl
      | c o c => cases o with
        | none => exact h2.elim
        | some n =>
          obtain ⟨rfl, h3⟩ := h2
          exact ⟨n, rfl, h3, if_pos (addrs_mem e), fun m z => by cases z; rfl⟩
    · trivial
  · rcases getP hi with hi | z
    · rcases getP hj with hj | z
      · obtain ⟨x, h1, h2⟩ := hx.get hi
        obtain ⟨y, h3, h4⟩ := hx.get hj
        rw [getE h1] at ei
        rw [getE h3] at ej
        cases ei; cases ej
        cases oi with
        | none => exact h2.elim
        | some ni => cases oj with
          | none => exact h4.elim
          | some nj =>
            obtain ⟨z1, _⟩ := h2
            obtain ⟨z2, _⟩ := h4
            cases z1; cases z2
            exact addrs_uniq nd hi hj
      · cases z
    · cases z
/-- nothing is known of the slots any more -/
theorem QS.rtA {n : Nat} {s : DS} (h : QS P s (.rt v P')) (hl : P'.length = n := by rfl) : QS P s (.rt v (List.replicate n .any)) := fun f E S t => by
  have q := h f E S t
  cases e : s E S with
  | rt d S' =>
    rw [e] at q
    obtain ⟨q1, E', t'⟩ := q
    refine ⟨q1, E', by rw [List.length_replicate, t'.len, hl], t'.fr, fun i p e => ?_, fun i j o o' c c' n hi => ?_⟩
    · have := (List.mem_replicate.mp (List.mem_of_getElem? e)).2
      subst this
      trivial
    · have := (List.mem_replicate.mp (List.mem_of_getElem? hi)).2
      cases this
  | _ => rw [e] at q; exact q.elim
/-- what stands elsewhere is a prefix with other cells at the named places -/
theorem eq_set {S S' : Store} {n : Nat} {c c' : Cell} (h : S[n]? = some c) (hn : S'[n]? = some c') (ho : ∀ (j : Nat) (d : Cell), j ≠ n → S[j]? = some d → S'[j]? = some d) : ∃ g, S' = S.set n c' ++ g := by
  have hl : S.length ≤ S'.length := by
    by_cases z : S.length = 0
    · omega
    · have : ∃ d, S'[S.length - 1]? = some d := by
        by_cases q : S.length - 1 = n
        · exact ⟨c', by rw [q]; exact hn⟩
        · exact ⟨_, ho _ _ q (List.getElem?_eq_getElem (by omega))⟩
      obtain ⟨d, e⟩ := this
      have := get_lt e
      omega
  refine ⟨S'.drop S.length, ?_⟩
  have e : S.set n c' = S'.take S.length := by
    apply List.ext_getElem?
    intro j
    by_cases hj : j < S.length
    · rw [List.getElem?_take_of_lt hj]
      by_cases q : n = j
      · subst q; rw [List.getElem?_set_self hj, hn]
      · rw [List.getElem?_set_ne q, List.getElem?_eq_getElem hj, ho j _ (Ne.symm q) (List.getElem?_eq_getElem hj)]
    · rw [List.getElem?_eq_none (by simp; omega), List.getElem?_eq_none (by simp; omega)]
  rw [e, List.take_append_drop]
theorem eq_pre {S S' : Store} (ho : ∀ (j : Nat) (d : Cell), S[j]? = some d → S'[j]? = some d) : ∃ g, S' = S ++ g := by
  cases h : S[0]? with
  | none =>
    have : S = [] := by
      cases S with
      | nil => rfl
      | cons => simp at h
    exact ⟨S', by rw [this]; rfl⟩
  | some c =>
    obtain ⟨g, e⟩ := eq_set h (ho 0 c h) fun j d _ => ho j d
    rw [set_same h] at e
    exact ⟨g, e⟩
/-- a def that changes none of its arguments' cells: data -/
theorem fn_ok {m : DS} (hl : Ps.length = a) (h : QS (Ps ++ List.replicate (k - a) .any) m (.rt v P')) (hk : ∀ (i n : Nat) (c : Cell), Ps[i]? = some (.c (some n) c) → P'[i]? = some (.c (some n) c)) (hv : D.lt 0 v = true) (nd : (addrs Ps).Nodup) (hx : ArgsP S xs Ps) : trimF (dDef a k m) xs S = .ok v S := by
  have q := h _ _ _ (Sd.start hx nd (k - a))
  cases e : m (xs.map some ++ List.replicate (k - a) none) S with
  | rt d S' =>
    rw [e] at q
    obtain ⟨rfl, E', t⟩ := q
    obtain ⟨g, rfl⟩ := eq_pre (S := S) (S' := S') fun j d hj => by
      by_cases z : j ∈ addrs Ps
      · obtain ⟨i, c, hi⟩ := addrs_get z
        obtain ⟨n', a1, a2, a3, a4⟩ := t.cell (hk i j c hi)
        obtain rfl := a4 j rfl
        obtain ⟨x, b1, b2⟩ := hx.get hi
        rw [b2.2] at hj
        cases hj
        exact a2
      · exact t.fr j d ((if_neg z).trans hj)
    exact trimF_pure (dDef_rt (by rw [hx.len, hl]) rfl e) (D.lt_mono (Nat.zero_le _) hv)
  | _ => rw [e] at q; exact q.elim
/-- .. that changes the first one's cell -/
theorem fn_box {m : DS} {Qs : List PV} (hl : Qs.length + 1 = a) (h : QS (.c (some n) c :: Qs ++ List.replicate (k - a) .any) m (.rt v P')) (h0 : P'[0]? = some (.c (some n) c')) (hk : ∀ (i r : Nat) (d : Cell), Qs[i]? = some (.c (some r) d) → P'[i + 1]? = some (.c (some r) d)) (hv : D.lt 0 v = true) (hc : c'.lt 0 = true) (nd : (addrs (.c (some n) c :: Qs)).Nodup) (hn : S[n]? = some c) (hx : ArgsP S xs Qs) : trimF (dDef a k m) (.ref n :: xs) S = .ok v (S.set n c') := by
  have hx' : ArgsP S (.ref n :: xs) (.c (some n) c :: Qs) := ⟨⟨rfl, hn⟩, hx⟩
  have q := h _ _ _ (Sd.start hx' nd (k - a))
  cases e : m ((D.ref n :: xs).map some ++ List.replicate (k - a) none) S with
  | rt d S' =>
    rw [e] at q
    obtain ⟨rfl, E', t⟩ := q
    obtain ⟨n', a1, a2, a3, a4⟩ := t.cell h0
    obtain rfl := a4 n rfl
    obtain ⟨g, rfl⟩ := eq_set (S := S) (S' := S') hn a2 fun j d hne hj => by
      by_cases z : j ∈ addrs (.c (some n') c :: Qs)
      · have z' : j ∈ addrs Qs := (List.mem_cons.mp z).resolve_left hne
        obtain ⟨i, cc, hi⟩ := addrs_get z'
        obtain ⟨n2, b1, b2, b3, b4⟩ := t.cell (hk i j cc hi)
        obtain rfl := b4 j rfl
        obtain ⟨x, d1, d2⟩ := hx.get hi
        rw [d2.2] at hj
        cases hj
        exact b2
      · exact t.fr j d ((if_neg z).trans hj)
    have hcl : c'.lt S.length = true := by
      cases c' with
      | lst ys => exact D.lts_mono (Nat.zero_le _) hc
      | frz ys => exact D.lts_mono (Nat.zero_le _) hc
      | ins r fs => exact D.ltf_mono (Nat.zero_le _) hc
      | dK kvs =>
        simp only [Cell.lt, kvLt, List.all_eq_true] at hc ⊢
        exact fun x hx => D.lt_mono (Nat.zero_le _) (hc x hx)
      | dT kvs =>
        simp only [Cell.lt, kvLt, List.all_eq_true] at hc ⊢
        exact fun x hx => D.lt_mono (Nat.zero_le _) (hc x hx)
    exact trimF_ok (dDef_rt (by rw [hx'.len, List.length_cons, hl]) rfl e) (by simp) (D.lt_mono (Nat.zero_le _) hv) (Pn.Same.set g hcl)
  | _ => rw [e] at q; exact q.elim
/-- .. that hands back a new cell -/
theorem fn_new {m : DS} (hl : Ps.length = a) (h : QS (Ps ++ List.replicate (k - a) .any) m (.rn c P')) (hk : ∀ (i n : Nat) (c : Cell), Ps[i]? = some (.c (some n) c) → P'[i]? = some (.c (some n) c)) (nd : (addrs Ps).Nodup) (hx : ArgsP S xs Ps) : ∃ r g, dDef a k m xs S = .ok (.ref r) (S ++ g) ∧ S.length ≤ r ∧ (S ++ g)[r]? = some c := by
  have q := h _ _ _ (Sd.start hx nd (k - a))
  cases e : m (xs.map some ++ List.replicate (k - a) none) S with
  | rt d S' =>
    rw [e] at q
    obtain ⟨r, E', rfl, hr, t⟩ := q
    have back : ∀ (j : Nat) (d : Cell), S[j]? = some d → S'[j]? = some d ∧ j ≠ r := fun j d hj => by
      by_cases z : j ∈ addrs Ps
      · obtain ⟨i, c, hi⟩ := addrs_get z
        obtain ⟨n', a1, a2, a3, a4⟩ := t.cell (hk i j c hi)
        obtain rfl := a4 j rfl
        obtain ⟨x, b1, b2⟩ := hx.get hi
        rw [b2.2] at hj
        cases hj
        exact ⟨a2, fun z => by rw [z, Fr.add_same] at a3; cases a3⟩
      · have hf : fOf S (addrs Ps) j = some d := (if_neg z).trans hj
        have hne : j ≠ r := fun q => by rw [q, hr] at hf; cases hf
        exact ⟨t.fr j d (by rw [Fr.add_ne _ hne]; exact hf), hne⟩
    obtain ⟨g, rfl⟩ := eq_pre (S := S) (S' := S') fun j d hj => (back j d hj).1
    refine ⟨r, g, dDef_rt (by rw [hx.len, hl]) rfl e, ?_, t.addc⟩
    by_cases z : r < S.length
    · exact absurd rfl (back r S[r] (List.getElem?_eq_getElem z)).2
    · omega
  | _ => rw [e] at q; exact q.elim
/-- .. that changes the first one's cell and hands back a new one -/
theorem fn_boxN {m : DS} {Qs : List PV} {cz : Cell} (hl : Qs.length + 1 = a) (h : QS (.c (some n) c :: Qs ++ List.replicate (k - a) .any) m (.rn cz P')) (h0 : P'[0]? = some (.c (some n) c')) (hk : ∀ (i r : Nat) (d : Cell), Qs[i]? = some (.c (some r) d) → P'[i + 1]? = some (.c (some r) d)) (nd : (addrs (.c (some n) c :: Qs)).Nodup) (hn : S[n]? = some c) (hx : ArgsP S xs Qs) : ∃ r g, dDef a k m (.ref n :: xs) S = .ok (.ref r) (S.set n c' ++ g) ∧ S.length ≤ r ∧ (S.set n c' ++ g)[r]? = some cz := by
  have hx' : ArgsP S (.ref n :: xs) (.c (some n) c :: Qs) := ⟨⟨rfl, hn⟩, hx⟩
  have q := h _ _ _ (Sd.start hx' nd (k - a))
  cases e : m ((D.ref n :: xs).map some ++ List.replicate (k - a) none) S with
  | rt d S' =>
    rw [e] at q
    obtain ⟨r, E', rfl, hr, t⟩ := q
    obtain ⟨n', a1, a2, a3, a4⟩ := t.cell h0
    obtain rfl := a4 n rfl
    have hnr : n' ≠ r := fun z => by rw [z, Fr.add_same] at a3; cases a3
    have back : ∀ (j : Nat) (d : Cell), j ≠ n' → S[j]? = some d → S'[j]? = some d ∧ j ≠ r := fun j d hne hj => by
      by_cases z : j ∈ addrs (.c (some n') c :: Qs)
      · have z' : j ∈ addrs Qs := (List.mem_cons.mp z).resolve_left hne
        obtain ⟨i, cc, hi⟩ := addrs_get z'
        obtain ⟨n2, b1, b2, b3, b4⟩ := t.cell (hk i j cc hi)
        obtain rfl := b4 j rfl
        obtain ⟨x, d1, d2⟩ := hx.get hi
        rw [d2.2] at hj
        cases hj
        exact ⟨b2, fun z => by rw [z, Fr.add_same] at b3; cases b3⟩
      · have hf : fOf S (addrs (.c (some n') c :: Qs)) j = some d := (if_neg z).trans hj
        have hne : j ≠ r := fun q => by rw [q, hr] at hf; cases hf
        exact ⟨t.fr j d (by rw [Fr.add_ne _ hne]; exact hf), hne⟩
    obtain ⟨g, rfl⟩ := eq_set (S := S) (S' := S') hn a2 fun j d hne hj => (back j d hne hj).1
    refine ⟨r, g, dDef_rt (by rw [hx'.len, List.length_cons, hl]) rfl e, ?_, t.addc⟩
    by_cases z : r < S.length
    · by_cases q : r = n'
      · exact absurd q.symm hnr
      · exact absurd rfl (back r S[r] q (List.getElem?_eq_getElem z)).2
    · omega
  | _ => rw [e] at q; exact q.elim
/-- .. of data alone -/
theorem ArgsP.data : ∀ {vs : List D}, ArgsP S vs (vs.map .d)
  | [] => trivial
  | _ :: _ => ⟨rfl, ArgsP.data⟩
theorem addrs_data : ∀ {vs : List D}, addrs (vs.map .d) = []
  | [] => rfl
  | _ :: vs => addrs_data (vs := vs)
theorem data_no : ∀ {vs : List D} {i : Nat} {o : Option Nat} {c : Cell}, (vs.map PV.d)[i]? ≠ some (.c o c) := fun {vs i o c} e => by
  rw [List.getElem?_map] at e
  obtain ⟨x, _, z⟩ := Option.map_eq_some_iff.mp e
  cases z
theorem fn_data {m : DS} (hl : vs.length = a) (h : QS (vs.map .d ++ List.replicate (k - a) .any) m (.rt v P')) (hv : D.lt 0 v = true) : OpF [] (trimF (dDef a k m)) vs v := fun S _ =>
  fn_ok (Ps := vs.map .d) (by rw [List.length_map, hl]) h (fun i n c e => absurd e data_no) hv (by rw [addrs_data]; exact .nil) ArgsP.data
end
end Qn
set_option Elab.async false
set_option linter.all false
set_option maxHeartbeats 1000000
set_option maxRecDepth 100000
/-! Qn5: operations on data -/
namespace Qn
open PySem PySem.Spec L2 Dn Pn
section
variable {P P' P0 P1 P2 P3 : PE} {E : Dn.Env} {S : Store} {i j n k s m a : Nat} {o : Option Nat} {c : Cell} {x y z v : D} {ma mb mc md : DE} {da : DA} {xs ys vs : List D} {g : Gate}
theorem t_add {i j : Int} : ∀ S, vAdd (.int i) (.int j) S = .ok (.int (i + j)) S := fun _ => rfl
theorem t_sub {i j : Int} : ∀ S, vSub (.int i) (.int j) S = .ok (.int (i - j)) S := fun _ => rfl
theorem t_subN {i j : Nat} (h : j ≤ i) : ∀ S, vSub (.int (i : Nat)) (.int (j : Nat)) S = .ok (.int ((i - j : Nat) : Int)) S := fun _ => by
  rw [Int.natCast_sub h]; rfl
theorem t_cmp {p : Int → Int → Bool} {i j : Int} : ∀ S, vCmp p (.int i) (.int j) S = .ok (.bl (p i j)) S := fun _ => rfl
theorem t_eqI {i j : Int} : ∀ S, vEq (.int i) (.int j) S = .ok (.bl (decide (i = j))) S := fun _ => e_eqI
theorem t_neI {i j : Int} : ∀ S, vNe (.int i) (.int j) S = .ok (.bl (!decide (i = j))) S := fun S => by
  rw [vNe_of (p := .int i) (q := .int j) rfl rfl ((Ok.int i).shaped (by decide)) ((Ok.int j).shaped (by decide))]
  simp only [PyData.eqv]
  by_cases h : i = j <;> simp [h]
theorem t_mod {i j : Int} (h : 0 < j) : ∀ S, vMod (.int i) (.int j) S = .ok (.int (i % j)) S := fun _ => e_mod h
theorem t_div {i j : Int} (h : 0 < j) (h2 : j < 1073741824) : ∀ S, vDiv (.int i) (.int j) S = .ok (.int (i / j)) S := fun _ => e_div h h2
theorem t_mulR {i j : Int} (h : small64 j = true) : ∀ S, vMul (.int i) (.int j) S = .ok (.int (i * j)) S := fun _ => e_mulR h
theorem t_mulL {i j : Int} (h : small64 i = true) : ∀ S, vMul (.int i) (.int j) S = .ok (.int (i * j)) S := fun _ => e_mulL h
theorem t_ixT {i : Nat} (h : xs[i]? = some x) : ∀ S, vIx (.tup xs) (.int (i : Nat)) S = .ok x S := fun _ => e_ixT (ixN_nat (get_lt' h)) h
where get_lt' {xs : List D} {i : Nat} {x : D} (h : xs[i]? = some x) : i < xs.length := (List.getElem?_eq_some_iff.mp h).1
theorem t_ixL {i : Nat} (h : xs[i]? = some x) : ∀ S n, S[n]? = some (.lst xs) → vIx (.ref n) (.int (i : Nat)) S = .ok x S := fun _ _ e => e_ixL e (ixN_nat (List.getElem?_eq_some_iff.mp h).1) h
theorem t_isnotT : ∀ S, vIsNot (.bl true) (.bl true) S = .ok (.bl false) S := fun _ => rfl
theorem t_row (h : k < g.length) : ∀ S, vIx (gateD g) (.int (k : Nat)) S = .ok (rowD (g.getD k [])) S := by
  refine t_ixT ?_
  rw [List.getElem?_map, List.getElem?_eq_getElem h, List.getD_eq_getElem?_getD, List.getElem?_eq_getElem h]
  rfl
theorem t_cell {r : List (Nat × Nat)} (h : i < r.length) : ∀ S, vIx (rowD r) (.int (i : Nat)) S = .ok (pairD (r.getD i (0, 0))) S := by
  refine t_ixT ?_
  rw [List.getElem?_map, List.getElem?_eq_getElem h, List.getD_eq_getElem?_getD, List.getElem?_eq_getElem h]
  rfl
theorem rows_len {s m k : Nat} {g : Gate} (h : Shape s m g) (hk : k < m) : (g.getD k []).length = s := by
  have hl := h.len
  rw [List.getD_eq_getElem?_getD, List.getElem?_eq_getElem (by omega)]
  exact h.rows _ (List.getElem_mem _)
/-- gate[mark][side] -/
theorem Ex.cell (h : Shape s m g) (hk : k < m) (hi : i < s) (h1 : Ex P ma (gateD g) P1) (h2 : Ex P1 mb (.int (k : Nat)) P2) (h3 : Ex P2 mc (.int (i : Nat)) P3) : Ex P (dBin vIx (dBin vIx ma mb) mc) (pairD (FF g k i)) P3 := by
  have hl := h.len
  exact .bin (.bin h1 h2 (t_row (by omega))) h3 (t_cell (by rw [rows_len h hk]; exact hi))
theorem t_pr1 {p : Nat × Nat} : ∀ S, vIx (pairD p) (.int 0) S = .ok (.int (p.1 : Nat)) S := t_ixT (i := 0) rfl
theorem t_pr2 {p : Nat × Nat} : ∀ S, vIx (pairD p) (.int 1) S = .ok (.int (p.2 : Nat)) S := t_ixT (i := 1) rfl
theorem t_neS {d : D} (h : Da k d) (hk : k ≤ 64) : ∀ S, vNe d d S = .ok (.bl false) S := fun S => op_neS (A := []) h hk S List.nil_prefix
theorem t_eqS {d : D} (h : Da k d) (hk : k ≤ 64) : ∀ S, vEq d d S = .ok (.bl true) S := fun S => by
  obtain ⟨p, h1, h2⟩ := h.py (rf := pyN S 3)
  exact eq_self h1 h2 hk
theorem t_intB {b : Bool} : ∀ S, bInt [.bl b] S = .ok (.int (if b then 1 else 0)) S := fun _ => rfl
theorem Ex.intB {b : Bool} (h : Ex P ma (.bl b) P1) : Ex P (dCall bInt (aCons ma aNil)) (.int (if b then 1 else 0)) P1 := .call (.one h) t_intB
/-- draws -/
theorem Ex.draw {v s c : Int} {m : Nat} (hi : P[i]? = some (.c o c0)) (h : Ex P ma (.int (m : Nat)) P1) (hP : P1[i]? = some (.c o (boxC v s c))) (h1 : 0 < m) (h2 : m ≤ 1000000) : ∃ (d : Nat) (v' s' c' : Int), d < m ∧ Ex P (dCall FTake (aCons (dVar i) (aCons ma aNil))) (.int (d : Nat)) (P1.set i (.c o (boxC v' s' c'))) := by
  have key := fun (st : Store) (n : Nat) => FTake_ok (st := st) (n := n) (m := (m : Int)) (v := v) (s := s) (c := c)
  obtain ⟨d, v', s', c', hd, hb⟩ : ∃ (d : Nat) (v' s' c' : Int), d < m ∧ ∀ S n, S[n]? = some (boxC v s c) → FTake [.ref n, .int (m : Nat)] S = .ok (.int (d : Nat)) (S.set n (boxC v' s' c')) := by
    have e := fun S n (h : S[n]? = some (boxC v s c)) => Pn.draw (A := S) (n := n) h h1 h2
    obtain ⟨d, v', s', c', hd, he⟩ := e [boxC v s c] 0 rfl
    have k0 := key [boxC v s c] 0 rfl (by omega) (by omega)
    rw [he] at k0
    refine ⟨d, v', s', c', hd, fun S n h => ?_⟩
    rw [key S n h (by omega) (by omega)]
    have k1 : ([boxC v s c].set 0 (boxC v' s' c')) = [boxC v s c].set 0 (boxC (boxV v m) (boxS v s c) (boxN v c)) := by
      injection k0
    have k2 : D.int (d : Nat) = D.int (digit v s c m) := by injection k0
    have k3 : boxC v' s' c' = boxC (boxV v m) (boxS v s c) (boxN v c) := by
      have := congrArg (fun l : Store => l[0]?) k1
      simpa using this
    rw [k2, k3]
  refine ⟨d, v', s', c', hd, ?_⟩
  have hm : ExM P (aCons (dVar i) (aCons ma aNil)) [.h (some i) (boxC v s c), .d (.int (m : Nat))] P1 := by
    intro f E S st
    obtain ⟨n, e1, e2, _⟩ := st.cell hi
    obtain ⟨S1, e3, s1⟩ := h f E S st
    have hv : dVar i E S = .ok (.ref n) S := by unfold dVar; rw [e1]
    exact ⟨[.ref n, .int (m : Nat)], S1, f, by rw [e_acons, hv, Dn.R.bind_ok, e_acons, e3, Dn.R.bind_ok, e_anil, Dn.R.bind_ok, Dn.R.bind_ok], s1, Sub.refl f, ⟨⟨n, rfl, e1⟩, rfl, trivial⟩, .nil, fun n h => by cases h⟩
  refine Ex.callW (as := [.d (.int (m : Nat))]) hm hP ⟨trivial, trivial⟩ fun S n xs hc ha => ?_
  cases xs with
  | nil => exact ha.elim
  | cons x xs => cases xs with
    | nil =>
      obtain ⟨rfl, _⟩ := ha
      exact hb S n hc
    | cons y ys => exact ha.2.elim
/-- a call that takes from a slot's box: F(box, data..) -/
theorem Ex.boxed {F : DF} {c' : Cell} (hi : P[i]? = some (.c o c0)) (h : ExA P da vs P1) (hP : P1[i]? = some (.c o c)) (hF : ∀ S n, S[n]? = some c → F (.ref n :: vs) S = .ok v (S.set n c')) : Ex P (dCall F (aCons (dVar i) da)) v (P1.set i (.c o c')) := fun f E S st => by
  obtain ⟨n, e1, e2, _⟩ := st.cell hi
  obtain ⟨S1, e3, s1⟩ := h f E S st
  obtain ⟨n', e1', e4, _⟩ := s1.cell hP
  rw [e1] at e1'
  cases e1'
  have hv : dVar i E S = .ok (.ref n) S := by unfold dVar; rw [e1]
  exact ⟨_, by rw [e_call, e_acons, hv, Dn.R.bind_ok, e3, Dn.R.bind_ok, Dn.R.bind_ok, hF _ _ e4], s1.write hP e1 c'⟩
/-- list(range(n)) -/
theorem rg_ok {r : Nat} (h : r ≤ 1000000) : rgOk 0 (r : Int) = true := by
  unfold rgOk
  rw [show smallR 0 = true from by decide, small_nat h]
  simp only [Bool.true_and, decide_eq_true_eq]
  omega
theorem ExN.listRg {r : Nat} (h : Ex P ma (.int (r : Nat)) P1) (hr : r ≤ 1000000) : ExN P (dListRg ma) (.lst (rngD 0 r)) P1 := fun f E S st => by
  obtain ⟨S1, e1, s1⟩ := h f E S st
  obtain ⟨q1, q2⟩ := s1.newAt (g := [.lst (rngD 0 r)]) (n := S1.length) (c := .lst (rngD 0 r)) (Nat.le_refl _) (by simp)
  refine ⟨_, _, ?_, q1, q2⟩
  unfold dListRg
  rw [e1, Dn.R.bind_ok]
  dsimp only
  rw [if_pos (rg_ok hr)]
  rfl
/-! ### parallel assignment -/
def parE (E : Dn.Env) : List Nat → List D → Dn.Env
  | i :: is, x :: xs => parE (E.set i (some x)) is xs
  | _, _ => E
def parP (P : PE) : List Nat → List Arg → PE
  | i :: is, .d v :: as => parP (P.set i (.d v)) is as
  | i :: is, .h none c :: as => parP (P.set i (.c none c)) is as
  | i :: is, .h (some _) _ :: as => parP (P.set i .any) is as
  | _, _ => P
def Fr.del (f : Fr) (n : Nat) : Fr := fun k => if k = n then none else f k
theorem Sd.takeD {f : Fr} (h : Sd f P E S) (hn : f n = some c) (i : Nat) : Sd (f.del n) (P.set i (.c none c)) (E.set i (some (.ref n))) S := by
  have h1 : Sd ((f.del n).add n c) P E S := h.weak fun k d e => by
    by_cases z : k = n
    · subst z; rw [Fr.add_same] at e; cases e; exact hn
    · rw [Fr.add_ne _ z] at e
      unfold Fr.del at e
      rw [if_neg z] at e
      exact e
  exact h1.take (by unfold Fr.del; rw [if_pos rfl]) i
theorem par_ok {f : Fr} : ∀ (is : List Nat) (as : List Arg) (xs : List D) (f' : Fr) (P : PE) (E0 E : Dn.Env), is.length = as.length → Sd f' P E S → ArgsOk f f' E0 xs as → (freshA xs as).Nodup → (∀ n ∈ freshA xs as, f n = none) → Sub f f' → Sd f (parP P is as) (parE E is xs) S
  | [], [], [], f', P, E0, E, _, h, _, _, _, u => h.weak u
  | i :: is, .d v :: as, x :: xs, f', P, E0, E, hl, h, ha, nd, hf, u => by
    obtain ⟨rfl, ha⟩ := ha
    have e : freshA (x :: xs) (.d x :: as) = freshA xs as := by cases x <;> rfl
    rw [e] at nd hf
    exact par_ok is as xs f' _ E0 _ (by simpa using hl) (h.setD i x) ha nd hf u
  | i :: is, .h none c :: as, x :: xs, f', P, E0, E, hl, h, ha, nd, hf, u => by
    obtain ⟨⟨n, rfl, hn⟩, ha⟩ := ha
    have nd' : (n :: freshA xs as).Nodup := nd
    obtain ⟨n1, n2⟩ := List.nodup_cons.mp nd'
    have hf' : ∀ r ∈ n :: freshA xs as, f r = none := hf
    have sub : ∀ (xs : List D) (as : List Arg), n ∉ freshA xs as → ArgsOk f f' E0 xs as → ArgsOk f (f'.del n) E0 xs as := fun xs as => by
      induction xs generalizing as with
      | nil => cases as with
        | nil => exact fun _ h => h
        | cons => exact fun _ h => h.elim
      | cons y ys ih => cases as with
        | nil => exact fun _ h => h.elim
        | cons b bs => cases b with
          | d w =>
            intro hm ho
            have e : freshA (y :: ys) (.d w :: bs) = freshA ys bs := by cases y <;> rfl
            rw [e] at hm
            exact ⟨ho.1, ih _ hm ho.2⟩
          | h k c' =>
            intro hm ho
            obtain ⟨⟨r, rfl, hr⟩, ho⟩ := ho
            cases k with
            | none =>
              have hm' : n ∉ r :: freshA ys bs := hm
              refine ⟨⟨r, rfl, hr.1, ?_⟩, ih _ (fun z => hm' (List.mem_cons_of_mem _ z)) ho⟩
              unfold Fr.del
              rw [if_neg fun z => hm' (by simp [z])]
              exact hr.2
            | some q => exact ⟨⟨r, rfl, hr⟩, ih _ hm ho⟩
    refine par_ok is as xs (f'.del n) _ E0 _ (by simpa using hl) (h.takeD hn.2 i) (sub xs as n1 ha) n2 (fun r hr => hf' r (List.mem_cons_of_mem _ hr)) fun r d e => ?_
    unfold Fr.del
    rw [if_neg fun z => by subst z; rw [hn.1] at e; cases e]
    exact u r d e
  | i :: is, .h (some q) c :: as, x :: xs, f', P, E0, E, hl, h, ha, nd, hf, u => by
    obtain ⟨⟨n, rfl, hn⟩, ha⟩ := ha
    exact par_ok is as xs f' _ E0 _ (by simpa using hl) (h.setAny i _) ha nd hf u
  | [], [], x :: xs, _, _, _, _, _, _, ha, _, _, _ => ha.elim
  | i :: is, .d v :: as, [], _, _, _, _, _, _, ha, _, _, _ => ha.elim
  | i :: is, .h _ _ :: as, [], _, _, _, _, _, _, ha, _, _, _ => ha.elim
  | [], _ :: _, _, _, _, _, _, hl, _, _, _, _, _ => by simp at hl
  | _ :: _, [], _, _, _, _, _, hl, _, _, _, _, _ => by simp at hl
theorem args_len {f f' : Fr} : ∀ {xs : List D} {as : List Arg}, ArgsOk f f' E xs as → xs.length = as.length
  | [], [], _ => rfl
  | _ :: _, _ :: _, h => by rw [List.length_cons, List.length_cons, args_len h.2]
theorem parE_fold : ∀ (is : List Nat) (xs : List D) (E : Dn.Env), (is.zip xs).foldl (fun env z => env.set z.1 (some z.2)) E = parE E is xs
  | [], _, _ => by simp [parE]
  | _ :: _, [], _ => by simp [parE]
  | i :: is, x :: xs, E => by
    rw [List.zip_cons_cons, List.foldl_cons, parE_fold is xs]
    rfl
theorem QS.par {is : List Nat} {as : List Arg} (h : ExM P da as P1) (hl : is.length = as.length := by rfl) : QS P (dPar is da) (.nx (parP P1 is as)) := fun f E S st => by
  obtain ⟨xs, S1, f', e1, s1, u, q1, q2, q3⟩ := h f E S st
  unfold dPar
  rw [e1, R.toS_ok, if_pos (by rw [args_len q1, hl]), parE_fold]
  exact par_ok is as xs f' P1 E E hl s1 q1 q2 q3 u
/-- a, b = x, y by the tuple: of new lists and data, to names -/
def gNs : List Nat → DGs
  | [] => gsNil
  | i :: is => gsCons (gNm i) (gNs is)
theorem gNs_ok : ∀ (is : List Nat) (xs : List D) (E : Dn.Env), is.length = xs.length → gNs is xs E S = .ok (parE E is xs) S
  | [], [], _, _ => rfl
  | i :: is, x :: xs, E, h => by
    show (match gNm i x E S with
      | .ok env1 st1 => gNs is xs env1 st1
      | _ => .bad) = _
    rw [e_gnm]
    exact gNs_ok is xs _ (by simpa using h)
  | [], _ :: _, _, h => by simp at h
  | _ :: _, [], _, h => by simp at h
theorem QS.tupM {is : List Nat} {as : List Arg} (h : ExM P da as P1) (hl : is.length = as.length) (hs : as.length ≤ sizeLine) : QS P (dAsg (dTup da) (gTp is.length (gNs is))) (.nx (parP P1 is as)) := fun f E S st => by
  obtain ⟨xs, S1, f', e1, s1, u, q1, q2, q3⟩ := h f E S st
  have hx := args_len q1
  rw [e_asg, e_tup, e1, Dn.R.bind_ok, mkTup_ok (by omega), R.toS_ok, e_gtp, if_pos (by omega), gNs_ok is xs E (by omega)]
  exact par_ok is as xs f' P1 E E hl s1 q1 q2 q3 u
end
end Qn
set_option Elab.async false
set_option linter.all false
set_option maxHeartbeats 1000000
set_option maxRecDepth 100000
/-! Qn6: more rules -/
namespace Qn
open PySem PySem.Spec L2 Dn Pn
section
variable {f : Fr} {P P' P0 P1 P2 P3 P4 : PE} {E : Dn.Env} {S : Store} {i j n k s m a : Nat} {o : Option Nat} {c c' : Cell} {x y z v w : D} {ma mb mc md : DE} {da : DA} {xs ys vs : List D} {g : DG} {Ps : List PV}
/-- a def that falls off its end -/
theorem fn_okN {m : DS} (hl : Ps.length = a) (h : QS (Ps ++ List.replicate (k - a) .any) m (.nx P')) (hk : ∀ (i n : Nat) (c : Cell), Ps[i]? = some (.c (some n) c) → P'[i]? = some (.c (some n) c)) (nd : (addrs Ps).Nodup) (hx : ArgsP S xs Ps) : trimF (dDef a k m) xs S = .ok .non S := by
  have q := h _ _ _ (Sd.start hx nd (k - a))
  cases e : m (xs.map some ++ List.replicate (k - a) none) S with
  | nx E' S' =>
    rw [e] at q
    have t : Sd _ P' E' S' := q
    obtain ⟨g, rfl⟩ := eq_pre (S := S) (S' := S') fun j d hj => by
      by_cases z : j ∈ addrs Ps
      · obtain ⟨i, c, hi⟩ := addrs_get z
        obtain ⟨n', a1, a2, a3, a4⟩ := t.cell (hk i j c hi)
        obtain rfl := a4 j rfl
        obtain ⟨x, b1, b2⟩ := hx.get hi
        rw [b2.2] at hj
        cases hj
        exact a2
      · exact t.fr j d ((if_neg z).trans hj)
    exact trimF_pure (dDef_nx (by rw [hx.len, hl]) rfl e) (by simp)
  | _ => rw [e] at q; exact q.elim
theorem fn_dataN {m : DS} (hl : vs.length = a) (h : QS (vs.map .d ++ List.replicate (k - a) .any) m (.nx P')) : OpF [] (trimF (dDef a k m)) vs .non := fun S _ =>
  fn_okN (Ps := vs.map .d) (by rw [List.length_map, hl]) h (fun i n c e => absurd e data_no) (by rw [addrs_data]; exact .nil) ArgsP.data
/-- a held cell written -/
theorem Sd.rewr (h : Sd (f.add n c) P E S) (hn : f n = none) (c' : Cell) : Sd (f.add n c') P E (S.set n c') := by
  have hc := h.addc
  have hl := get_lt hc
  refine ⟨h.len, fun k d e => ?_, fun i p e => ?_, h.sep⟩
  · by_cases z : k = n
    · subst z
      rw [Fr.add_same] at e
      cases e
      exact List.getElem?_set_self hl
    · rw [Fr.add_ne _ z] at e
      rw [List.getElem?_set_ne (Ne.symm z)]
      exact h.fr k d (by rw [Fr.add_ne _ z]; exact e)
  · have q := h.at_ i p e
    cases p with
    | any => trivial
    | d v => exact q
    | c o cc =>
      obtain ⟨r, q1, q2, q3, q4⟩ := q
      have hr : r ≠ n := fun z => by subst z; rw [Fr.add_same] at q3; cases q3
      exact ⟨r, q1, by rw [List.getElem?_set_ne (Ne.symm hr)]; exact q2, by rw [Fr.add_ne _ hr] at q3 ⊢; exact q3, q4⟩
/-- {k: v, ..} of data -/
def ExPs (P : PE) (ms : List (DE × DE)) (kvs : List (D × D)) (P' : PE) : Prop := ∀ f E S, Sd f P E S → ∃ S', dPairs ms E S = .ok kvs S' ∧ Sd f P' E S'
theorem ExPs.nil : ExPs P [] [] P := fun f E S t => ⟨S, rfl, t⟩
theorem ExPs.cons {ms : List (DE × DE)} {kvs : List (D × D)} (h1 : Ex P ma x P1) (h2 : Ex P1 mb y P2) (h : ExPs P2 ms kvs P') : ExPs P ((ma, mb) :: ms) ((x, y) :: kvs) P' := fun f E S t => by
  obtain ⟨S1, e1, t1⟩ := h1 f E S t
  obtain ⟨S2, e2, t2⟩ := h2 f E S1 t1
  obtain ⟨S3, e3, t3⟩ := h f E S2 t2
  exact ⟨S3, by unfold dPairs; rw [e1, Dn.R.bind_ok, e2, Dn.R.bind_ok, e3, Dn.R.bind_ok], t3⟩
theorem ExN.disp {ms : List (DE × DE)} {kvs : List (D × D)} {ks : List (Key × D)} (h : ExPs P ms kvs P') (hk : keyed1 kvs = some ks) (hl : ks.length ≤ 15) : ExN P (dDisp ms) (.dK (mergeD [] ks)) P' := fun f E S t => by
  obtain ⟨t1, hn⟩ := t.alloc (.dK [])
  obtain ⟨S', e, t2⟩ := h _ E _ t1
  refine ⟨S.length, S'.set S.length (.dK (mergeD [] ks)), ?_, hn, t2.rewr hn _⟩
  unfold dDisp
  rw [e, Dn.R.bind_ok]
  unfold endDisp
  rw [t2.addc, hk]
  dsimp only
  rw [if_pos hl]
/-- a comprehension that chooses and maps -/
theorem ExN.lcF {α : Type} {l : List α} {h : α → D} {W : PE → Prop} {it : DI} {tt : DB} {te : DE} {ws vs : List Nat} (F : α → D) (t : α → Bool) (hi : It P it (l.map h) P1 W) (hl : l.length ≤ sizeLine) (hW : W (wipeP P1 vs)) (hv : ∀ v ∈ ws, v ∈ vs)
    (step : ∀ x ∈ l, ∃ P2, Tg ws (wipeP P1 vs) g (h x) P2 ∧ wipeP P2 ws = wipeP P1 vs ∧ ExB P2 tt (t x) P2 ∧ (t x = true → Ex P2 te (F x) P2)) : ExN P (dLc it g tt te vs) (.lst ((l.filter t).map F)) (backP P1 (wipeP P1 vs) vs) := by
  obtain ⟨Q, acc, ⟨rfl, e⟩, k⟩ := ExN.lcP (g := g) (tt := tt) (te := te) (fun i P acc => P = wipeP P1 vs ∧ acc = ((l.take i).filter t).map F) hi ⟨rfl, by simp⟩ (fun i P acc e => by rw [e.1]; exact hW) hv (by
    rintro r x P acc hx ⟨rfl, rfl⟩
    rw [List.getElem?_map] at hx
    obtain ⟨a, ha, rfl⟩ := Option.map_eq_some_iff.mp hx
    obtain ⟨P2, tg, hw, hb, he⟩ := step a (List.mem_of_getElem? ha)
    have hr : r < l.length := (List.getElem?_eq_some_iff.mp ha).1
    refine ⟨?_, P2, tg, t a, P2, hb, fun z => ⟨hw, ?_⟩, fun z => ⟨F a, P2, he z, hw, ?_⟩⟩
    · rw [List.length_map]
      have := List.length_filter_le t (l.take r)
      rw [List.length_take] at this
      omega
    · rw [List.take_add_one, ha]
      simp [z]
    · rw [List.take_add_one, ha]
      simp [z])
  rw [List.length_map, List.take_length] at e
  rw [e] at k
  exact k
theorem rng_map_nat (k : Nat) : rngD 0 (k : Nat) = (List.range k).map fun i => D.int (i : Nat) := rng_eq k
/-- x.index of whole numbers -/
theorem idx_ints : ∀ {l : List Nat} {r z : Nat}, l.Nodup → l[r]? = some z → firstEq (l.map fun i => PyData.int (i : Nat)) (.int (z : Nat)) = some r
  | [], _, _, _, h => by simp at h
  | q :: l, 0, z, _, h => by
    simp at h
    subst h
    unfold firstEq
    rw [List.map_cons, List.findIdx?_cons]
    simp [PyData.eqv]
  | q :: l, r + 1, z, hn, h => by
    obtain ⟨n1, n2⟩ := List.nodup_cons.mp hn
    have h' : l[r]? = some z := by simpa using h
    have hz : q ≠ z := fun e => n1 (by rw [e]; exact List.mem_of_getElem? h')
    have ih := idx_ints n2 h'
    unfold firstEq at ih ⊢
    rw [List.map_cons, List.findIdx?_cons, ih]
    have : PyData.eqv (.int (q : Nat)) (.int (z : Nat)) = false := by
      simp only [PyData.eqv]
      simp; omega
    rw [this]
    rfl
theorem ints_py {rf : Nat → Option PyData} (l : List Nat) : pyWs rf (l.map fun i => D.int (i : Nat)) = some (l.map fun i => PyData.int (i : Nat)) := pyWs_map (f := fun i : Nat => D.int (i : Nat)) (h := fun i : Nat => PyData.int (i : Nat)) (fun _ => rfl) l
theorem t_index {l : List Nat} {r z : Nat} (hn : l.Nodup) (h : l[r]? = some z) : ∀ S n, S[n]? = some (.lst (l.map fun i => D.int (i : Nat))) → mIndex (.ref n) [.int (z : Nat)] S = .ok (.int (r : Nat)) S := fun S n e => by
  unfold mIndex
  dsimp only
  rw [e, show toPy S (.int (z : Nat)) = some (.int (z : Nat)) from rfl]
  dsimp only
  rw [ints_py]
  dsimp only
  rw [((Ok.int _).shaped (by decide)), ((Ok.lst (k := 0) fun p hp => by
    obtain ⟨i, _, rfl⟩ := List.mem_map.mp hp
    exact .int _).shaped (by decide)), idx_ints hn h]
  rfl
end
end Qn
set_option Elab.async false
set_option linter.all false
set_option maxHeartbeats 1000000
set_option maxRecDepth 100000
/-! Qn7: .. that ends in one of several ways -/
namespace Qn
open PySem PySem.Spec L2 Dn Pn
def EE (P : PE) (m : DE) (R : D → PE → Prop) : Prop := ∀ f E S, Sd f P E S → ∃ v P' S', R v P' ∧ m E S = .ok v S' ∧ Sd f P' E S'
def EB (P : PE) (m : DB) (R : Bool → PE → Prop) : Prop := ∀ f E S, Sd f P E S → ∃ v P' S', R v P' ∧ m E S = .ok v S' ∧ Sd f P' E S'
def EA (P : PE) (m : DA) (R : List D → PE → Prop) : Prop := ∀ f E S, Sd f P E S → ∃ v P' S', R v P' ∧ m E S = .ok v S' ∧ Sd f P' E S'
def EN (P : PE) (m : DE) (R : Cell → PE → Prop) : Prop := ∀ f E S, Sd f P E S → ∃ c P' n S', R c P' ∧ m E S = .ok (.ref n) S' ∧ f n = none ∧ Sd (f.add n c) P' E S'
def QE (P : PE) (m : DS) (O : Out → Prop) : Prop := ∀ f E S, Sd f P E S → ∃ o, O o ∧ Fits f (m E S) o
section
variable {f : Fr} {P P' P0 P1 P2 P3 P4 : PE} {E : Dn.Env} {S : Store} {i j n k s m a : Nat} {o : Option Nat} {c c' c0 : Cell} {x y z v w : D} {ma mb mc md : DE} {da : DA} {xs ys vs : List D} {g : DG} {R R1 R2 : D → PE → Prop} {O O' : Out → Prop} {st st' : DS} {nb nb' : DB} {b : Bool}
theorem Ex.ee (h : Ex P ma v P') (hr : R v P') : EE P ma R := fun f E S t => let ⟨S', e, t'⟩ := h f E S t; ⟨v, P', S', hr, e, t'⟩
theorem ExB.eb {Rb : Bool → PE → Prop} (h : ExB P nb b P') (hr : Rb b P') : EB P nb Rb := fun f E S t => let ⟨S', e, t'⟩ := h f E S t; ⟨b, P', S', hr, e, t'⟩
theorem ExN.en {Rc : Cell → PE → Prop} (h : ExN P ma c P') (hr : Rc c P') : EN P ma Rc := fun f E S t => let ⟨n, S', e, hn, t'⟩ := h f E S t; ⟨c, P', n, S', hr, e, hn, t'⟩
theorem EE.mono (h : EE P ma R1) (k : ∀ v P', R1 v P' → R v P') : EE P ma R := fun f E S t => let ⟨v, P', S', hr, e, t'⟩ := h f E S t; ⟨v, P', S', k _ _ hr, e, t'⟩
theorem QS.qe {ou : Out} (h : QS P st ou) (ho : O ou) : QE P st O := fun f E S t => ⟨ou, ho, h f E S t⟩
theorem QE.mono (h : QE P st O') (k : ∀ o, O' o → O o) : QE P st O := fun f E S t => let ⟨o, ho, q⟩ := h f E S t; ⟨o, k o ho, q⟩
theorem EE.bin {t : D → D → Store → Dn.R D} (ha : EE P ma R1) (hb : ∀ x P1, R1 x P1 → EE P1 mb fun y P2 => ∃ z, (∀ S, t x y S = .ok z S) ∧ R z P2) : EE P (dBin t ma mb) R := fun f E S s => by
  obtain ⟨x, P1, S1, r1, e1, s1⟩ := ha f E S s
  obtain ⟨y, P2, S2, ⟨z, ht, r2⟩, e2, s2⟩ := hb x P1 r1 f E S1 s1
  exact ⟨z, P2, S2, r2, by rw [e_Bin, e1, Dn.R.bind_ok, e2, Dn.R.bind_ok, ht], s2⟩
/-- a held cell and data -/
theorem EE.binH {t : D → D → Store → Dn.R D} {k : Option Nat} (ha : Hd P ma k c P1) (hb : EE P1 mb fun y P2 => Keep P2 c k ∧ ∃ z, (∀ S n, S[n]? = some c → t (.ref n) y S = .ok z S) ∧ R z P2) : EE P (dBin t ma mb) R := fun f E S s => by
  obtain ⟨n, S1, f', e1, s1, u, hh⟩ := ha f E S s
  obtain ⟨y, P2, S2, ⟨hk, z, ht, r2⟩, e2, s2⟩ := hb f' E S1 s1
  exact ⟨z, P2, S2, r2, by rw [e_Bin, e1, Dn.R.bind_ok, e2, Dn.R.bind_ok, ht _ _ (hh.get hk s2 (Sub.refl _))], s2.weak u⟩
theorem EA.nil {Ra : List D → PE → Prop} (h : Ra [] P) : EA P aNil Ra := fun f E S s => ⟨[], P, S, h, rfl, s⟩
theorem EA.cons {Ra : List D → PE → Prop} (h : EE P ma R1) (h' : ∀ x P1, R1 x P1 → EA P1 da fun xs P2 => Ra (x :: xs) P2) : EA P (aCons ma da) Ra := fun f E S s => by
  obtain ⟨x, P1, S1, r1, e1, s1⟩ := h f E S s
  obtain ⟨xs, P2, S2, r2, e2, s2⟩ := h' x P1 r1 f E S1 s1
  exact ⟨x :: xs, P2, S2, r2, by rw [e_acons, e1, Dn.R.bind_ok, e2, Dn.R.bind_ok], s2⟩
theorem ExA.ea {Ra : List D → PE → Prop} (h : ExA P da vs P') (hr : Ra vs P') : EA P da Ra := fun f E S t => let ⟨S', e, t'⟩ := h f E S t; ⟨vs, P', S', hr, e, t'⟩
theorem EE.call {F : DF} (h : EA P da fun xs P' => ∃ v, (∀ S, F xs S = .ok v S) ∧ R v P') : EE P (dCall F da) R := fun f E S s => by
  obtain ⟨xs, P1, S1, ⟨v, hF, r⟩, e1, s1⟩ := h f E S s
  exact ⟨v, P1, S1, r, by rw [e_call, e1, Dn.R.bind_ok, hF], s1⟩
theorem EE.tup (h : EA P da fun xs P' => xs.length ≤ sizeLine ∧ R (.tup xs) P') : EE P (dTup da) R := fun f E S s => by
  obtain ⟨xs, P1, S1, ⟨hl, r⟩, e1, s1⟩ := h f E S s
  exact ⟨.tup xs, P1, S1, r, by rw [e_tup, e1, Dn.R.bind_ok, mkTup_ok hl], s1⟩
theorem EN.lst {Rc : Cell → PE → Prop} (h : EA P da fun xs P' => xs.length ≤ sizeLine ∧ Rc (.lst xs) P') : EN P (dLst da) Rc := fun f E S s => by
  obtain ⟨xs, P1, S1, ⟨hl, r⟩, e1, s1⟩ := h f E S s
  obtain ⟨q1, q2⟩ := s1.newAt (g := [.lst xs]) (n := S1.length) (c := .lst xs) (Nat.le_refl _) (by simp)
  exact ⟨_, P1, _, _, r, by rw [e_lst, e1, Dn.R.bind_ok, mkLst_ok hl], q1, q2⟩
/-- F(x, data..), x a slot's cell that F changes -/
theorem EE.boxed {F : DF} (hi : P[i]? = some (.c o c0)) (h : EA P da fun vs P1 => ∃ c, P1[i]? = some (.c o c) ∧ ∀ S n, S[n]? = some c → ∃ v c', R v (P1.set i (.c o c')) ∧ F (.ref n :: vs) S = .ok v (S.set n c')) : EE P (dCall F (aCons (dVar i) da)) R := fun f E S st => by
  obtain ⟨n, e1, e2, _⟩ := st.cell hi
  obtain ⟨vs, P1, S1, ⟨c, hP, hF⟩, e3, s1⟩ := h f E S st
  obtain ⟨n', e1', e4, _⟩ := s1.cell hP
  rw [e1] at e1'
  cases e1'
  obtain ⟨v, c', r, e5⟩ := hF _ _ e4
  have hv : dVar i E S = .ok (.ref n) S := by unfold dVar; rw [e1]
  exact ⟨v, _, _, r, by rw [e_call, e_acons, hv, Dn.R.bind_ok, e3, Dn.R.bind_ok, Dn.R.bind_ok, e5], s1.write hP e1 c'⟩
/-- one drawn number -/
def IsBox (c : Cell) : Prop := ∃ v s t, c = boxC v s t
theorem IsBox.lt {c : Cell} (h : IsBox c) (n : Nat) : c.lt n = true := by
  obtain ⟨v, s, t, rfl⟩ := h
  exact boxC_lt v s t n
theorem take_box {c : Cell} (h : IsBox c) {m : Nat} (h1 : 0 < m) (h2 : m ≤ 1000000) {S : Store} {n : Nat} (hn : S[n]? = some c) : ∃ (d : Nat) (c' : Cell), d < m ∧ IsBox c' ∧ FTake [.ref n, .int (m : Nat)] S = .ok (.int (d : Nat)) (S.set n c') := by
  obtain ⟨v, s, t, rfl⟩ := h
  obtain ⟨d, v', s', t', hd, e⟩ := Pn.draw hn h1 h2
  exact ⟨d, _, hd, ⟨v', s', t', rfl⟩, e⟩
theorem EE.draw (hi : P[i]? = some (.c o c0)) (h : Ex P ma (.int (m : Nat)) P1) (hP : P1[i]? = some (.c o c)) (hb : IsBox c) (h1 : 0 < m) (h2 : m ≤ 1000000) (hr : ∀ (d : Nat) (c' : Cell), d < m → IsBox c' → R (.int (d : Nat)) (P1.set i (.c o c'))) : EE P (dCall FTake (aCons (dVar i) (aCons ma aNil))) R :=
  .boxed hi (ExA.ea (.one h) ⟨c, hP, fun S n hn => by
    obtain ⟨d, c', hd, hb', e⟩ := take_box hb h1 h2 hn
    exact ⟨_, c', hr d c' hd hb', e⟩⟩)
theorem EB.test {Rb : Bool → PE → Prop} (h : EE P ma fun x P' => ∃ b, x = .bl b ∧ Rb b P') : EB P (dTest ma) Rb := fun f E S s => by
  obtain ⟨x, P1, S1, ⟨b, rfl, r⟩, e1, s1⟩ := h f E S s
  exact ⟨b, P1, S1, r, by rw [e_Test, e1, Dn.R.bind_ok], s1⟩
theorem EB.not {Rb : Bool → PE → Prop} (h : EB P nb fun b P' => Rb (!b) P') : EB P (dTNot nb) Rb := fun f E S s => by
  obtain ⟨b, P1, S1, r, e1, s1⟩ := h f E S s
  exact ⟨!b, P1, S1, r, by unfold dTNot; rw [e1, Dn.R.bind_ok], s1⟩
theorem EB.or {Rb : Bool → PE → Prop} (h : EB P nb fun b P' => (b = true → Rb true P') ∧ (b = false → EB P' nb' Rb)) : EB P (dTOr nb nb') Rb := fun f E S s => by
  obtain ⟨b, P1, S1, ⟨r1, r2⟩, e1, s1⟩ := h f E S s
  cases b with
  | true => exact ⟨true, P1, S1, r1 rfl, by unfold dTOr; rw [e1, Dn.R.bind_ok]; rfl, s1⟩
  | false =>
    obtain ⟨b, P2, S2, r, e2, s2⟩ := r2 rfl f E S1 s1
    exact ⟨b, P2, S2, r, by unfold dTOr; rw [e1, Dn.R.bind_ok]; exact e2, s2⟩
theorem EB.and {Rb : Bool → PE → Prop} (h : EB P nb fun b P' => (b = false → Rb false P') ∧ (b = true → EB P' nb' Rb)) : EB P (dTAnd nb nb') Rb := fun f E S s => by
  obtain ⟨b, P1, S1, ⟨r1, r2⟩, e1, s1⟩ := h f E S s
  cases b with
  | false => exact ⟨false, P1, S1, r1 rfl, by unfold dTAnd; rw [e1, Dn.R.bind_ok]; rfl, s1⟩
  | true =>
    obtain ⟨b, P2, S2, r, e2, s2⟩ := r2 rfl f E S1 s1
    exact ⟨b, P2, S2, r, by unfold dTAnd; rw [e1, Dn.R.bind_ok]; exact e2, s2⟩
/-! statements -/
theorem QE.seq (h : QE P st fun o => (∃ P1, o = .nx P1 ∧ QE P1 st' O) ∨ (o.left = true ∧ O o)) : QE P (dSeq st st') O := fun f E S t => by
  obtain ⟨o, ho, q⟩ := h f E S t
  rcases ho with ⟨P1, rfl, h'⟩ | ⟨hl, ho⟩
  · cases e : st E S with
    | nx E1 S1 =>
      rw [e] at q
      obtain ⟨o', ho', q'⟩ := h' f E1 S1 q
      exact ⟨o', ho', by rw [e_seq, e]; exact q'⟩
    | _ => rw [e] at q; exact q.elim
  · refine ⟨o, ho, ?_⟩
    rw [e_seq]
    cases e : st E S with
    | nx E1 S1 =>
      rw [e] at q
      cases o with
      | nx _ => cases hl
      | _ => exact q.elim
    | _ => rw [e] at q; exact q
/-- .. behind what goes through -/
theorem QE.seqN (h : QE P st fun o => ∃ P1, o = .nx P1 ∧ QE P1 st' O) : QE P (dSeq st st') O := .seq (h.mono fun _ => .inl)
theorem QE.seqS (h : QS P st (.nx P1)) (h' : QE P1 st' O) : QE P (dSeq st st') O := .seqN (h.qe ⟨P1, rfl, h'⟩)
theorem QE.ite {Rb : Bool → PE → Prop} (h : EB P nb Rb) (h1 : ∀ P1, Rb true P1 → QE P1 st O) (h2 : ∀ P1, Rb false P1 → QE P1 st' O) : QE P (dIf nb st st') O := fun f E S t => by
  obtain ⟨b, P1, S1, r, e1, s1⟩ := h f E S t
  cases b with
  | true =>
    obtain ⟨o, ho, q⟩ := h1 P1 r f E S1 s1
    exact ⟨o, ho, by rw [e_if, e1, R.toS_ok, if_pos rfl]; exact q⟩
  | false =>
    obtain ⟨o, ho, q⟩ := h2 P1 r f E S1 s1
    exact ⟨o, ho, by rw [e_if, e1, R.toS_ok, if_neg Bool.false_ne_true]; exact q⟩
theorem QE.asg (h : EE P ma fun v P' => O (.nx (P'.set i (.d v)))) : QE P (dAsg ma (gNm i)) O := fun f E S t => by
  obtain ⟨v, P1, S1, r, e1, s1⟩ := h f E S t
  exact ⟨_, r, by rw [e_asg, e1, R.toS_ok]; exact s1.setD i v⟩
theorem QE.asgN (h : EN P ma fun c P' => O (.nx (P'.set i (.c none c)))) : QE P (dAsg ma (gNm i)) O := fun f E S t => by
  obtain ⟨c, P1, n, S1, r, e1, hn, s1⟩ := h f E S t
  exact ⟨_, r, by rw [e_asg, e1, R.toS_ok]; exact s1.take hn i⟩
theorem QE.asgT (h : EE P ma fun v P' => ∃ ws P2, Tg ws P' g v P2 ∧ O (.nx P2)) : QE P (dAsg ma g) O := fun f E S t => by
  obtain ⟨v, P1, S1, ⟨ws, P2, tg, r⟩, e1, s1⟩ := h f E S t
  obtain ⟨E2, S2, e2, s2, _⟩ := tg f E S1 s1
  exact ⟨_, r, by rw [e_asg, e1, R.toS_ok, e2]; exact s2⟩
theorem QE.drop (h : EE P ma fun v P' => O (.nx P')) : QE P (dDrop ma) O := fun f E S t => by
  obtain ⟨v, P1, S1, r, e1, s1⟩ := h f E S t
  exact ⟨_, r, by rw [e_drop, e1, R.toS_ok]; exact s1⟩
theorem QE.ret (h : EE P ma fun v P' => O (.rt v P')) : QE P (dRet ma) O := fun f E S t => by
  obtain ⟨v, P1, S1, r, e1, s1⟩ := h f E S t
  exact ⟨_, r, by rw [retE e1]; exact ⟨rfl, E, s1⟩⟩
theorem QE.retN (h : EN P ma fun c P' => O (.rn c P')) : QE P (dRet ma) O := fun f E S t => by
  obtain ⟨c, P1, n, S1, r, e1, hn, s1⟩ := h f E S t
  exact ⟨_, r, by rw [retE e1]; exact ⟨n, E, rfl, hn, s1⟩⟩
theorem QE.next (h : O (.nx P)) : QE P dNext O := QS.next.qe h
theorem QE.pre (h : QE P1 st O) (hp : ∀ f E S, Sd f P E S → Sd f P1 E S) : QE P st O := fun f E S t => h f E S (hp f E S t)
theorem QE.name (hP : P[i]? = some (.c o c)) (h : ∀ n, QE (P.set i (.c (some n) c)) st O) : QE P st O := fun f E S t => by
  obtain ⟨n, t1⟩ := t.name hP
  exact h n f E S t1
/-- a slot's list, an item put behind -/
theorem EE.append (hP : P[j]? = some (.c o (.lst xs))) (h : EE P ma fun v P1 => ∃ ys, P1[j]? = some (.c o (.lst ys)) ∧ ys.length < sizeLine ∧ R .non (P1.set j (.c o (.lst (ys ++ [v]))))) : EE P (dMeth "list" mAppend (dVar j) (aCons ma aNil)) R := fun f E S s => by
  obtain ⟨n, e1, e2, _⟩ := s.cell hP
  obtain ⟨v, P1, S1, ⟨ys, hP1, hl, r⟩, e3, s1⟩ := h f E S s
  obtain ⟨n', e1', e4, _⟩ := s1.cell hP1
  rw [e1] at e1'
  cases e1'
  have hv : dVar j E S = .ok (.ref n) S := by unfold dVar; rw [e1]
  refine ⟨.non, _, _, r, ?_, s1.write hP1 e1 _⟩
  rw [e_meth, hv, Dn.R.bind_ok, recvL e2, if_pos rfl, e_acons, e3, Dn.R.bind_ok, e_anil, Dn.R.bind_ok, Dn.R.bind_ok]
  unfold mAppend
  dsimp only
  rw [e4]
  dsimp only
  rw [if_pos hl]
theorem seqIx {r l : Nat} (h : r < l) : seqIndex? ((r : Nat) : Int) l = some r := by
  unfold seqIndex?
  split <;> simp <;> omega
theorem EE.popAt (hP : P[j]? = some (.c o (.lst xs))) (h : EE P ma fun z P1 => ∃ (r : Nat) (ys : List D) (v : D), z = .int (r : Nat) ∧ r ≤ 1000000 ∧ P1[j]? = some (.c o (.lst ys)) ∧ ys[r]? = some v ∧ R v (P1.set j (.c o (.lst (ys.eraseIdx r))))) : EE P (dMeth "list" mPopAt (dVar j) (aCons ma aNil)) R := fun f E S s => by
  obtain ⟨n, e1, e2, _⟩ := s.cell hP
  obtain ⟨z, P1, S1, ⟨r, ys, v, rfl, hr, hP1, hx, rr⟩, e3, s1⟩ := h f E S s
  obtain ⟨n', e1', e4, _⟩ := s1.cell hP1
  rw [e1] at e1'
  cases e1'
  have hv : dVar j E S = .ok (.ref n) S := by unfold dVar; rw [e1]
  refine ⟨v, _, _, rr, ?_, s1.write hP1 e1 _⟩
  rw [e_meth, hv, Dn.R.bind_ok, recvL e2, if_pos rfl, e_acons, e3, Dn.R.bind_ok, e_anil, Dn.R.bind_ok, Dn.R.bind_ok]
  unfold mPopAt
  dsimp only
  rw [e4]
  dsimp only
  rw [if_pos (by omega), seqIx (List.getElem?_eq_some_iff.mp hx).1]
  dsimp only
  rw [hx]
/-! several at once -/
def EM (P : PE) (a : DA) (Rm : List Arg → PE → Prop) : Prop := ∀ f E S, Sd f P E S → ∃ as P' xs S' f', Rm as P' ∧ a E S = .ok xs S' ∧ Sd f' P' E S' ∧ Sub f f' ∧ ArgsOk f f' E xs as ∧ (freshA xs as).Nodup ∧ ∀ n ∈ freshA xs as, f n = none
theorem EM.nil {Rm : List Arg → PE → Prop} (h : Rm [] P) : EM P aNil Rm := fun f E S s => ⟨[], P, [], S, f, h, rfl, s, Sub.refl f, trivial, .nil, fun n h => by cases h⟩
theorem EM.cons {Rm : List Arg → PE → Prop} (h : EE P ma R1) (h' : ∀ x P1, R1 x P1 → EM P1 da fun as P2 => Rm (.d x :: as) P2) : EM P (aCons ma da) Rm := fun f E S s => by
  obtain ⟨x, P1, S1, r1, e1, s1⟩ := h f E S s
  obtain ⟨as, P2, xs, S2, f', r2, e2, s2, u, q1, q2, q3⟩ := h' x P1 r1 f E S1 s1
  have e : freshA (x :: xs) (.d x :: as) = freshA xs as := by cases x <;> rfl
  exact ⟨_, P2, x :: xs, S2, f', r2, by rw [e_acons, e1, Dn.R.bind_ok, e2, Dn.R.bind_ok], s2, u, ⟨rfl, q1⟩, by rw [e]; exact q2, by rw [e]; exact q3⟩
theorem EM.consN {Rm : List Arg → PE → Prop} {Rc : Cell → PE → Prop} (h : EN P ma Rc) (h' : ∀ c P1, Rc c P1 → EM P1 da fun as P2 => Rm (.h none c :: as) P2) : EM P (aCons ma da) Rm := fun f E S s => by
  obtain ⟨c, P1, n, S1, r1, e1, hn, s1⟩ := h f E S s
  obtain ⟨as, P2, xs, S2, f', r2, e2, s2, u, q1, q2, q3⟩ := h' c P1 r1 _ E S1 s1
  have u1 := Sub.add (c := c) hn
  refine ⟨_, P2, .ref n :: xs, S2, f', r2, by rw [e_acons, e1, Dn.R.bind_ok, e2, Dn.R.bind_ok], s2, u1.trans u, ⟨⟨n, rfl, hn, u _ _ (Fr.add_same f)⟩, q1.sub (Sub.refl _) u1⟩, ?_, ?_⟩
  · show (n :: freshA xs as).Nodup
    refine List.nodup_cons.mpr ⟨fun z => ?_, q2⟩
    have := q3 n z
    rw [Fr.add_same] at this
    cases this
  · intro r hr
    rcases List.mem_cons.mp hr with rfl | hr
    · exact hn
    · exact u1.none (q3 r hr)
theorem QE.par {is : List Nat} (h : EM P da fun as P1 => is.length = as.length ∧ O (.nx (parP P1 is as))) : QE P (dPar is da) O := fun f E S st => by
  obtain ⟨as, P1, xs, S1, f', ⟨hl, r⟩, e1, s1, u, q1, q2, q3⟩ := h f E S st
  refine ⟨_, r, ?_⟩
  unfold dPar
  rw [e1, R.toS_ok, if_pos (by rw [args_len q1, hl]), parE_fold]
  exact par_ok is as xs f' P1 E E hl s1 q1 q2 q3 u
theorem QE.tupM {is : List Nat} (h : EM P da fun as P1 => is.length = as.length ∧ as.length ≤ sizeLine ∧ O (.nx (parP P1 is as))) : QE P (dAsg (dTup da) (gTp is.length (gNs is))) O := fun f E S st => by
  obtain ⟨as, P1, xs, S1, f', ⟨hl, hs, r⟩, e1, s1, u, q1, q2, q3⟩ := h f E S st
  have hx := args_len q1
  refine ⟨_, r, ?_⟩
  rw [e_asg, e_tup, e1, Dn.R.bind_ok, mkTup_ok (by omega), R.toS_ok, e_gtp, if_pos (by omega), gNs_ok is xs E (by omega)]
  exact par_ok is as xs f' P1 E E hl s1 q1 q2 q3 u
/-! loops -/
theorem for_outE {W : PE → Prop} (I : Nat → PE → Prop) (hW : ∀ i P, I i P → W P) {f : Fr} {chk : Store → Bool} (hc : ∀ P2 E2 S2, W P2 → Sd f P2 E2 S2 → chk S2 = true) : ∀ (xs : List D) (i : Nat) (P : PE), I i P →
    (∀ P, I (i + xs.length) P → O (.nx P)) → (∀ r x P, xs[r]? = some x → I (i + r) P → ∃ ws P2, Tg ws P g x P2 ∧ QE P2 st (LoopO (I (i + r + 1)) O)) →
    ∀ E S, Sd f P E S → ∃ o, O o ∧ Fits f (forL chk g st xs E S) o
  | [], i, P, h, he, _, E, S, t => ⟨.nx P, he P h, by
    unfold forL
    rw [if_pos (hc P E S (hW _ _ h) t)]
    exact t⟩
  | x :: xs, i, P, h, he, hs, E, S, t => by
    obtain ⟨ws, P2, tg, q⟩ := hs 0 x P rfl h
    obtain ⟨E1, S1, e1, t1, _⟩ := tg f E S t
    obtain ⟨o, lo, ft⟩ := q f E1 S1 t1
    have go : ∀ P3, I (i + 1) P3 → ∀ E S, Sd f P3 E S → ∃ o, O o ∧ Fits f (forL chk g st xs E S) o := fun P3 h3 =>
      for_outE I hW hc xs (i + 1) P3 h3 (fun P hp => he P (by rw [List.length_cons]; rw [show i + (xs.length + 1) = i + 1 + xs.length by omega]; exact hp)) fun r y P hy hi => by
        have := hs (r + 1) y P (by simpa using hy) (by rw [show i + (r + 1) = i + 1 + r by omega]; exact hi)
        rw [show i + (r + 1) + 1 = i + 1 + r + 1 by omega] at this
        exact this
    have fl : forL chk g st (x :: xs) E S = (match st E1 S1 with
      | .nx env2 st2 => forL chk g st xs env2 st2
      | .ct env2 st2 => forL chk g st xs env2 st2
      | .bk env2 st2 => .nx env2 st2
      | r => r) := by
      show (if chk S then _ else _) = _
      rw [if_pos (hc P E S (hW _ _ h) t), e1]
      all_goals rfl
    rw [fl]
    cases hq : st E1 S1 with
    | nx E3 S3 =>
      rw [hq] at ft
      cases o with
      | nx P3 => exact go P3 lo E3 S3 ft
      | _ => exact ft.elim
    | ct E3 S3 =>
      rw [hq] at ft
      cases o with
      | ct P3 => exact go P3 lo E3 S3 ft
      | _ => exact ft.elim
    | bk E3 S3 =>
      rw [hq] at ft
      cases o with
      | bk P3 => exact ⟨.nx P3, lo, ft⟩
      | _ => exact ft.elim
    | rt d S3 =>
      rw [hq] at ft
      cases o with
      | rt v P3 => exact ⟨.rt v P3, lo, ft⟩
      | rn v P3 => exact ⟨.rn v P3, lo, ft⟩
      | _ => exact ft.elim
    | ex x E3 S3 =>
      rw [hq] at ft
      cases o with
      | ex v P3 => exact ⟨.ex v P3, lo, ft⟩
      | _ => exact ft.elim
    | bad => rw [hq] at ft; cases o <;> exact ft.elim
theorem Fits.sub {f' : Fr} {r : RS} {ou : Out} (h : Fits f' r ou) (u : Sub f f') : Fits f r ou := h.weak u
theorem QE.forI {W : PE → Prop} {it : DI} (I : Nat → PE → Prop) (hi : It P it xs P1 W) (h0 : I 0 P1) (hW : ∀ i P, I i P → W P) (he : ∀ P, I xs.length P → O (.nx P))
    (step : ∀ r x P, xs[r]? = some x → I r P → ∃ ws P2, Tg ws P g x P2 ∧ QE P2 st (LoopO (I (r + 1)) O)) : QE P (dFor it g st) O := fun f E S t => by
  obtain ⟨S1, chk, f', e1, t1, u, hc⟩ := hi f E S t
  obtain ⟨o, ho, ft⟩ := for_outE (g := g) (st := st) (O := O) I hW hc xs 0 P1 h0 (by simpa using he) (by simpa using step) E S1 t1
  exact ⟨o, ho, by rw [e_for, e1, R.toS_ok]; exact ft.weak u⟩
theorem while_outE (I : Nat → PE → Prop) (step : ∀ j P, I j P → EB P nb fun b P1 => (b = false → O (.nx P1)) ∧ (b = true → QE P1 st (LoopO (fun P2 => ∃ j', j' < j ∧ I j' P2) O))) :
    ∀ (k j : Nat) (P : PE), I j P → j < k → ∀ f E S, Sd f P E S → ∃ o, O o ∧ Fits f (whileL nb st k E S) o
  | 0, j, _, _, h, _, _, _, _ => absurd h (Nat.not_lt_zero _)
  | k + 1, j, P, h, hj, f, E, S, t => by
    obtain ⟨b, P1, S1, ⟨hf, ht⟩, e1, t1⟩ := step j P h f E S t
    cases b with
    | false => exact ⟨.nx P1, hf rfl, by unfold whileL; rw [e1, R.toS_ok, if_neg Bool.false_ne_true]; exact t1⟩
    | true =>
      obtain ⟨o, lo, ft⟩ := ht rfl f E S1 t1
      have fl : whileL nb st (k + 1) E S = (match st E S1 with
        | .nx env2 st2 => whileL nb st k env2 st2
        | .ct env2 st2 => whileL nb st k env2 st2
        | .bk env2 st2 => .nx env2 st2
        | r => r) := by
        show (nb E S).toS E _ = _
        rw [e1, R.toS_ok, if_pos rfl]
        all_goals rfl
      rw [fl]
      cases hq : st E S1 with
      | nx E3 S3 =>
        rw [hq] at ft
        cases o with
        | nx P3 =>
          obtain ⟨j', hj', h3⟩ := lo
          exact while_outE I step k j' P3 h3 (by omega) f E3 S3 ft
        | _ => exact ft.elim
      | ct E3 S3 =>
        rw [hq] at ft
        cases o with
        | ct P3 =>
          obtain ⟨j', hj', h3⟩ := lo
          exact while_outE I step k j' P3 h3 (by omega) f E3 S3 ft
        | _ => exact ft.elim
      | bk E3 S3 =>
        rw [hq] at ft
        cases o with
        | bk P3 => exact ⟨.nx P3, lo, ft⟩
        | _ => exact ft.elim
      | rt d S3 =>
        rw [hq] at ft
        cases o with
        | rt v P3 => exact ⟨.rt v P3, lo, ft⟩
        | rn v P3 => exact ⟨.rn v P3, lo, ft⟩
        | _ => exact ft.elim
      | ex x E3 S3 =>
        rw [hq] at ft
        cases o with
        | ex v P3 => exact ⟨.ex v P3, lo, ft⟩
        | _ => exact ft.elim
      | bad => rw [hq] at ft; cases o <;> exact ft.elim
theorem QE.whileI (I : Nat → PE → Prop) {j : Nat} (h0 : I j P) (hj : j < FU) (step : ∀ j P, I j P → EB P nb fun b P1 => (b = false → O (.nx P1)) ∧ (b = true → QE P1 st (LoopO (fun P2 => ∃ j', j' < j ∧ I j' P2) O))) : QE P (dWhile nb st) O :=
  fun f E S t => while_outE I step FU j P h0 hj f E S t
/-! defs -/
/-- a def that changes the first one's cell -/
theorem fn_boxE {m : DS} {Qs : List PV} {G : D → Cell → Prop} (hl : Qs.length + 1 = a) (hn : S[n]? = some c) (hx : ArgsP S xs Qs) (nd : (addrs (.c (some n) c :: Qs)).Nodup)
    (h : QE (.c (some n) c :: Qs ++ List.replicate (k - a) .any) m fun o => ∃ v P' c', o = .rt v P' ∧ P'[0]? = some (.c (some n) c') ∧ (∀ (i r : Nat) (d : Cell), Qs[i]? = some (.c (some r) d) → P'[i + 1]? = some (.c (some r) d)) ∧ D.lt 0 v = true ∧ c'.lt 0 = true ∧ G v c') :
    ∃ v c', G v c' ∧ trimF (dDef a k m) (.ref n :: xs) S = .ok v (S.set n c') := by
  have hx' : ArgsP S (.ref n :: xs) (.c (some n) c :: Qs) := ⟨⟨rfl, hn⟩, hx⟩
  obtain ⟨o, ⟨v, P', c', rfl, h0, hk, hv, hc, hG⟩, q⟩ := h _ _ _ (Sd.start hx' nd (k - a))
  refine ⟨v, c', hG, ?_⟩
  have q2 : Fits (fOf S (addrs (.c (some n) c :: Qs))) (m ((D.ref n :: xs).map some ++ List.replicate (k - a) none) S) (.rt v P') := q
  -- the same argument as of fn_box, for this one store
  cases e : m ((D.ref n :: xs).map some ++ List.replicate (k - a) none) S with
  | rt d S' =>
    rw [e] at q2
    obtain ⟨rfl, E', t⟩ := q2
    obtain ⟨n', a1, a2, a3, a4⟩ := t.cell h0
    obtain rfl := a4 n rfl
    obtain ⟨g, rfl⟩ := eq_set (S := S) (S' := S') hn a2 fun j d hne hj => by
      by_cases z : j ∈ addrs (.c (some n') c :: Qs)
      · have z' : j ∈ addrs Qs := (List.mem_cons.mp z).resolve_left hne
        obtain ⟨i, cc, hi⟩ := addrs_get z'
        obtain ⟨n2, b1, b2, b3, b4⟩ := t.cell (hk i j cc hi)
        obtain rfl := b4 j rfl
        obtain ⟨x, d1, d2⟩ := hx.get hi
        rw [d2.2] at hj
        cases hj
        exact b2
      · exact t.fr j d ((if_neg z).trans hj)
    have hcl : c'.lt S.length = true := by
      cases c' with
      | lst ys => exact D.lts_mono (Nat.zero_le _) hc
      | frz ys => exact D.lts_mono (Nat.zero_le _) hc
      | ins r fs => exact D.ltf_mono (Nat.zero_le _) hc
      | dK kvs =>
        simp only [Cell.lt, kvLt, List.all_eq_true] at hc ⊢
        exact fun x hx => D.lt_mono (Nat.zero_le _) (hc x hx)
      | dT kvs =>
        simp only [Cell.lt, kvLt, List.all_eq_true] at hc ⊢
        exact fun x hx => D.lt_mono (Nat.zero_le _) (hc x hx)
    exact trimF_ok (dDef_rt (by rw [hx'.len, List.length_cons, hl]) rfl e) (by simp) (D.lt_mono (Nat.zero_le _) hv) (Pn.Same.set g hcl)
  | _ => rw [e] at q2; exact q2.elim
/-- .. of data beside it -/
theorem fn_boxD {m : DS} {G : D → Cell → Prop} (hl : vs.length + 1 = a) (hn : S[n]? = some c)
    (h : QE (.c (some n) c :: vs.map .d ++ List.replicate (k - a) .any) m fun o => ∃ v P' c', o = .rt v P' ∧ P'[0]? = some (.c (some n) c') ∧ D.lt 0 v = true ∧ c'.lt 0 = true ∧ G v c') :
    ∃ v c', G v c' ∧ trimF (dDef a k m) (.ref n :: vs) S = .ok v (S.set n c') :=
  fn_boxE (Qs := vs.map .d) (by rw [List.length_map, hl]) hn ArgsP.data (by
    show (n :: addrs (vs.map .d)).Nodup
    rw [addrs_data]
    exact List.nodup_cons.mpr ⟨(fun z => by cases z), List.nodup_nil⟩) (h.mono fun o ⟨v, P', c', q1, q2, q3⟩ => ⟨v, P', c', q1, q2, fun i r d e => absurd e data_no, q3⟩)
/-- a law: True, whatever it leaves -/
theorem law_ok {m : DS} {N : Nat} {ns : List Int} (h : QE (.d (.scr ns) :: List.replicate (N - 1) .any) m fun o => ∃ P', o = .rt (.bl true) P') : ∃ st', dDef 1 N m [.scr ns] [] = .ok (.bl true) st' := by
  have t := Sd.start (S := []) (xs := [.scr ns]) (Ps := [.d (.scr ns)]) ⟨rfl, trivial⟩ .nil (N - 1)
  obtain ⟨o, ⟨P', rfl⟩, q⟩ := h _ _ _ t
  cases e : m ([D.scr ns].map some ++ List.replicate (N - 1) none) [] with
  | rt d S' =>
    rw [e] at q
    obtain ⟨rfl, _⟩ := q
    exact ⟨S', dDef_rt rfl rfl e⟩
  | _ => rw [e] at q; exact q.elim
end
end Qn
set_option Elab.async false
set_option linter.all false
set_option maxHeartbeats 1000000
set_option maxRecDepth 100000
/-! Qm1: two sides of a gate closed: the mathematics -/
namespace Qm
open PySem PySem.Spec L2 Dn Pn
/-! ### numbers of the sides that stay -/
def up (a b i : Nat) : Nat := if (if i < min a b then i else i + 1) < max a b then (if i < min a b then i else i + 1) else (if i < min a b then i else i + 1) + 1
def dn (a b j : Nat) : Nat := j - (if a < j then 1 else 0) - (if b < j then 1 else 0)
section
variable {a b i j s : Nat}
theorem up_spec (h : a ≠ b) (i : Nat) : up a b i ≠ a ∧ up a b i ≠ b ∧ dn a b (up a b i) = i := by
  unfold up dn
  refine ⟨?_, ?_, ?_⟩ <;> (repeat' split) <;> omega
theorem up_dn (h : a ≠ b) (ha : j ≠ a) (hb : j ≠ b) : up a b (dn a b j) = j := by
  unfold up dn
  (repeat' split) <;> omega
theorem up_lt (h : a ≠ b) (ha : a < s) (hb : b < s) (hi : i < s - 2) : up a b i < s := by
  unfold up
  (repeat' split) <;> omega
theorem dn_lt (h : a ≠ b) (ha : a < s) (hb : b < s) (hj : j < s) (h1 : j ≠ a) (h2 : j ≠ b) : dn a b j < s - 2 := by
  unfold dn
  (repeat' split) <;> omega
theorem dn_inj (h : a ≠ b) {j' : Nat} (h1 : j ≠ a) (h2 : j ≠ b) (h1' : j' ≠ a) (h2' : j' ≠ b) (e : dn a b j = dn a b j') : j = j' := by
  rw [← up_dn h h1 h2, e, up_dn h h1' h2']
theorem dn_swap : dn a b j = dn b a j := by
  unfold dn
  omega
end
/-- the partner of a closed side -/
def pj (a b : Nat) (i : Nat) : Option Nat := if i = a then some b else if i = b then some a else none
theorem pj_none {a b i : Nat} : pj a b i = none ↔ i ≠ a ∧ i ≠ b := by
  unfold pj
  (repeat' split) <;> simp_all
theorem pj_some {a b i c : Nat} (h : pj a b i = some c) : (i = a ∧ c = b) ∨ (i = b ∧ c = a) := by
  unfold pj at h
  split at h
  · exact .inl ⟨by assumption, by cases h; rfl⟩
  · split at h
    · exact .inr ⟨by assumption, by cases h; rfl⟩
    · cases h
theorem pj_swap (a b : Nat) : pj a b = pj b a := by
  funext i
  unfold pj
  by_cases h1 : i = a
  · by_cases h2 : i = b
    · rw [if_pos h1, if_pos h2, ← h1, ← h2]
    · rw [if_pos h1, if_neg h2, if_pos h1]
  · by_cases h2 : i = b
    · rw [if_neg h1, if_pos h2, if_pos h2]
    · rw [if_neg h1, if_neg h2, if_neg h2, if_neg h1]
abbrev Pt := Nat × Nat
/-! ### where one is led: on and on through closed sides -/
inductive Led (F : Pt → Pt) (j : Nat → Option Nat) : Nat → Pt → Pt → Prop
  | done {x : Pt} : j (F x).1 = none → Led F j 0 x (F x)
  | step {n : Nat} {x z : Pt} {b : Nat} : j (F x).1 = some b → Led F j n (b, (F x).2) z → Led F j (n + 1) x z
section
variable {F G : Pt → Pt} {j j' : Nat → Option Nat} {n n' : Nat} {x y z z' w : Pt} {b : Nat}
theorem Led.det (h : Led F j n x z) : ∀ {n' : Nat} {z' : Pt}, Led F j n' x z' → n = n' ∧ z = z' := by
  induction h with
  | done e =>
    intro n' z' h'
    cases h' with
    | done => exact ⟨rfl, rfl⟩
    | step e' _ => rw [e] at e'; cases e'
  | step e _ ih =>
    intro n' z' h'
    cases h' with
    | done e' => rw [e] at e'; cases e'
    | step e' t =>
      rw [e] at e'
      cases e'
      obtain ⟨a, b⟩ := ih t
      exact ⟨by rw [a], b⟩
theorem Led.out (h : Led F j n x z) : j z.1 = none := by
  induction h with
  | done e => exact e
  | step _ _ ih => exact ih
open Classical in
noncomputable def led (F : Pt → Pt) (j : Nat → Option Nat) (x : Pt) : Pt := if h : ∃ n z, Led F j n x z then h.choose_spec.choose else x
theorem led_eq (h : Led F j n x z) : led F j x = z := by
  have hex : ∃ n z, Led F j n x z := ⟨n, z, h⟩
  unfold led
  rw [dif_pos hex]
  exact (hex.choose_spec.choose_spec.det h).2
end
/-- what turns s sides and m marks about -/
structure Perm (s m : Nat) (F : Pt → Pt) : Prop where
  maps : ∀ p : Pt, p.1 < s → p.2 < m → (F p).1 < s ∧ (F p).2 < m
  inj : ∀ p q : Pt, p.1 < s → p.2 < m → q.1 < s → q.2 < m → F p = F q → p = q
/-- partners: a side of the gate has one of the gate, whose partner it is -/
structure Part (s : Nat) (j : Nat → Option Nat) : Prop where
  lt : ∀ i b, j i = some b → b < s
  inv : ∀ i b, j i = some b → j b = some i
theorem Part.pj {s a b : Nat} (ha : a < s) (hb : b < s) : Part s (pj a b) := by
  refine ⟨fun i c h => ?_, fun i c h => ?_⟩
  · rcases pj_some h with ⟨_, rfl⟩ | ⟨_, rfl⟩ <;> assumption
  · rcases pj_some h with ⟨rfl, rfl⟩ | ⟨rfl, rfl⟩
    · unfold Qm.pj
      by_cases e : c = i
      · subst e; simp
      · rw [if_neg e, if_pos rfl]
    · unfold Qm.pj
      rw [if_pos rfl]
section
variable {s m : Nat} {F G : Pt → Pt} {j : Nat → Option Nat} {n : Nat} {x y z : Pt}
theorem Led.maps (hF : Perm s m F) (hj : Part s j) (h : Led F j n x z) : x.1 < s → x.2 < m → z.1 < s ∧ z.2 < m := by
  induction h with
  | done _ => exact fun h1 h2 => hF.maps _ h1 h2
  | step e _ ih => exact fun h1 h2 => ih (hj.lt _ _ e) (hF.maps _ h1 h2).2
/-- the row of passes from x on -/
def way (F : Pt → Pt) (j : Nat → Option Nat) (x : Pt) : Nat → Pt
  | 0 => F x
  | t + 1 => F (((j (way F j x t).1).getD 0), (way F j x t).2)
theorem way_led : ∀ (t : Nat) (x : Pt), (∀ u < t, (j (way F j x u).1).isSome) → j (way F j x t).1 = none → Led F j t x (way F j x t)
  | 0, x, _, h => .done h
  | t + 1, x, hu, h => by
    have h0 := hu 0 (by omega)
    obtain ⟨b, hb⟩ := Option.isSome_iff_exists.mp h0
    have sh : ∀ u, way F j x (u + 1) = way F j (b, (F x).2) u := fun u => by
      induction u with
      | zero =>
        show F ((j (F x).1).getD 0, (F x).2) = F (b, (F x).2)
        rw [show j (F x).1 = some b from hb]
        rfl
      | succ u ih =>
        show F ((j (way F j x (u + 1)).1).getD 0, (way F j x (u + 1)).2) = F ((j (way F j (b, (F x).2) u).1).getD 0, (way F j (b, (F x).2) u).2)
        rw [ih]
    rw [sh]
    exact .step hb (way_led t (b, (F x).2) (fun u hu' => by rw [← sh]; exact hu (u + 1) (by omega)) (by rw [← sh]; exact h))
theorem way_maps (hF : Perm s m F) (hj : Part s j) (h1 : x.1 < s) (h2 : x.2 < m) : ∀ t, (∀ u < t, (j (way F j x u).1).isSome) → (way F j x t).1 < s ∧ (way F j x t).2 < m
  | 0, _ => hF.maps _ h1 h2
  | t + 1, h => by
    have := way_maps hF hj h1 h2 t fun u hu => h u (by omega)
    obtain ⟨b, hb⟩ := Option.isSome_iff_exists.mp (h t (by omega))
    refine hF.maps _ ?_ this.2
    rw [hb]
    exact hj.lt _ _ hb
theorem way_inj (hF : Perm s m F) (hj : Part s j) (h1 : x.1 < s) (h2 : x.2 < m) (hx : j x.1 = none) : ∀ t u, t < u → (∀ v < u, (j (way F j x v).1).isSome) → way F j x t ≠ way F j x u
  | 0, u + 1, _, hv, e => by
    obtain ⟨b, hb⟩ := Option.isSome_iff_exists.mp (hv u (by omega))
    have hm := way_maps hF hj h1 h2 u fun v hv' => hv v (by omega)
    have e2 : x = ((j (way F j x u).1).getD 0, (way F j x u).2) := hF.inj x _ h1 h2 (by rw [hb]; exact hj.lt _ _ hb) hm.2 e
    have e3 : x.1 = b := by rw [e2, hb]; rfl
    rw [e3, hj.inv _ _ hb] at hx
    cases hx
  | t + 1, u + 1, h, hv, e => by
    obtain ⟨b, hb⟩ := Option.isSome_iff_exists.mp (hv u (by omega))
    obtain ⟨c, hc⟩ := Option.isSome_iff_exists.mp (hv t (by omega))
    have hm := way_maps hF hj h1 h2 u fun v hv' => hv v (by omega)
    have hm' := way_maps hF hj h1 h2 t fun v hv' => hv v (by omega)
    have e2 := hF.inj ((j (way F j x t).1).getD 0, (way F j x t).2) ((j (way F j x u).1).getD 0, (way F j x u).2) (by rw [hc]; exact hj.lt _ _ hc) hm'.2 (by rw [hb]; exact hj.lt _ _ hb) hm.2 e
    rw [hb, hc] at e2
    have e3 : c = b := congrArg (·.1) e2
    have e4 : (way F j x t).2 = (way F j x u).2 := congrArg (·.2) e2
    have e5 : (way F j x t).1 = (way F j x u).1 := by
      have z1 := hj.inv _ _ hb
      have z2 := hj.inv _ _ hc
      rw [e3, z1] at z2
      exact (Option.some.inj z2).symm
    exact way_inj hF hj h1 h2 hx t u (by omega) (fun v hv' => hv v (by omega)) (Prod.ext e5 e4)
theorem led_ex (hF : Perm s m F) (hj : Part s j) (h1 : x.1 < s) (h2 : x.2 < m) (hx : j x.1 = none) : ∃ n z, n ≤ s * m ∧ Led F j n x z := by
  by_cases hall : ∀ u < s * m + 1, (j (way F j x u).1).isSome
  · exfalso
    let l := (List.range (s * m + 1)).map (way F j x)
    have hnd : l.Nodup := by
      refine nodup_map List.nodup_range fun a ha b hb e => ?_
      have ha' := List.mem_range.mp ha
      have hb' := List.mem_range.mp hb
      rcases Nat.lt_trichotomy a b with h | h | h
      · exact absurd e (way_inj hF hj h1 h2 hx a b h fun v hv => hall v (by omega))
      · exact h
      · exact absurd e.symm (way_inj hF hj h1 h2 hx b a h fun v hv => hall v (by omega))
    have hsub : ∀ p ∈ l, p ∈ allP s m := fun p hp => by
      obtain ⟨t, ht, rfl⟩ := List.mem_map.mp hp
      exact mem_allP.mpr (way_maps hF hj h1 h2 t fun v hv => hall v (by have := List.mem_range.mp ht; omega))
    have hlen : (allP s m).length ≤ l.length := by rw [allP_len]; simp [l]
    have := (subset_perm hnd hsub hlen).length_eq
    rw [allP_len] at this
    simp [l] at this
  · have hex : ∃ t, t < s * m + 1 ∧ ¬ (j (way F j x t).1).isSome := by
      refine Classical.byContradiction fun hn => hall fun u hu => Classical.byContradiction fun hu2 => hn ⟨u, hu, hu2⟩
    have least : ∀ t, t < s * m + 1 → ¬ (j (way F j x t).1).isSome → ∃ u, u < s * m + 1 ∧ j (way F j x u).1 = none ∧ ∀ v < u, (j (way F j x v).1).isSome := by
      intro t
      induction t using Nat.strongRecOn with
      | ind t ih =>
        intro ht hn
        by_cases hv : ∀ v < t, (j (way F j x v).1).isSome
        · exact ⟨t, ht, by simpa using hn, hv⟩
        · obtain ⟨v, hv'⟩ := Classical.not_forall.mp hv
          obtain ⟨hvt, hvn⟩ := Classical.not_imp.mp hv'
          exact ih v hvt (by omega) hvn
    obtain ⟨t, ht, hn⟩ := hex
    obtain ⟨u, hu, hu1, hu2⟩ := least t ht hn
    exact ⟨u, _, by omega, way_led u x hu2 hu1⟩
theorem led_spec (hF : Perm s m F) (hj : Part s j) (h1 : x.1 < s) (h2 : x.2 < m) (hx : j x.1 = none) : ∃ n, n ≤ s * m ∧ Led F j n x (led F j x) := by
  obtain ⟨n, z, hn, h⟩ := led_ex hF hj h1 h2 hx
  exact ⟨n, hn, by rw [led_eq h]; exact h⟩
/-! ### led back -/
def Inv (s m : Nat) (F G : Pt → Pt) : Prop := ∀ p : Pt, p.1 < s → p.2 < m → G (F p) = p
theorem led_back (hF : Perm s m F) (hj : Part s j) (hG : Inv s m F G) (h : Led F j n x z) : x.1 < s → x.2 < m → ∀ w, ((j x.1 = none ∧ w = x) ∨ ∃ b k, j x.1 = some b ∧ Led G j k (b, x.2) w) → ∃ k, Led G j k z w := by
  induction h with
  | @done x e =>
    intro h1 h2 w hw
    have hg := hG _ h1 h2
    rcases hw with ⟨hx, rfl⟩ | ⟨b, k, hb, t⟩
    · have := Led.done (F := G) (j := j) (x := F w) (by rw [hg]; exact hx)
      rw [hg] at this
      exact ⟨0, this⟩
    · exact ⟨k + 1, .step (x := F x) (by rw [hg]; exact hb) (by rw [hg]; exact t)⟩
  | @step n x z b e t ih =>
    intro h1 h2 w hw
    have hg := hG _ h1 h2
    refine ih (hj.lt _ _ e) (hF.maps _ h1 h2).2 w (.inr ⟨(F x).1, ?_⟩)
    have hb' := hj.inv _ _ e
    rcases hw with ⟨hx, rfl⟩ | ⟨c, k, hc, t'⟩
    · have := Led.done (F := G) (j := j) (x := F w) (by rw [hg]; exact hx)
      rw [hg] at this
      exact ⟨0, hb', this⟩
    · exact ⟨k + 1, hb', .step (x := F x) (by rw [hg]; exact hc) (by rw [hg]; exact t')⟩
theorem led_turn (hF : Perm s m F) (hj : Part s j) (hG : Inv s m F G) (h1 : x.1 < s) (h2 : x.2 < m) (hx : j x.1 = none) : led G j (led F j x) = x := by
  obtain ⟨n, _, h⟩ := led_spec hF hj h1 h2 hx
  obtain ⟨k, t⟩ := led_back hF hj hG h h1 h2 x (.inl ⟨hx, rfl⟩)
  exact led_eq t
end
end Qm
set_option Elab.async false
set_option linter.all false
set_option maxHeartbeats 1000000
set_option maxRecDepth 100000
/-! Qm2: closed gates -/
namespace Qm
open PySem PySem.Spec L2 Dn Pn
def FG (g : Gate) (p : Pt) : Pt := FF g p.2 p.1
noncomputable def closeG (a b s m : Nat) (g : Gate) : Gate := mkG (s - 2) m fun k i => (dn a b (led (FG g) (pj a b) (up a b i, k)).1, (led (FG g) (pj a b) (up a b i, k)).2)
section
variable {s m a b : Nat} {g : Gate}
theorem FG_mem (h : IsGate s m g) {p : Pt} (h1 : p.1 < s) (h2 : p.2 < m) : gat g p.2 p.1 = some (FG g p) := gat_FF h.len h.rows h2 h1
theorem gat_flat {k i : Nat} {p : Pt} (h : gat g k i = some p) : p ∈ g.flatten := by
  unfold gat at h
  obtain ⟨r, h1, h2⟩ := Option.bind_eq_some_iff.mp h
  exact List.mem_flatten.mpr ⟨r, List.mem_of_getElem? h1, List.mem_of_getElem? h2⟩
theorem _root_.Pn.IsGate.nd {s m : Nat} {g : Gate} (h : IsGate s m g) : g.flatten.Nodup := h.perm.nodup_iff.mpr (nodup_allP s m)
theorem _root_.Pn.IsGate.pm {s m : Nat} {g : Gate} (h : IsGate s m g) : Perm s m (FG g) := by
  refine ⟨fun p h1 h2 => ?_, fun p q h1 h2 h3 h4 e => ?_⟩
  · exact mem_allP.mp (h.perm.mem_iff.mp (gat_flat (FG_mem h h1 h2)))
  · have e1 := FG_mem h h1 h2
    have e2 := FG_mem h h3 h4
    rw [← e] at e2
    obtain ⟨q1, q2⟩ := gat_uniq h.nd e1 e2
    exact Prod.ext q2 q1
theorem FG_turn (h : IsGate s m g) {p : Pt} (h1 : p.1 < s) (h2 : p.2 < m) : FG (turnG s m g) p = inv g p := by
  unfold FG
  rw [turn_eq, FF_mkG h2 h1]
theorem inv_turn (h : IsGate s m g) : Inv s m (FG g) (FG (turnG s m g)) := fun p h1 h2 => by
  obtain ⟨q1, q2⟩ := h.pm.maps p h1 h2
  rw [FG_turn h q1 q2, inv_of h.nd (FG_mem h h1 h2)]
theorem inv_turn' (h : IsGate s m g) : Inv s m (FG (turnG s m g)) (FG g) := fun p h1 h2 => by
  rw [FG_turn h h1 h2]
  exact (inv_spec h h1 h2).2.2
theorem FG_close {i k : Nat} (hi : i < s - 2) (hk : k < m) : FG (closeG a b s m g) (i, k) = (dn a b (led (FG g) (pj a b) (up a b i, k)).1, (led (FG g) (pj a b) (up a b i, k)).2) := by
  show FF (mkG (s - 2) m _) k i = _
  rw [FF_mkG hk hi]
/-- the side that stays from which one is led to a given one -/
theorem close_back (h : IsGate s m g) (hab : a ≠ b) (ha : a < s) (hb : b < s) {i k : Nat} (hi : i < s - 2) (hk : k < m) : ∃ x : Pt, x = led (FG (turnG s m g)) (pj a b) (up a b i, k) ∧ x.1 < s ∧ x.2 < m ∧ x.1 ≠ a ∧ x.1 ≠ b ∧ led (FG g) (pj a b) x = (up a b i, k) := by
  obtain ⟨u1, u2, u3⟩ := up_spec hab i
  have hu : up a b i < s := up_lt hab ha hb hi
  have hj := Part.pj (a := a) (b := b) ha hb
  have hx0 : pj a b (up a b i) = none := pj_none.mpr ⟨u1, u2⟩
  obtain ⟨n, _, t⟩ := led_spec (x := (up a b i, k)) (isGate_turn h).pm hj hu hk hx0
  obtain ⟨o1, o2⟩ := pj_none.mp t.out
  obtain ⟨m1, m2⟩ := t.maps (isGate_turn h).pm hj hu hk
  exact ⟨_, rfl, m1, m2, o1, o2, led_turn (x := (up a b i, k)) (isGate_turn h).pm hj (inv_turn' h) hu hk hx0⟩
theorem isGate_close (h : IsGate s m g) (hab : a ≠ b) (ha : a < s) (hb : b < s) : IsGate (s - 2) m (closeG a b s m g) := by
  refine isGate_of mkG_len mkG_rows fun i hi k hk => ?_
  obtain ⟨x, _, x1, x2, x3, x4, e⟩ := close_back h hab ha hb hi hk
  refine ⟨dn a b x.1, dn_lt hab ha hb x1 x3 x4, x.2, x2, ?_⟩
  have this : FF (closeG a b s m g) x.2 (dn a b x.1) = _ := FG_close (g := g) (a := a) (b := b) (dn_lt hab ha hb x1 x3 x4) x2
  rw [this, up_dn hab x3 x4, Prod.eta, e, (up_spec hab i).2.2]
theorem close_turn (h : IsGate s m g) (hab : a ≠ b) (ha : a < s) (hb : b < s) : closeG a b s m (turnG s m g) = turnG (s - 2) m (closeG a b s m g) := by
  rw [turn_eq (s - 2) m (closeG a b s m g)]
  refine mkG_congr fun k hk i hi => ?_
  obtain ⟨x, ex, x1, x2, x3, x4, e⟩ := close_back h hab ha hb hi hk
  rw [← ex]
  have hd := dn_lt hab ha hb x1 x3 x4
  have hg := isGate_close h hab ha hb
  have e1 := FG_mem hg (p := (dn a b x.1, x.2)) hd x2
  rw [FG_close hd x2, up_dn hab x3 x4, Prod.eta, e, (up_spec hab i).2.2] at e1
  exact (inv_of hg.nd e1).symm
end
/-! ### beside another gate -/
section
variable {s1 m1 s2 m2 a b : Nat} {g h : Gate}
theorem FG_beside (hg : IsGate s1 m1 g) (hh : IsGate s2 m2 h) (h0 : 0 < m2) {i k : Nat} (hi : i < s1 + s2) (hk : k < m1 * m2) : FG (besideG m2 s1 g h) (i, k) = bF m2 s1 (FF g) (FF h) k i := by
  unfold FG
  rw [beside_mk hg.len hg.rows hh.len hh.rows h0, FF_mkG hk hi]
theorem mul_lt {q r m1 m2 : Nat} (hq : q < m1) (hr : r < m2) : q * m2 + r < m1 * m2 := by
  have : (q + 1) * m2 ≤ m1 * m2 := Nat.mul_le_mul_right _ hq
  rw [Nat.add_mul, Nat.one_mul] at this
  omega
theorem dm {q r m2 : Nat} (hr : r < m2) : (q * m2 + r) / m2 = q ∧ (q * m2 + r) % m2 = r := by
  have h0 : 0 < m2 := by omega
  rw [Nat.mul_comm q m2]
  exact ⟨by rw [Nat.mul_add_div h0, Nat.div_eq_of_lt hr, Nat.add_zero], by rw [Nat.mul_add_mod, Nat.mod_eq_of_lt hr]⟩
theorem led_left (hg : IsGate s1 m1 g) (hh : IsGate s2 m2 h) {j : Nat → Option Nat} (hj : Part s1 j) {r : Nat} (hr : r < m2) {n : Nat} {x z : Pt} (t : Led (FG g) j n x z) : x.1 < s1 → x.2 < m1 → Led (FG (besideG m2 s1 g h)) j n (x.1, x.2 * m2 + r) (z.1, z.2 * m2 + r) := by
  have val : ∀ x : Pt, x.1 < s1 → x.2 < m1 → FG (besideG m2 s1 g h) (x.1, x.2 * m2 + r) = ((FG g x).1, (FG g x).2 * m2 + r) := fun x h1 h2 => by
    obtain ⟨d1, d2⟩ := dm (q := x.2) hr
    rw [FG_beside hg hh (by omega) (by omega) (mul_lt h2 hr)]
    unfold bF
    rw [if_pos h1, d1, d2]
    rfl
  induction t with
  | @done x e =>
    intro h1 h2
    have v := val x h1 h2
    rw [← v]
    exact .done (by rw [v]; exact e)
  | @step n x z b e t ih =>
    intro h1 h2
    have v := val x h1 h2
    refine .step (by rw [v]; exact e) ?_
    rw [v]
    exact ih (hj.lt _ _ e) (hg.pm.maps _ h1 h2).2
theorem close_left (hg : IsGate s1 m1 g) (hh : IsGate s2 m2 h) (h0 : 0 < m2) (hab : a ≠ b) (ha : a < s1) (hb : b < s1) : closeG a b (s1 + s2) (m1 * m2) (besideG m2 s1 g h) = besideG m2 (s1 - 2) (closeG a b s1 m1 g) h := by
  have hc := isGate_close hg hab ha hb
  rw [beside_mk hc.len hc.rows hh.len hh.rows h0]
  have es : s1 + s2 - 2 = s1 - 2 + s2 := by omega
  unfold closeG
  rw [es]
  refine mkG_congr fun k hk i hi => ?_
  have hk1 : k / m2 < m1 := Nat.div_lt_of_lt_mul (by rw [Nat.mul_comm]; exact hk)
  have hk2 : k % m2 < m2 := Nat.mod_lt _ h0
  have ek : k / m2 * m2 + k % m2 = k := by rw [Nat.mul_comm]; exact Nat.div_add_mod k m2
  have hj := Part.pj (a := a) (b := b) ha hb
  by_cases hi1 : i < s1 - 2
  · have hu : up a b i < s1 := up_lt hab ha hb hi1
    obtain ⟨u1, u2, _⟩ := up_spec hab i
    obtain ⟨n, _, t⟩ := led_spec (x := (up a b i, k / m2)) hg.pm hj hu hk1 (pj_none.mpr ⟨u1, u2⟩)
    have t2 := led_left hg hh hj hk2 t hu hk1
    rw [ek] at t2
    rw [led_eq t2]
    unfold bF
    rw [if_pos hi1, FF_mkG hk1 hi1]
  · have hu : up a b i = i + 2 := by unfold up; (repeat' split) <;> omega
    have v : FG (besideG m2 s1 g h) (i + 2, k) = (s1 + (FF h (k % m2) (i + 2 - s1)).1, k / m2 * m2 + (FF h (k % m2) (i + 2 - s1)).2) := by
      rw [FG_beside hg hh h0 (by omega) hk]
      unfold bF
      rw [if_neg (by omega)]
    have t : Led (FG (besideG m2 s1 g h)) (pj a b) 0 (i + 2, k) (s1 + (FF h (k % m2) (i + 2 - s1)).1, k / m2 * m2 + (FF h (k % m2) (i + 2 - s1)).2) := by
      rw [← v]
      exact .done (by rw [v]; exact pj_none.mpr ⟨by show s1 + _ ≠ a; omega, by show s1 + _ ≠ b; omega⟩)
    rw [hu, led_eq t]
    unfold bF
    rw [if_neg hi1, show i + 2 - s1 = i - (s1 - 2) by omega]
    refine Prod.ext ?_ rfl
    show dn a b (s1 + _) = s1 - 2 + _
    unfold dn
    rw [if_pos (by omega), if_pos (by omega)]
    omega
theorem pj_add {s1 a b i : Nat} : pj (s1 + a) (s1 + b) (s1 + i) = (pj a b i).map (s1 + ·) := by
  unfold pj
  by_cases h1 : i = a
  · rw [if_pos h1, if_pos (by omega)]; rfl
  · rw [if_neg h1, if_neg (by omega)]
    by_cases h2 : i = b
    · rw [if_pos h2, if_pos (by omega)]; rfl
    · rw [if_neg h2, if_neg (by omega)]; rfl
theorem led_right (hh : IsGate s1 m1 h) (hg : IsGate s2 m2 g) (ha : a < s2) (hb : b < s2) {r : Nat} (hr : r < m1) {n : Nat} {x z : Pt} (t : Led (FG g) (pj a b) n x z) : x.1 < s2 → x.2 < m2 → Led (FG (besideG m2 s1 h g)) (pj (s1 + a) (s1 + b)) n (s1 + x.1, r * m2 + x.2) (s1 + z.1, r * m2 + z.2) := by
  have hj := Part.pj (a := a) (b := b) ha hb
  have val : ∀ x : Pt, x.1 < s2 → x.2 < m2 → FG (besideG m2 s1 h g) (s1 + x.1, r * m2 + x.2) = (s1 + (FG g x).1, r * m2 + (FG g x).2) := fun x h1 h2 => by
    obtain ⟨d1, d2⟩ := dm (q := r) h2
    rw [FG_beside hh hg (by omega) (by omega) (mul_lt hr h2)]
    unfold bF
    rw [if_neg (by omega), d1, d2, show s1 + x.1 - s1 = x.1 by omega]
    rfl
  induction t with
  | @done x e =>
    intro h1 h2
    have v := val x h1 h2
    rw [← v]
    exact .done (by rw [v]; show pj _ _ (s1 + _) = none; rw [pj_add, e]; rfl)
  | @step n x z c e t ih =>
    intro h1 h2
    have v := val x h1 h2
    refine .step (b := s1 + c) (by rw [v]; show pj _ _ (s1 + _) = _; rw [pj_add, e]; rfl) ?_
    rw [v]
    exact ih (hj.lt _ _ e) (hg.pm.maps _ h1 h2).2
theorem close_right (hh : IsGate s1 m1 h) (hg : IsGate s2 m2 g) (h0 : 0 < m2) (hab : a ≠ b) (ha : a < s2) (hb : b < s2) : closeG (s1 + a) (s1 + b) (s1 + s2) (m1 * m2) (besideG m2 s1 h g) = besideG m2 s1 h (closeG a b s2 m2 g) := by
  have hc := isGate_close hg hab ha hb
  rw [beside_mk hh.len hh.rows hc.len hc.rows h0]
  have es : s1 + s2 - 2 = s1 + (s2 - 2) := by omega
  unfold closeG
  rw [es]
  refine mkG_congr fun k hk i hi => ?_
  have hk1 : k / m2 < m1 := Nat.div_lt_of_lt_mul (by rw [Nat.mul_comm]; exact hk)
  have hk2 : k % m2 < m2 := Nat.mod_lt _ h0
  have ek : k / m2 * m2 + k % m2 = k := by rw [Nat.mul_comm]; exact Nat.div_add_mod k m2
  by_cases hi1 : i < s1
  · have hu : up (s1 + a) (s1 + b) i = i := by unfold up; (repeat' split) <;> omega
    have v : FG (besideG m2 s1 h g) (i, k) = ((FF h (k / m2) i).1, (FF h (k / m2) i).2 * m2 + k % m2) := by
      rw [FG_beside hh hg h0 (by omega) hk]
      unfold bF
      rw [if_pos hi1]
    have hl : (FF h (k / m2) i).1 < s1 := (hh.pm.maps (i, k / m2) hi1 hk1).1
    have t : Led (FG (besideG m2 s1 h g)) (pj (s1 + a) (s1 + b)) 0 (i, k) ((FF h (k / m2) i).1, (FF h (k / m2) i).2 * m2 + k % m2) := by
      rw [← v]
      exact .done (by rw [v]; exact pj_none.mpr ⟨by show (FF h (k / m2) i).1 ≠ _; omega, by show (FF h (k / m2) i).1 ≠ _; omega⟩)
    rw [hu, led_eq t]
    unfold bF
    rw [if_pos hi1]
    refine Prod.ext ?_ rfl
    show dn _ _ (FF h (k / m2) i).1 = _
    unfold dn
    rw [if_neg (by omega), if_neg (by omega)]
    rfl
  · have hi2 : i - s1 < s2 - 2 := by omega
    have hu : up (s1 + a) (s1 + b) i = s1 + up a b (i - s1) := by unfold up; (repeat' split) <;> omega
    have hu2 : up a b (i - s1) < s2 := up_lt hab ha hb hi2
    obtain ⟨u1, u2, _⟩ := up_spec hab (i - s1)
    obtain ⟨n, _, t⟩ := led_spec (x := (up a b (i - s1), k % m2)) hg.pm (Part.pj ha hb) hu2 hk2 (pj_none.mpr ⟨u1, u2⟩)
    have t2 := led_right hh hg ha hb hk1 t hu2 hk2
    rw [ek] at t2
    rw [hu, led_eq t2]
    unfold bF
    rw [if_neg hi1, FF_mkG hk2 hi2]
    refine Prod.ext ?_ rfl
    show dn _ _ (s1 + _) = s1 + dn _ _ _
    unfold dn
    (repeat' split) <;> omega
end
/-! ### two pairs, whichever first -/
section
variable {s m a b c d : Nat} {g : Gate}
def pj2 (a b c d : Nat) (i : Nat) : Option Nat := match pj a b i with
  | some x => some x
  | none => pj c d i
theorem led_join {F : Pt → Pt} {n : Nat} {x y : Pt} (t : Led F (pj a b) n x y) : (pj c d y.1 = none → ∃ n', Led F (pj2 a b c d) n' x y) ∧ ∀ e k z, pj c d y.1 = some e → Led F (pj2 a b c d) k (e, y.2) z → ∃ n', Led F (pj2 a b c d) n' x z := by
  induction t with
  | @done x e0 =>
    have e2 : pj2 a b c d (F x).1 = pj c d (F x).1 := by unfold pj2; rw [e0]
    exact ⟨fun e => ⟨0, .done (by rw [e2, e])⟩, fun q k z e t => ⟨k + 1, .step (by rw [e2, e]) t⟩⟩
  | @step n x y f e0 t ih =>
    have e2 : pj2 a b c d (F x).1 = some f := by unfold pj2; rw [e0]
    exact ⟨fun e => let ⟨n', q⟩ := ih.1 e; ⟨n' + 1, .step e2 q⟩, fun q k z e t' => let ⟨n', r⟩ := ih.2 q k z e t'; ⟨n' + 1, .step e2 r⟩⟩
theorem led_two (h : IsGate s m g) (hab : a ≠ b) (ha : a < s) (hb : b < s) (hc : c < s) (hd : d < s) (ac : a ≠ c) (ad : a ≠ d) (bc : b ≠ c) (bd : b ≠ d) {n : Nat} {x w : Pt} (t : Led (FG (closeG a b s m g)) (pj (dn a b c) (dn a b d)) n x w) : x.1 < s - 2 → x.2 < m → ∃ n', Led (FG g) (pj2 a b c d) n' (up a b x.1, x.2) (up a b w.1, w.2) := by
  have key : ∀ x : Pt, x.1 < s - 2 → x.2 < m → ∃ n0 y, Led (FG g) (pj a b) n0 (up a b x.1, x.2) y ∧ FG (closeG a b s m g) x = (dn a b y.1, y.2) ∧ up a b (dn a b y.1) = y.1 ∧ y.1 ≠ a ∧ y.1 ≠ b ∧ y.1 < s ∧ y.2 < m := fun x h1 h2 => by
    obtain ⟨u1, u2, _⟩ := up_spec hab x.1
    have hu := up_lt hab ha hb h1
    obtain ⟨n0, _, t⟩ := led_spec (x := (up a b x.1, x.2)) h.pm (Part.pj ha hb) hu h2 (pj_none.mpr ⟨u1, u2⟩)
    obtain ⟨o1, o2⟩ := pj_none.mp t.out
    obtain ⟨q1, q2⟩ := t.maps h.pm (Part.pj ha hb) hu h2
    exact ⟨n0, _, t, FG_close h1 h2, up_dn hab o1 o2, o1, o2, q1, q2⟩
  induction t with
  | @done x e =>
    intro h1 h2
    obtain ⟨n0, y, t, v, u, y1, y2, y3, y4⟩ := key x h1 h2
    rw [v] at e ⊢
    have ey : pj c d y.1 = none := by
      obtain ⟨e1, e2⟩ := pj_none.mp e
      refine pj_none.mpr ⟨fun q => ?_, fun q => ?_⟩
      · exact e1 (by rw [q])
      · exact e2 (by rw [q])
    show ∃ n', Led _ _ n' _ (up a b (dn a b y.1), y.2)
    rw [u]
    exact (led_join t).1 ey
  | @step n x w f e t ih =>
    intro h1 h2
    obtain ⟨n0, y, t0, v, u, y1, y2, y3, y4⟩ := key x h1 h2
    rw [v] at e ih
    have hf : ∃ q, pj c d y.1 = some q ∧ f = dn a b q ∧ q ≠ a ∧ q ≠ b ∧ q < s := by
      rcases pj_some e with ⟨e1, rfl⟩ | ⟨e1, rfl⟩
      · have := dn_inj hab y1 y2 (Ne.symm ac) (Ne.symm bc) e1
        exact ⟨d, by unfold pj; rw [if_pos this], rfl, Ne.symm ad, Ne.symm bd, hd⟩
      · have := dn_inj hab y1 y2 (Ne.symm ad) (Ne.symm bd) e1
        refine ⟨c, ?_, rfl, Ne.symm ac, Ne.symm bc, hc⟩
        unfold pj
        by_cases z : y.1 = c
        · rw [if_pos z]; rw [← this, z]
        · rw [if_neg z, if_pos this]
    obtain ⟨q, hq, rfl, q1, q2, q3⟩ := hf
    obtain ⟨n', r⟩ := ih (dn_lt hab ha hb q3 q1 q2) y4
    have r' : Led (FG g) (pj2 a b c d) n' (q, y.2) (up a b w.1, w.2) := by
      have e3 : up a b (dn a b q) = q := up_dn hab q1 q2
      have : Led (FG g) (pj2 a b c d) n' (up a b (dn a b q), y.2) (up a b w.1, w.2) := r
      rw [e3] at this
      exact this
    exact (led_join t0).2 q n' _ hq r'
theorem dn_lt_iff (hab : a ≠ b) {z : Nat} (c1 : c ≠ a) (c2 : c ≠ b) (z1 : z ≠ a) (z2 : z ≠ b) : dn a b c < dn a b z ↔ c < z := by
  unfold dn
  (repeat' split) <;> omega
theorem dn_dn (hab : a ≠ b) {z : Nat} (c1 : c ≠ a) (c2 : c ≠ b) (d1 : d ≠ a) (d2 : d ≠ b) (z1 : z ≠ a) (z2 : z ≠ b) : dn (dn a b c) (dn a b d) (dn a b z) = z - (if a < z then 1 else 0) - (if b < z then 1 else 0) - (if c < z then 1 else 0) - (if d < z then 1 else 0) := by
  have e1 := dn_lt_iff hab c1 c2 z1 z2
  have e2 := dn_lt_iff hab d1 d2 z1 z2
  have u : dn (dn a b c) (dn a b d) (dn a b z) = dn a b z - (if dn a b c < dn a b z then 1 else 0) - (if dn a b d < dn a b z then 1 else 0) := rfl
  rw [u]
  simp only [e1, e2]
  rfl
theorem pj2_swap (ac : a ≠ c) (ad : a ≠ d) (bc : b ≠ c) (bd : b ≠ d) : pj2 a b c d = pj2 c d a b := by
  funext i
  unfold pj2
  cases e : pj a b i with
  | none => cases e2 : pj c d i <;> rfl
  | some x =>
    have : pj c d i = none := by
      refine pj_none.mpr ?_
      rcases pj_some e with ⟨rfl, _⟩ | ⟨rfl, _⟩ <;> exact ⟨by assumption, by assumption⟩
    rw [this]
theorem close_comm (h : IsGate s m g) (hab : a ≠ b) (hcd : c ≠ d) (ha : a < s) (hb : b < s) (hc : c < s) (hd : d < s) (ac : a ≠ c) (ad : a ≠ d) (bc : b ≠ c) (bd : b ≠ d) :
    closeG (dn a b c) (dn a b d) (s - 2) m (closeG a b s m g) = closeG (dn c d a) (dn c d b) (s - 2) m (closeG c d s m g) := by
  have h1 := isGate_close h hab ha hb
  have h2 := isGate_close h hcd hc hd
  have hab' : dn a b c ≠ dn a b d := fun e => hcd (dn_inj hab (Ne.symm ac) (Ne.symm bc) (Ne.symm ad) (Ne.symm bd) e)
  have hcd' : dn c d a ≠ dn c d b := fun e => hab (dn_inj hcd ac ad bc bd e)
  have l1 : dn a b c < s - 2 := dn_lt hab ha hb hc (Ne.symm ac) (Ne.symm bc)
  have l2 : dn a b d < s - 2 := dn_lt hab ha hb hd (Ne.symm ad) (Ne.symm bd)
  have l3 : dn c d a < s - 2 := dn_lt hcd hc hd ha ac ad
  have l4 : dn c d b < s - 2 := dn_lt hcd hc hd hb bc bd
  refine mkG_congr fun k hk i hi => ?_
  have hu1 := up_lt hab' l1 l2 hi
  have hu2 := up_lt hcd' l3 l4 hi
  obtain ⟨p1, p2, p3⟩ := up_spec hab' i
  obtain ⟨q1, q2, q3⟩ := up_spec hcd' i
  obtain ⟨n, _, t⟩ := led_spec (x := (up (dn a b c) (dn a b d) i, k)) h1.pm (Part.pj l1 l2) hu1 hk (pj_none.mpr ⟨p1, p2⟩)
  obtain ⟨n', _, t'⟩ := led_spec (x := (up (dn c d a) (dn c d b) i, k)) h2.pm (Part.pj l3 l4) hu2 hk (pj_none.mpr ⟨q1, q2⟩)
  obtain ⟨w, hw⟩ : ∃ w, w = led (FG (closeG a b s m g)) (pj (dn a b c) (dn a b d)) (up (dn a b c) (dn a b d) i, k) := ⟨_, rfl⟩
  obtain ⟨w', hw'⟩ : ∃ w, w = led (FG (closeG c d s m g)) (pj (dn c d a) (dn c d b)) (up (dn c d a) (dn c d b) i, k) := ⟨_, rfl⟩
  rw [← hw] at t ⊢
  rw [← hw'] at t' ⊢
  obtain ⟨r, tt⟩ := led_two h hab ha hb hc hd ac ad bc bd t hu1 hk
  obtain ⟨r', tt'⟩ := led_two h hcd hc hd ha hb (Ne.symm ac) (Ne.symm bc) (Ne.symm ad) (Ne.symm bd) t' hu2 hk
  rw [← pj2_swap ac ad bc bd] at tt'
  -- the two numberings
  have num : ∀ z, z ≠ a → z ≠ b → z ≠ c → z ≠ d → dn (dn a b c) (dn a b d) (dn a b z) = dn (dn c d a) (dn c d b) (dn c d z) := fun z z1 z2 z3 z4 => by
    rw [dn_dn hab (Ne.symm ac) (Ne.symm bc) (Ne.symm ad) (Ne.symm bd) z1 z2, dn_dn hcd ac ad bc bd z3 z4]
    (repeat' split) <;> omega
  obtain ⟨v1, v2, v3⟩ := up_spec hab (up (dn a b c) (dn a b d) i)
  obtain ⟨v4, v5, v6⟩ := up_spec hcd (up (dn c d a) (dn c d b) i)
  have e0 : up a b (up (dn a b c) (dn a b d) i) = up c d (up (dn c d a) (dn c d b) i) := by
    obtain ⟨j, hj⟩ : ∃ j, j = up a b (up (dn a b c) (dn a b d) i) := ⟨_, rfl⟩
    obtain ⟨j', hj'⟩ : ∃ j, j = up c d (up (dn c d a) (dn c d b) i) := ⟨_, rfl⟩
    rw [← hj] at v1 v2 v3 ⊢
    rw [← hj'] at v4 v5 v6 ⊢
    have jc : j ≠ c := fun e => p1 (by rw [← v3, e])
    have jd : j ≠ d := fun e => p2 (by rw [← v3, e])
    have ja : j' ≠ a := fun e => q1 (by rw [← v6, e])
    have jb : j' ≠ b := fun e => q2 (by rw [← v6, e])
    have e1 := num j v1 v2 jc jd
    have e2 : dn (dn a b c) (dn a b d) (dn a b j) = i := by rw [v3, p3]
    have e3 : dn (dn c d a) (dn c d b) (dn c d j') = i := by rw [v6, q3]
    have e4 := dn_inj hcd' (j := dn c d j) (j' := dn c d j') (fun e => v1 (dn_inj hcd jc jd ac ad e)) (fun e => v2 (dn_inj hcd jc jd bc bd e)) (fun e => ja (dn_inj hcd v4 v5 ac ad e)) (fun e => jb (dn_inj hcd v4 v5 bc bd e)) (by rw [e3, ← e1, e2])
    exact dn_inj hcd jc jd v4 v5 e4
  have tt2 : Led (FG g) (pj2 a b c d) r (up a b (up (dn a b c) (dn a b d) i), k) (up a b w.1, w.2) := tt
  have tt2' : Led (FG g) (pj2 a b c d) r' (up c d (up (dn c d a) (dn c d b) i), k) (up c d w'.1, w'.2) := tt'
  rw [e0] at tt2
  have e5 := (tt2.det tt2').2
  have e6 : up a b w.1 = up c d w'.1 := congrArg (·.1) e5
  have e7 : w.2 = w'.2 := congrArg (·.2) e5
  obtain ⟨w1, w2, w3⟩ := up_spec hab w.1
  obtain ⟨w4, w5, w6⟩ := up_spec hcd w'.1
  refine Prod.ext ?_ e7
  show dn _ _ w.1 = dn _ _ w'.1
  rw [← w3, ← w6, ← e6]
  exact num _ w1 w2 (by rw [e6]; exact w4) (by rw [e6]; exact w5)
end
end Qm
set_option Elab.async false
set_option linter.all false
set_option maxHeartbeats 1000000
set_option maxRecDepth 100000
/-! Pc1: passed, led_through, closed -/
namespace Pc
open PySem PySem.Spec L2 Dn Pn Qn Qm
section
variable {s m a b i k : Nat} {g : Gate}
noncomputable def FNeedS (r : DS) : DF := trimF (dDef 2 2 (dIf (dTNot (dTest (dChain vLe vLt (dC (.int 0)) (dVar 1) (dCall FSides (aCons (dVar 0) aNil))))) r dNext))
noncomputable def FNeedM (r : DS) : DF := trimF (dDef 2 2 (dIf (dTNot (dTest (dChain vLe vLt (dC (.int 0)) (dVar 1) (dCall FMarks (aCons (dVar 0) aNil))))) r dNext))
theorem ex_range {P : PE} {ma mb : DE} {i n : Nat} (ha : Ex P ma (.int (i : Nat)) P) (hb : Ex P mb (.int (n : Nat)) P) : ExB P (dTNot (dTest (dChain vLe vLt (dC (.int 0)) ma mb))) (!decide (i < n)) P := by
  have e := (ExB.test (Ex.chain (q := fun i j => decide (i ≤ j)) (q' := fun i j => decide (i < j)) (Ex.con (.int 0)) ha hb)).not
  have e2 : (decide ((0 : Int) ≤ (i : Nat)) && decide (((i : Nat) : Int) < (n : Nat))) = decide (i < n) := by
    by_cases h : i < n
    · simp [h]
    · simp [h]
  rw [e2] at e
  exact e
theorem needS_ok (r : DS) (h : Shape s m g) (hi : i < s) : OpF [] (FNeedS r) [gateD g, .int (i : Nat)] .non := by
  refine fn_dataN (P' := [.d (gateD g), .d (.int (i : Nat))]) rfl (QS.ifF ?_ QS.next)
  have e := ex_range (P := [.d (gateD g), .d (.int (i : Nat))]) (ma := dVar 1) (.var rfl) (Ex.callF (.one (.var (i := 0) rfl)) (sides_ok h))
  rw [decide_eq_true hi] at e
  exact e
theorem needM_ok (r : DS) (h : Shape s m g) (hi : k < m) : OpF [] (FNeedM r) [gateD g, .int (k : Nat)] .non := by
  refine fn_dataN (P' := [.d (gateD g), .d (.int (k : Nat))]) rfl (QS.ifF ?_ QS.next)
  have e := ex_range (P := [.d (gateD g), .d (.int (k : Nat))]) (ma := dVar 1) (.var rfl) (Ex.callF (.one (.var (i := 0) rfl)) (marks_ok h))
  rw [decide_eq_true hi] at e
  exact e
def passedD (m_need_side m_need_mark : DF) : DS := (dSeq (dDrop (dCall m_need_side (aCons (dVar 0) (aCons (dVar 1) aNil)))) (dSeq (dDrop (dCall m_need_mark (aCons (dVar 0) (aCons (dVar 2) aNil)))) (dRet (dBin vIx (dBin vIx (dVar 0) (dVar 2)) (dVar 1)))))
noncomputable def FPassed (r r' : DS) : DF := trimF (dDef 3 3 (passedD (FNeedS r) (FNeedM r')))
theorem passed_ok (r r' : DS) (h : Shape s m g) (hi : i < s) (hk : k < m) : OpF [] (FPassed r r') [gateD g, .int (i : Nat), .int (k : Nat)] (pairD (FF g k i)) :=
  fn_data rfl (QS.seq (.drop (.callF (.two (.var rfl) (.var rfl)) (needS_ok r h hi))) (QS.seq (.drop (.callF (.two (.var rfl) (.var rfl)) (needM_ok r' h hk))) (.ret (.cell h hk hi (.var rfl) (.var rfl) (.var rfl))))) (by simp)
/-! ### led_through -/
def jointC (a b : Nat) : Cell := .dK [(.inl (a : Nat), .int (b : Nat)), (.inl (b : Nat), .int (a : Nat))]
theorem look_joint (i : Nat) : look (jointC a b) (.int (i : Nat)) = some ((pj a b i).map fun c => .int (c : Nat)) := by
  show some (valD _ _) = _
  congr 1
  unfold valD pj
  rw [List.find?_cons]
  by_cases h1 : i = a
  · subst h1
    simp
  · have e1 : ¬ ((Sum.inl (a : Int) : Key) = Sum.inl (i : Int)) := fun e => h1 (by injection e with e; omega)
    rw [decide_eq_false e1, if_neg h1]
    dsimp only
    rw [List.find?_cons]
    by_cases h2 : i = b
    · subst h2
      simp
    · have e2 : ¬ ((Sum.inl (b : Int) : Key) = Sum.inl (i : Int)) := fun e => h2 (by injection e with e; omega)
      rw [decide_eq_false e2, if_neg h2]
      rfl
theorem t_inJ (neg : Bool) (i : Nat) : ∀ S n, S[n]? = some (jointC a b) → vIn neg (.int (i : Nat)) (.ref n) S = .ok (.bl (if neg then !(pj a b i).isSome else (pj a b i).isSome)) S := fun S n e => by
  unfold vIn
  dsimp only
  rw [e]
  have := look_joint (a := a) (b := b) i
  unfold jointC at this ⊢
  dsimp only
  rw [this]
  dsimp only
  rw [Option.isSome_map]
theorem t_ixJ {c : Nat} (h : pj a b i = some c) : ∀ S n, S[n]? = some (jointC a b) → vIx (.ref n) (.int (i : Nat)) S = .ok (.int (c : Nat)) S := fun S n e => by
  unfold vIx
  dsimp only
  rw [e]
  have := look_joint (a := a) (b := b) i
  unfold jointC at this ⊢
  dsimp only
  rw [this, h]
  rfl
def ledD : DS := (dSeq (dAsg (dBin vIx (dBin vIx (dVar 0) (dVar 2)) (dVar 1)) (gTp 2 (gsCons (gNm 1) (gsCons (gNm 2) gsNil)))) (dSeq (dWhile (dTest (dBin (vIn false) (dVar 1) (dVar 3))) (dAsg (dBin vIx (dBin vIx (dVar 0) (dVar 2)) (dBin vIx (dVar 3) (dVar 1))) (gTp 2 (gsCons (gNm 1) (gsCons (gNm 2) gsNil))))) (dRet (dTup (aCons (dVar 1) (aCons (dVar 2) aNil))))))
noncomputable def FLedT : DF := trimF (dDef 4 4 ledD)
def ledP (g : Gate) (y : Pt) (n a b : Nat) : PE := [.d (gateD g), .d (.int (y.1 : Nat)), .d (.int (y.2 : Nat)), .c (some n) (jointC a b)]
theorem led_ok (h : Shape s m g) (hg : IsGate s m g) (ha : a < s) (hb : b < s) (hi : i < s) (hk : k < m) (h1 : i ≠ a) (h2 : i ≠ b) : ∀ S n, S[n]? = some (jointC a b) → FLedT [gateD g, .int (i : Nat), .int (k : Nat), .ref n] S = .ok (pairD (led (FG g) (pj a b) (i, k))) S := fun S n hS => by
  have hj := Part.pj (a := a) (b := b) ha hb
  obtain ⟨r, hr, t⟩ := led_spec (x := (i, k)) hg.pm hj hi hk (pj_none.mpr ⟨h1, h2⟩)
  obtain ⟨z, hz⟩ : ∃ z, z = led (FG g) (pj a b) (i, k) := ⟨_, rfl⟩
  rw [← hz] at t ⊢
  obtain ⟨z1, z2⟩ := t.maps hg.pm hj hi hk
  have hbound : s * m ≤ 1000000 := Nat.mul_le_mul h.s1 h.m1
  -- what holds ahead of each turn
  let I : Nat → PE → Prop := fun j P => ∃ y : Pt, y.1 < s ∧ y.2 < m ∧ P = ledP g y n a b ∧ ((pj a b y.1 = none ∧ y = z) ∨ ∃ c j', pj a b y.1 = some c ∧ j = j' + 1 ∧ Led (FG g) (pj a b) j' (c, y.2) z)
  have start : ∀ {r : Nat} {x : Pt}, Led (FG g) (pj a b) r x z → x.1 < s → x.2 < m → I r (ledP g (FG g x) n a b) := fun {r x} t hx1 hx2 => by
    obtain ⟨q1, q2⟩ := hg.pm.maps x hx1 hx2
    refine ⟨FG g x, q1, q2, rfl, ?_⟩
    cases t with
    | done e => exact .inl ⟨e, rfl⟩
    | step e t => exact .inr ⟨_, _, e, rfl, t⟩
  obtain ⟨o, ho, hw⟩ := QS.whileP (nb := dTest (dBin (vIn false) (dVar 1) (dVar 3))) (s := dAsg (dBin vIx (dBin vIx (dVar 0) (dVar 2)) (dBin vIx (dVar 3) (dVar 1))) (gTp 2 (gsCons (gNm 1) (gsCons (gNm 2) gsNil)))) I (fun o => o = .nx (ledP g z n a b)) (start t hi hk) (by unfold FU; omega) (by
    rintro j P ⟨y, y1, y2, rfl, hy⟩
    refine ⟨(pj a b y.1).isSome, ledP g y n a b, .test (.binD (.var rfl) (.var rfl) ⟨_, rfl⟩ (t_inJ false y.1)), fun hf => ?_, fun ht => ?_⟩
    · rcases hy with ⟨_, rfl⟩ | ⟨c, j', e, _⟩
      · rfl
      · rw [e] at hf; cases hf
    · rcases hy with ⟨e, _⟩ | ⟨c, j', e, rfl, t'⟩
      · rw [e] at ht; cases ht
      · have hc := hj.lt _ _ e
        have st := start t' hc y2
        exact ⟨.nx (ledP g (FG g (c, y.2)) n a b), .asgT (.cell h y2 hc (.var rfl) (.var rfl) (.binH (.var (i := 3) rfl) (.var rfl) ⟨_, rfl⟩ (t_ixJ e))) (.tp2 1 2 _ _), ⟨j', by omega, st⟩⟩)
  subst ho
  refine fn_ok (Ps := ledP g (i, k) n a b) (P' := ledP g z n a b) rfl (QS.seq (P1 := ledP g (FG g (i, k)) n a b) (.asgT (.cell h hk hi (.var rfl) (.var rfl) (.var rfl)) (.tp2 1 2 _ _)) (QS.seq hw (.ret (.tup2 (.var rfl) (.var rfl))))) (fun q r c e => ?_) (by simp [pairD]) (List.nodup_cons.mpr ⟨(fun z => by cases z), List.nodup_nil⟩) ⟨rfl, rfl, rfl, ⟨rfl, hS⟩, trivial⟩
  match q, e with
  | 3, e => exact e
/-! ### closed -/
def closedD (r1 r2 : DS) (m_need_side m_sides_of m_marks_of m_led_through : DF) : DS := (dSeq (dDrop (dCall m_need_side (aCons (dVar 0) (aCons (dVar 1) aNil)))) (dSeq (dDrop (dCall m_need_side (aCons (dVar 0) (aCons (dVar 2) aNil)))) (dSeq (dIf (dTest (dBin vEq (dVar 1) (dVar 2))) r1 dNext) (dSeq (dIf (dTest (dBin vEq (dCall m_sides_of (aCons (dVar 0) aNil)) (dC (.int 2)))) r2 dNext) (dSeq (dAsg (dDisp [((dVar 1), (dVar 2)), ((dVar 2), (dVar 1))]) (gNm 3)) (dSeq (dAsg (dLc (iRange1 (aCons (dCall m_sides_of (aCons (dVar 0) aNil)) aNil)) (gNm 8) (dTest (dBin (vIn true) (dVar 8) (dVar 3))) (dVar 8) [8]) (gNm 4)) (dSeq (dAsg (dLst aNil) (gNm 5)) (dSeq (dFor (iRange1 (aCons (dCall m_marks_of (aCons (dVar 0) aNil)) aNil)) (gNm 6) (dSeq (dAsg (dLc (iVal (dVar 4)) (gNm 8) dYes (dCall m_led_through (aCons (dVar 0) (aCons (dVar 8) (aCons (dVar 6) (aCons (dVar 3) aNil))))) [8]) (gNm 7)) (dDrop (dMeth "list" mAppend (dVar 5) (aCons (dCall bTuple (aCons (dLc (iVal (dVar 7)) (gTp 2 (gsCons (gNm 8) (gsCons (gNm 9) gsNil))) dYes (dTup (aCons (dMeth "list" mIndex (dVar 4) (aCons (dVar 8) aNil)) (aCons (dVar 9) aNil))) [8, 9]) aNil)) aNil))))) (dRet (dCall bTuple (aCons (dVar 5) aNil)))))))))))
noncomputable def FClosed (r0 r1 r2 : DS) : DF := trimF (dDef 3 10 (closedD r1 r2 (FNeedS r0) FSides FMarks FLedT))
theorem stay_eq (hab : a ≠ b) : ∀ t, (List.range t).filter (fun j => (pj a b j).isNone) = (List.range (dn a b t)).map (up a b)
  | 0 => by unfold dn; simp
  | t + 1 => by
    rw [List.range_succ, List.filter_append, stay_eq hab t]
    by_cases h : t = a ∨ t = b
    · have e : (pj a b t).isNone = false := by
        rcases h with rfl | rfl
        · unfold pj; simp
        · unfold pj; rw [if_neg (Ne.symm hab)]; simp
      have e2 : dn a b (t + 1) = dn a b t := by unfold dn; (repeat' split) <;> omega
      rw [e2, List.filter_cons_of_neg (by rw [e]; simp)]
      simp
    · have h1 : t ≠ a := fun z => h (.inl z)
      have h2 : t ≠ b := fun z => h (.inr z)
      have e : (pj a b t).isNone = true := by rw [pj_none.mpr ⟨h1, h2⟩]; rfl
      have e2 : dn a b (t + 1) = dn a b t + 1 := by unfold dn; (repeat' split) <;> omega
      have e3 : [t].filter (fun j => (pj a b j).isNone) = [t] := by rw [List.filter_cons_of_pos (by exact e)]; rfl
      rw [e2, e3, List.range_succ, List.map_append, List.map_singleton, up_dn hab h1 h2]
theorem dn_all (ha : a < s) (hb : b < s) : dn a b s = s - 2 := by unfold dn; rw [if_pos ha, if_pos hb]; omega
noncomputable def clR (a b : Nat) (g : Gate) (k : Nat) (i : Nat) : Pt := (dn a b (led (FG g) (pj a b) (up a b i, k)).1, (led (FG g) (pj a b) (up a b i, k)).2)
def clP (g : Gate) (a b : Nat) (x3 x4 x5 x6 x7 x8 x9 : PV) : PE := [.d (gateD g), .d (.int (a : Nat)), .d (.int (b : Nat)), x3, x4, x5, x6, x7, x8, x9]
theorem joint_eq (hab : a ≠ b) : mergeD [] [((.inl (a : Nat) : Key), D.int (b : Nat)), ((.inl (b : Nat) : Key), D.int (a : Nat))] = [(.inl (a : Nat), .int (b : Nat)), (.inl (b : Nat), .int (a : Nat))] := by
  have e : ¬ ((Sum.inl (a : Int) : Key) = Sum.inl (b : Int)) := fun e => hab (by injection e with e; omega)
  unfold mergeD
  simp only [List.foldl_cons, List.foldl_nil]
  unfold putD
  simp [e]
theorem stay_nd (hab : a ≠ b) (t : Nat) : ((List.range t).map (up a b)).Nodup := nodup_map List.nodup_range fun x _ y _ e => by
  rw [← (up_spec hab x).2.2, e, (up_spec hab y).2.2]
theorem closed_ok (r0 r1 r2 : DS) (h : Shape s m g) (hg : IsGate s m g) (hs : s ≠ 2) (hab : a ≠ b) (ha : a < s) (hb : b < s) : OpF [] (FClosed r0 r1 r2) [gateD g, .int (a : Nat), .int (b : Nat)] (gateD (closeG a b s m g)) := by
  obtain ⟨st, hst⟩ : ∃ st, st = (List.range (s - 2)).map (up a b) := ⟨_, rfl⟩
  have hnd : st.Nodup := by rw [hst]; exact stay_nd hab _
  have hs1 := h.s1
  have hm1 := h.m1
  have sides : ∀ {P : PE} {ma : DE}, Ex P ma (gateD g) P → Ex P (dCall FSides (aCons ma aNil)) (.int (s : Nat)) P := fun e => .callF (.one e) (sides_ok h)
  have hstm : ∀ j ∈ st, j < s ∧ j ≠ a ∧ j ≠ b ∧ st[dn a b j]? = some j := fun j hj => by
    rw [hst] at hj
    obtain ⟨i, hi, rfl⟩ := List.mem_map.mp hj
    have hi' := List.mem_range.mp hi
    obtain ⟨u1, u2, u3⟩ := up_spec hab i
    refine ⟨up_lt hab ha hb hi', u1, u2, ?_⟩
    rw [u3, hst, List.getElem?_map, List.getElem?_range hi']
    rfl
  have row : ∀ (k n4 : Nat) (rows : List D), k < m → rows.length = k → QS (clP g a b (.c none (jointC a b)) (.c (some n4) (.lst (st.map fun i => D.int (i : Nat)))) (.c none (.lst rows)) (.d (.int (k : Nat))) .any .any .any)
      (dSeq (dAsg (dLc (iVal (dVar 4)) (gNm 8) dYes (dCall FLedT (aCons (dVar 0) (aCons (dVar 8) (aCons (dVar 6) (aCons (dVar 3) aNil))))) [8]) (gNm 7)) (dDrop (dMeth "list" mAppend (dVar 5) (aCons (dCall bTuple (aCons (dLc (iVal (dVar 7)) (gTp 2 (gsCons (gNm 8) (gsCons (gNm 9) gsNil))) dYes (dTup (aCons (dMeth "list" mIndex (dVar 4) (aCons (dVar 8) aNil)) (aCons (dVar 9) aNil))) [8, 9]) aNil)) aNil))))
      (.nx (clP g a b (.c none (jointC a b)) (.c (some n4) (.lst (st.map fun i => D.int (i : Nat)))) (.c none (.lst (rows ++ [rowD (st.map fun j => (dn a b (led (FG g) (pj a b) (j, k)).1, (led (FG g) (pj a b) (j, k)).2))]))) (.d (.int (k : Nat))) .any .any .any)) := fun k n4 rows hk hr => by
    have l1 : st.length ≤ sizeLine := sl_ge _ (by rw [hst]; simp; omega)
    have e1 := ExN.lc (P := clP g a b (.c none (jointC a b)) (.c (some n4) (.lst (st.map fun i => D.int (i : Nat)))) (.c none (.lst rows)) (.d (.int (k : Nat))) .any .any .any) (g := gNm 8) (ws := [8]) (vs := [8]) (l := st) (te := dCall FLedT (aCons (dVar 0) (aCons (dVar 8) (aCons (dVar 6) (aCons (dVar 3) aNil))))) (h := fun i : Nat => D.int (i : Nat)) (fun j => pairD (led (FG g) (pj a b) (j, k))) (It.own (j := 4) (n := n4) rfl) l1 rfl (fun _ h => h) (fun j hj => by
      obtain ⟨j1, j2, j3, _⟩ := hstm j hj
      refine ⟨_, Tg.nm 8 _, ?_, rfl⟩
      refine Ex.callM (as := [.d (gateD g), .d (.int (j : Nat)), .d (.int (k : Nat)), .h (some 3) (jointC a b)]) (.cons (.var rfl) (.cons (.var rfl) (.cons (.var rfl) (.consH (.var rfl) .nil)))) ⟨trivial, trivial, trivial, ⟨_, rfl⟩, trivial⟩ fun S xs hx => ?_
      match xs, hx with
      | [x1, x2, x3, x4], ⟨e1, e2, e3, ⟨n, e4, hn⟩, _⟩ =>
        subst e1 e2 e3 e4
        exact led_ok h hg ha hb j1 hk j2 j3 S n hn)
    refine QS.seq (QS.asgN e1) ?_
    refine QS.name (i := 7) rfl fun n7 => ?_
    have em : (st.map fun j => pairD (led (FG g) (pj a b) (j, k))) = (st.map fun j => led (FG g) (pj a b) (j, k)).map pairD := by rw [List.map_map]; rfl
    rw [em]
    have e2 := ExN.lc (P := clP g a b (.c none (jointC a b)) (.c (some n4) (.lst (st.map fun i => D.int (i : Nat)))) (.c none (.lst rows)) (.d (.int (k : Nat))) (.c (some n7) (.lst ((st.map fun j => led (FG g) (pj a b) (j, k)).map pairD))) .any .any) (g := gTp 2 (gsCons (gNm 8) (gsCons (gNm 9) gsNil))) (ws := [8, 9]) (vs := [8, 9]) (l := st.map fun j => led (FG g) (pj a b) (j, k)) (te := dTup (aCons (dMeth "list" mIndex (dVar 4) (aCons (dVar 8) aNil)) (aCons (dVar 9) aNil))) (h := pairD) (fun z => pairD (dn a b z.1, z.2)) (It.own (j := 7) (n := n7) rfl) (by rw [List.length_map]; exact l1) rfl (fun _ h => h) (fun z hz => by
      obtain ⟨j, hj, rfl⟩ := List.mem_map.mp hz
      obtain ⟨j1, j2, j3, _⟩ := hstm j hj
      obtain ⟨r, _, t⟩ := led_spec (x := (j, k)) hg.pm (Part.pj ha hb) j1 hk (pj_none.mpr ⟨j2, j3⟩)
      obtain ⟨z1, z2⟩ := pj_none.mp t.out
      obtain ⟨z3, z4⟩ := t.maps hg.pm (Part.pj ha hb) j1 hk
      have hin : st[dn a b (led (FG g) (pj a b) (j, k)).1]? = some (led (FG g) (pj a b) (j, k)).1 := by
        rw [hst, List.getElem?_map, List.getElem?_range (dn_lt hab ha hb z3 z1 z2), Option.map_some, up_dn hab z1 z2]
      exact ⟨_, Tg.tp2 8 9 _ _, .tup2 (.methR (j := 4) (c := .lst (st.map fun i => D.int (i : Nat))) (c' := .lst (st.map fun i => D.int (i : Nat))) rfl (fun _ _ e => recvL e) (.one (.var rfl)) rfl (t_index hnd hin)) (.var rfl), rfl⟩)
    have e3 := QS.append (P := clP g a b (.c none (jointC a b)) (.c (some n4) (.lst (st.map fun i => D.int (i : Nat)))) (.c none (.lst rows)) (.d (.int (k : Nat))) (.c (some n7) (.lst ((st.map fun j => led (FG g) (pj a b) (j, k)).map pairD))) .any .any) (j := 5) rfl (Ex.tupleN e2) rfl (by rw [hr]; exact lt_sl (by omega))
    refine e3.post fun f E S t => ?_
    have em2 : rowD (st.map fun j => (dn a b (led (FG g) (pj a b) (j, k)).1, (led (FG g) (pj a b) (j, k)).2)) = .tup ((st.map fun j => led (FG g) (pj a b) (j, k)).map fun z => pairD (dn a b z.1, z.2)) := by
      unfold rowD
      rw [List.map_map, List.map_map]
      rfl
    rw [em2]
    exact t.forget 7
  have hstay : ((List.range s).filter fun j => (pj a b j).isNone) = st := by rw [stay_eq hab, dn_all ha hb, hst]
  refine fn_data (P' := List.replicate 10 .any) rfl ?_ (gate_lt _ _)
  refine QS.seq (.drop (.callF (.two (.var rfl) (.var rfl)) (needS_ok r0 h ha))) (QS.seq (.drop (.callF (.two (.var rfl) (.var rfl)) (needS_ok r0 h hb))) ?_)
  refine QS.seq (.ifF (.test (by
    have := Ex.bin (P := clP g a b .any .any .any .any .any .any .any) (ma := dVar 1) (mb := dVar 2) (.var rfl) (.var rfl) (t_eqI (i := (a : Nat)) (j := (b : Nat)))
    rw [decide_eq_false (by omega)] at this
    exact this)) .next) ?_
  refine QS.seq (.ifF (.test (by
    have := Ex.bin (P := clP g a b .any .any .any .any .any .any .any) (sides (ma := dVar 0) (.var rfl)) (.con (.int 2)) (t_eqI (i := (s : Nat)) (j := 2))
    rw [decide_eq_false (by omega)] at this
    exact this)) .next) ?_
  have hd : ExN (clP g a b .any .any .any .any .any .any .any) (dDisp [((dVar 1), (dVar 2)), ((dVar 2), (dVar 1))]) (jointC a b) (clP g a b .any .any .any .any .any .any .any) := by
    have := ExN.disp (P := clP g a b .any .any .any .any .any .any .any) (.cons (.var (i := 1) rfl) (.var (i := 2) rfl) (.cons (.var (i := 2) rfl) (.var (i := 1) rfl) .nil)) (ks := [(.inl (a : Nat), .int (b : Nat)), (.inl (b : Nat), .int (a : Nat))]) rfl (Nat.le_of_ble_eq_true rfl)
    rw [joint_eq hab] at this
    exact this
  refine QS.seq (.asgN hd) ?_
  have hl2 := ExN.lcF (P := clP g a b (.c none (jointC a b)) .any .any .any .any .any .any) (g := gNm 8) (ws := [8]) (vs := [8]) (l := List.range s) (h := fun i : Nat => D.int (i : Nat)) (tt := dTest (dBin (vIn true) (dVar 8) (dVar 3))) (te := dVar 8) (fun i : Nat => D.int (i : Nat)) (fun j => (pj a b j).isNone) (by
    have := It.range (sides (P := clP g a b (.c none (jointC a b)) .any .any .any .any .any .any) (ma := dVar 0) (.var rfl)) (by omega)
    rw [rng_eq] at this
    exact this) (sl_ge _ (by simp; omega)) trivial (fun _ h => h) (fun j hj => by
      refine ⟨_, Tg.nm 8 _, rfl, .test ?_, fun _ => .var rfl⟩
      have := Ex.binD (P := (wipeP (clP g a b (.c none (jointC a b)) .any .any .any .any .any .any) [8]).set 8 (.d (.int (j : Nat)))) (ma := dVar 8) (mb := dVar 3) (.var rfl) (.var rfl) ⟨_, rfl⟩ (t_inJ true j)
      have en : (!(pj a b j).isSome) = (pj a b j).isNone := by cases pj a b j <;> rfl
      rw [if_pos rfl, en] at this
      exact this)
  rw [hstay] at hl2
  refine QS.seq (.asgN hl2) (QS.seq (.asgN .nil) ?_)
  refine QS.name (i := 4) rfl fun n4 => ?_
  have loop := QS.forI (P := clP g a b (.c none (jointC a b)) (.c (some n4) (.lst (st.map fun i => D.int (i : Nat)))) (.c none (.lst [])) .any .any .any .any) (g := gNm 6)
    (s := (dSeq (dAsg (dLc (iVal (dVar 4)) (gNm 8) dYes (dCall FLedT (aCons (dVar 0) (aCons (dVar 8) (aCons (dVar 6) (aCons (dVar 3) aNil))))) [8]) (gNm 7)) (dDrop (dMeth "list" mAppend (dVar 5) (aCons (dCall bTuple (aCons (dLc (iVal (dVar 7)) (gTp 2 (gsCons (gNm 8) (gsCons (gNm 9) gsNil))) dYes (dTup (aCons (dMeth "list" mIndex (dVar 4) (aCons (dVar 8) aNil)) (aCons (dVar 9) aNil))) [8, 9]) aNil)) aNil)))))
    (fun k => clP g a b (.c none (jointC a b)) (.c (some n4) (.lst (st.map fun i => D.int (i : Nat)))) (.c none (.lst ((List.range k).map fun k => rowD (st.map fun j => (dn a b (led (FG g) (pj a b) (j, k)).1, (led (FG g) (pj a b) (j, k)).2))))) .any .any .any .any)
    (It.range (r := m) (Ex.callF (.one (.var (i := 0) rfl)) (marks_ok h)) (by omega)) (fun f E S t => t) (fun _ => trivial) (fun r x hx => by
      obtain ⟨hr, rfl⟩ := rng_get hx
      refine ⟨[6], _, Tg.nm 6 _, _, row r n4 _ hr (by simp), fun f E S t => ?_⟩
      rw [List.range_succ, List.map_append]
      exact t.forget 6)
  refine QS.seq loop ?_
  rw [rng_len]
  have eg : gateD (closeG a b s m g) = .tup ((List.range m).map fun k => rowD (st.map fun j => (dn a b (led (FG g) (pj a b) (j, k)).1, (led (FG g) (pj a b) (j, k)).2))) := by
    unfold closeG mkG gateD
    rw [List.map_map, hst]
    congr 1
    refine List.map_congr_left fun k _ => ?_
    rw [List.map_map]
    rfl
  rw [eg]
  exact (QS.ret (Ex.tupleH (P := clP g a b (.c none (jointC a b)) (.c (some n4) (.lst (st.map fun i => D.int (i : Nat)))) (.c none (.lst ((List.range m).map fun k => rowD (st.map fun j => (dn a b (led (FG g) (pj a b) (j, k)).1, (led (FG g) (pj a b) (j, k)).2))))) .any .any .any .any) (.var (i := 5) rfl) ⟨_, rfl⟩)).rtA
end
end Pc
set_option Elab.async false
set_option linter.all false
set_option maxHeartbeats 1000000
set_option maxRecDepth 100000
/-! Pc2: k06's own defs -/
namespace Pc
open PySem PySem.Spec L2 Dn Pn Qn Qm
section
variable {s m a b i k n : Nat} {g : Gate}
def behindD : DS := (dRet (dBin vSub (dBin vSub (dVar 0) (dCall bInt (aCons (dBin vLt (dBin vIx (dVar 1) (dC (.int 0))) (dVar 0)) aNil))) (dCall bInt (aCons (dBin vLt (dBin vIx (dVar 1) (dC (.int 1))) (dVar 0)) aNil))))
noncomputable def FBehind : DF := trimF (dDef 2 2 behindD)
theorem behind_ok (hab : a ≠ b) : OpF [] FBehind [.int (i : Nat), pairD (a, b)] (.int (dn a b i : Nat)) := by
  have e : ((dn a b i : Nat) : Int) = (i : Int) - (if decide (((a : Nat) : Int) < (i : Nat)) = true then 1 else 0) - (if decide (((b : Nat) : Int) < (i : Nat)) = true then 1 else 0) := by
    unfold dn
    simp only [decide_eq_true_eq]
    (repeat' split) <;> omega
  rw [e]
  refine fn_data (P' := [.d (.int (i : Nat)), .d (pairD (a, b))]) rfl (.ret (.bin (.bin (.var rfl) (.intB (.bin (.bin (.var (i := 1) rfl) (.con _) t_pr1) (.var rfl) t_cmp)) t_sub) (.intB (.bin (.bin (.var (i := 1) rfl) (.con _) t_pr2) (.var rfl) t_cmp)) t_sub)) (by simp)
def twiceD (m_closed m__law_behind : DF) : DS := (dSeq (dAsg (dCall m_closed (aCons (dVar 0) (aCons (dBin vIx (dVar 1) (dC (.int 0))) (aCons (dBin vIx (dVar 1) (dC (.int 1))) aNil)))) (gNm 3)) (dRet (dCall m_closed (aCons (dVar 3) (aCons (dCall m__law_behind (aCons (dBin vIx (dVar 2) (dC (.int 0))) (aCons (dVar 1) aNil))) (aCons (dCall m__law_behind (aCons (dBin vIx (dVar 2) (dC (.int 1))) (aCons (dVar 1) aNil))) aNil))))))
noncomputable def FTwice (r0 r1 r2 : DS) : DF := trimF (dDef 3 4 (twiceD (FClosed r0 r1 r2) FBehind))
theorem shape_close (h : Shape s m g) (hg : IsGate s m g) (hab : a ≠ b) (ha : a < s) (hb : b < s) (hs : 2 < s) : Shape (s - 2) m (closeG a b s m g) :=
  (isGate_close hg hab ha hb).shape (by omega) h.m0 (by have := h.s1; omega) h.m1
theorem twice_ok (r0 r1 r2 : DS) {c d : Nat} (h : Shape s m g) (hg : IsGate s m g) (hs : 4 < s) (hab : a ≠ b) (hcd : c ≠ d) (ha : a < s) (hb : b < s) (hc : c < s) (hd : d < s) (ac : a ≠ c) (ad : a ≠ d) (bc : b ≠ c) (bd : b ≠ d) :
    OpF [] (FTwice r0 r1 r2) [gateD g, pairD (a, b), pairD (c, d)] (gateD (closeG (dn a b c) (dn a b d) (s - 2) m (closeG a b s m g))) := by
  have h1 := shape_close h hg hab ha hb (by omega)
  have g1 := isGate_close hg hab ha hb
  refine fn_data (P' := [.d (gateD g), .d (pairD (a, b)), .d (pairD (c, d)), .d (gateD (closeG a b s m g))]) rfl ?_ (gate_lt _ _)
  refine QS.seq (.asg (.callF (.cons (.var rfl) (.cons (.bin (.var (i := 1) rfl) (.con _) t_pr1) (.one (.bin (.var (i := 1) rfl) (.con _) t_pr2)))) (closed_ok r0 r1 r2 h hg (by omega) hab ha hb))) ?_
  exact .ret (.callF (.cons (.var (i := 3) rfl) (.cons (.callF (.two (.bin (.var (i := 2) rfl) (.con _) t_pr1) (.var (i := 1) rfl)) (behind_ok hab)) (.one (.callF (.two (.bin (.var (i := 2) rfl) (.con _) t_pr2) (.var (i := 1) rfl)) (behind_ok hab)))))
    (closed_ok r0 r1 r2 h1 g1 (by omega) (fun e => hcd (dn_inj hab (Ne.symm ac) (Ne.symm bc) (Ne.symm ad) (Ne.symm bd) e)) (dn_lt hab ha hb hc (Ne.symm ac) (Ne.symm bc)) (dn_lt hab ha hb hd (Ne.symm ad) (Ne.symm bd))))
/-! ### pairs drawn -/
def pairsD (m__law_take : DF) : DS := (dSeq (dPar [2, 3] (aCons (dListRg (dVar 1)) (aCons (dLst aNil) aNil))) (dSeq (dFor (iRange1 (aCons (dC (.int 4)) aNil)) (gNm 4) (dDrop (dMeth "list" mAppend (dVar 3) (aCons (dMeth "list" mPopAt (dVar 2) (aCons (dCall m__law_take (aCons (dVar 0) (aCons (dCall bLen (aCons (dVar 2) aNil)) aNil))) aNil)) aNil)))) (dRet (dTup (aCons (dTup (aCons (dBin vIx (dVar 3) (dC (.int 0))) (aCons (dBin vIx (dVar 3) (dC (.int 1))) aNil))) (aCons (dTup (aCons (dBin vIx (dVar 3) (dC (.int 2))) (aCons (dBin vIx (dVar 3) (dC (.int 3))) aNil))) aNil))))))
noncomputable def FPairs : DF := trimF (dDef 2 5 (pairsD FTake))
def iD (i : Nat) : D := .int (i : Nat)
theorem map_eraseIdx' {α β : Type} (f : α → β) : ∀ (l : List α) (k : Nat), (l.map f).eraseIdx k = (l.eraseIdx k).map f
  | [], _ => by simp
  | x :: l, 0 => by simp
  | x :: l, k + 1 => by simp [map_eraseIdx' f l k]
/-- one item drawn off a list, put behind another -/
theorem move_ok {α : Type} {h : α → D} {P : Qn.PE} {jl jf jb : Nat} {of' ob : Option Nat} {ol : Option Nat} {left found : List α} {c : Cell} (hb : P[jb]? = some (.c ob c)) (hl : P[jl]? = some (.c ol (.lst (left.map h)))) (hf : P[jf]? = some (.c of' (.lst (found.map h)))) (bl : jb ≠ jl) (bf : jb ≠ jf) (lf : jl ≠ jf) (hbx : IsBox c) (h0 : 0 < left.length) (h1 : left.length ≤ 1000000) (h2 : found.length ≤ 1000000) :
    EE P (dMeth "list" mAppend (dVar jf) (aCons (dMeth "list" mPopAt (dVar jl) (aCons (dCall FTake (aCons (dVar jb) (aCons (dCall bLen (aCons (dVar jl) aNil)) aNil))) aNil)) aNil)) fun v P' => ∃ (r : Nat) (hr : r < left.length) (c' : Cell), IsBox c' ∧ P' = ((P.set jb (.c ob c')).set jl (.c ol (.lst ((left.eraseIdx r).map h)))).set jf (.c of' (.lst ((found ++ [left[r]]).map h))) := by
  have lb : jb < P.length := (List.getElem?_eq_some_iff.mp hb).1
  have ll : jl < P.length := (List.getElem?_eq_some_iff.mp hl).1
  refine .append hf (.popAt hl (.draw hb (m := left.length) (by
    have := Ex.lenH (P := P) (m := dVar jl) (.var hl) ⟨_, hl⟩
    rw [List.length_map] at this
    exact this) hb hbx h0 h1 fun d c' hd hc' => ?_))
  refine ⟨d, left.map h, h left[d], rfl, by omega, by rw [List.getElem?_set_ne bl]; exact hl, by rw [List.getElem?_map, List.getElem?_eq_getElem hd]; rfl, found.map h, ?_, by rw [List.length_map]; exact lt_sl (by omega), d, hd, c', hc', ?_⟩
  · rw [List.getElem?_set_ne lf, List.getElem?_set_ne bf]
    exact hf
  · rw [map_eraseIdx', List.map_append]
    rfl
theorem perm_move {α : Type} {left found : List α} {l : List α} (h : (found ++ left).Perm l) {r : Nat} (hr : r < left.length) : ((found ++ [left[r]]) ++ left.eraseIdx r).Perm l := by
  refine List.Perm.trans ?_ h
  rw [List.append_assoc]
  exact List.Perm.append_left found (erase_perm left r hr)
theorem pairs_ok2 {S : Store} {c : Cell} (hn : S[n]? = some c) (hb : IsBox c) (h4 : 4 ≤ s) (hs : s ≤ 1000) : ∃ v c', (IsBox c' ∧ ∃ a b d e, v = .tup [pairD (a, b), pairD (d, e)] ∧ a < s ∧ b < s ∧ d < s ∧ e < s ∧ [a, b, d, e].Nodup) ∧ FPairs [.ref n, .int (s : Nat)] S = .ok v (S.set n c') := by
  refine (fn_boxD (m := pairsD FTake) (k := 5) (vs := [.int (s : Nat)]) (G := fun v c' => IsBox c' ∧ ∃ a b d e, v = .tup [pairD (a, b), pairD (d, e)] ∧ a < s ∧ b < s ∧ d < s ∧ e < s ∧ [a, b, d, e].Nodup) rfl hn ?_)
  let pl : Cell → List Nat → List Nat → PV → Qn.PE := fun c left found x => [.c (some n) c, .d (.int (s : Nat)), .c none (.lst (left.map iD)), .c none (.lst (found.map iD)), x]
  have e0 := ExN.listRg (P := [.c (some n) c, .d (.int (s : Nat)), .any, .any, .any]) (ma := dVar 1) (r := s) (.var rfl) (by omega)
  rw [rng_eq] at e0
  have start : QS [.c (some n) c, .d (.int (s : Nat)), .any, .any, .any] (dPar [2, 3] (aCons (dListRg (dVar 1)) (aCons (dLst aNil) aNil))) (.nx (pl c (List.range s) [] .any)) := QS.par (as := [.h none _, .h none _]) (.consN e0 (.consN .nil .nil))
  refine QE.seqS start (QE.seqN (QE.forI (fun r P => ∃ c left found x, P = pl c left found x ∧ IsBox c ∧ found.length = r ∧ left.length = s - r ∧ (found ++ left).Perm (List.range s)) (It.range (r := 4) (Ex.con _) (by decide)) ⟨c, List.range s, [], _, rfl, hb, rfl, by simp, by simp⟩ (fun _ _ _ => trivial) ?_ ?_))
  · rintro P ⟨c, left, found, x, rfl, hb', hf, hl, hp⟩
    refine ⟨_, rfl, ?_⟩
    have hf4 : found.length = 4 := hf
    match found, hf4 with
    | [a, b, d, e], _ =>
      have lt : ∀ x ∈ [a, b, d, e], x < s := fun x hx => List.mem_range.mp (hp.mem_iff.mp (List.mem_append_left _ hx))
      have nd : [a, b, d, e].Nodup := (List.nodup_append.mp (hp.nodup_iff.mpr List.nodup_range)).1
      refine (QS.ret (v := .tup [pairD (a, b), pairD (d, e)]) (P' := pl c left [a, b, d, e] x) (.tup2 (.tup2 (.binH (.var (i := 3) rfl) (.con _) ⟨_, rfl⟩ (t_ixL (i := 0) rfl)) (.binH (.var (i := 3) rfl) (.con _) ⟨_, rfl⟩ (t_ixL (i := 1) rfl))) (.tup2 (.binH (.var (i := 3) rfl) (.con _) ⟨_, rfl⟩ (t_ixL (i := 2) rfl)) (.binH (.var (i := 3) rfl) (.con _) ⟨_, rfl⟩ (t_ixL (i := 3) rfl))))).qe ?_
      exact ⟨_, _, c, rfl, rfl, by simp [pairD], hb'.lt 0, hb', a, b, d, e, rfl, lt a (by simp), lt b (by simp), lt d (by simp), lt e (by simp), nd⟩
  · rintro r x P hx ⟨c, left, found, x4, rfl, hb', hf, hl, hp⟩
    obtain ⟨hr, rfl⟩ := rng_get hx
    refine ⟨[4], _, Tg.nm 4 _, ?_⟩
    refine QE.drop ((move_ok (P := (pl c left found x4).set 4 (.d (.int (r : Nat)))) (h := iD) (jl := 2) (jf := 3) (jb := 0) rfl rfl rfl (by decide) (by decide) (by decide) hb' (by omega) (by omega) (by omega)).mono ?_)
    rintro v P' ⟨q, hq, c', hc', rfl⟩
    refine ⟨c', _, _, _, rfl, hc', by simp [hf], ?_, perm_move hp hq⟩
    rw [List.length_eraseIdx_of_lt hq]
    omega
end
end Pc
set_option Elab.async false
set_option linter.all false
set_option maxHeartbeats 1000000
set_option maxRecDepth 100000
/-! Pc3: k06's rows and law -/
namespace Pc
open PySem PySem.Spec L2 Dn Pn Qn Qm
section
variable {s m a b i k n : Nat} {g : Gate}
/-- passes made one behind the other -/
inductive Chain (g : Gate) (s m : Nat) (k0 : Nat) : List (Nat × Nat) → Nat → Prop
  | nil : k0 < m → Chain g s m k0 [] k0
  | snoc {l : List (Nat × Nat)} {k i : Nat} : Chain g s m k0 l k → i < s → k < m → Chain g s m k0 (l ++ [(i, (FF g k i).1)]) (FF g k i).2
def rowRD (m__law_take m_marks_of m_turned_gate m_sides_of m_passed : DF) : DS := (dSeq (dPar [2, 3, 4] (aCons (dCall m_turned_gate (aCons (dVar 1) aNil)) (aCons (dCall m__law_take (aCons (dVar 0) (aCons (dCall m_marks_of (aCons (dVar 1) aNil)) aNil))) (aCons (dLst aNil) aNil)))) (dSeq (dAsg (dVar 3) (gNm 5)) (dSeq (dFor (iRange1 (aCons (dC (.int 20)) aNil)) (gNm 6) (dSeq (dAsg (dCall m__law_take (aCons (dVar 0) (aCons (dCall m_sides_of (aCons (dVar 1) aNil)) aNil))) (gNm 7)) (dSeq (dAsg (dCall m_passed (aCons (dVar 1) (aCons (dVar 7) (aCons (dVar 3) aNil)))) (gTp 2 (gsCons (gNm 8) (gsCons (gNm 3) gsNil)))) (dDrop (dMeth "list" mAppend (dVar 4) (aCons (dTup (aCons (dVar 7) (aCons (dVar 8) aNil))) aNil)))))) (dSeq (dFor (iVal (dUn vRev (dVar 4))) (gTp 2 (gsCons (gNm 7) (gsCons (gNm 8) gsNil))) (dSeq (dAsg (dCall m_passed (aCons (dVar 2) (aCons (dVar 8) (aCons (dVar 3) aNil)))) (gTp 2 (gsCons (gNm 9) (gsCons (gNm 3) gsNil)))) (dIf (dTest (dBin vNe (dVar 9) (dVar 7))) (dRet (dC (.bl false))) dNext))) (dRet (dBin vEq (dVar 3) (dVar 5)))))))
noncomputable def FRowR (r r' : DS) : DF := trimF (dDef 2 10 (rowRD FTake FMarks FTurned FSides (FPassed r r')))
theorem t_rev {xs : List D} : ∀ S n, S[n]? = some (.lst xs) → vRev (.ref n) S = .ok (.ref S.length) (S ++ [.lst xs.reverse]) := fun S n e => by
  unfold vRev lstAt
  dsimp only
  rw [e]
  rfl
theorem turn_pass (hg : IsGate s m g) {i k : Nat} (hi : i < s) (hk : k < m) : FF (turnG s m g) (FF g k i).2 (FF g k i).1 = (i, k) := inv_turn hg (i, k) hi hk
theorem rowR_ok (r r' : DS) {S : Store} {c : Cell} (hn : S[n]? = some c) (hb : IsBox c) (h : Shape s m g) (hg : IsGate s m g) (hs : s ≤ 9) (hm : m ≤ 32) : ∃ v c', (IsBox c' ∧ v = .bl true) ∧ FRowR r r' [.ref n, gateD g] S = .ok v (S.set n c') := by
  have ht := isGate_turn hg
  have sh := ht.shape h.s0 h.m0 h.s1 h.m1
  have s0 := h.s0
  have m0 := h.m0
  refine (fn_boxD (m := rowRD FTake FMarks FTurned FSides (FPassed r r')) (k := 10) (vs := [gateD g]) (G := fun v c' => IsBox c' ∧ v = .bl true) rfl hn ?_)
  let pl : Cell → Nat → List (Nat × Nat) → Nat → PV → PV → PV → PV → Qn.PE := fun c k rows k0 x6 x7 x8 x9 => [.c (some n) c, .d (gateD g), .d (gateD (turnG s m g)), .d (.int (k : Nat)), .c none (.lst (rows.map pairD)), .d (.int (k0 : Nat)), x6, x7, x8, x9]
  have e1 : Ex [.c (some n) c, .d (gateD g), .any, .any, .any, .any, .any, .any, .any, .any] (dCall FTurned (aCons (dVar 1) aNil)) (gateD (turnG s m g)) [.c (some n) c, .d (gateD g), .any, .any, .any, .any, .any, .any, .any, .any] := .callF (.one (.var rfl)) (turned_ok h hg hs hm)
  refine QE.seqN (QE.par (.cons (e1.ee (R := fun v P => v = gateD (turnG s m g) ∧ P = [.c (some n) c, .d (gateD g), .any, .any, .any, .any, .any, .any, .any, .any]) ⟨rfl, rfl⟩) ?_))
  rintro _ _ ⟨rfl, rfl⟩
  refine EM.cons (R1 := fun v P => ∃ (k : Nat) (c' : Cell), k < m ∧ IsBox c' ∧ v = .int (k : Nat) ∧ P = [.c (some n) c', .d (gateD g), .any, .any, .any, .any, .any, .any, .any, .any]) (EE.draw (m := m) rfl (.callF (.one (.var (i := 1) rfl)) (marks_ok h)) rfl hb m0 (by omega) fun d c' hd hc' => ⟨d, c', hd, hc', rfl, rfl⟩) ?_
  rintro _ _ ⟨k0, c1, hk0, hc1, rfl, rfl⟩
  refine EM.consN (Rc := fun c P => c = .lst [] ∧ P = [.c (some n) c1, .d (gateD g), .any, .any, .any, .any, .any, .any, .any, .any]) (ExN.nil.en ⟨rfl, rfl⟩) ?_
  rintro _ _ ⟨rfl, rfl⟩
  refine EM.nil ⟨rfl, _, rfl, ?_⟩
  show QE [.c (some n) c1, .d (gateD g), .d (gateD (turnG s m g)), .d (.int (k0 : Nat)), .c none (.lst []), .any, .any, .any, .any, .any] _ _
  refine QE.seqS (.asg (.var (i := 3) rfl)) ?_
  refine QE.seqN (QE.forI (fun q P => ∃ c k rows x6 x7 x8 x9, P = pl c k rows k0 x6 x7 x8 x9 ∧ IsBox c ∧ k < m ∧ rows.length = q ∧ Chain g s m k0 rows k) (It.range (r := 20) (Ex.con _) (by decide)) ⟨c1, k0, [], _, _, _, _, rfl, hc1, hk0, rfl, .nil hk0⟩ (fun _ _ _ => trivial) ?_ ?_)
  · rintro P ⟨c2, k, rows, x6, x7, x8, x9, rfl, hc2, hk, hl, hch⟩
    refine ⟨_, rfl, ?_⟩
    have hl2 : rows.length = 20 := hl
    refine QE.seqN (QE.forI (xs := (rows.map pairD).reverse) (fun q P => ∃ k x7 x8 x9, P = pl c2 k rows k0 x6 x7 x8 x9 ∧ k < m ∧ Chain g s m k0 (rows.take (20 - q)) k) (It.new (.unH (.var (i := 4) rfl) ⟨_, rfl⟩ t_rev)) ⟨k, _, _, _, rfl, hk, by rw [List.take_of_length_le (by omega)]; exact hch⟩ (fun _ _ _ => trivial) ?_ ?_)
    · rintro P ⟨k, x7, x8, x9, rfl, hk, hch⟩
      refine ⟨_, rfl, ?_⟩
      rw [List.length_reverse, List.length_map, hl2, Nat.sub_self] at hch
      have e : k = k0 := by
        have : ∀ {l : List (Nat × Nat)} {k : Nat}, Chain g s m k0 l k → l = [] → k = k0 := fun {l k} h e => by
          cases h with
          | nil _ => rfl
          | snoc _ _ _ => simp at e
        exact this hch (by simp)
      subst e
      refine (QS.ret (v := .bl true) (P' := pl c2 k rows k x6 x7 x8 x9) ?_).qe ⟨_, _, c2, rfl, rfl, by simp, hc2.lt 0, hc2, rfl⟩
      have := Ex.bin (P := pl c2 k rows k x6 x7 x8 x9) (ma := dVar 3) (mb := dVar 5) (.var rfl) (.var rfl) t_eqI
      rw [decide_eq_true rfl] at this
      exact this
    · rintro q x P hx ⟨k, x7, x8, x9, rfl, hk, hch⟩
      have hq : q < 20 := by
        have := (List.getElem?_eq_some_iff.mp hx).1
        simp at this
        omega
      rw [List.getElem?_reverse (by simp; omega), List.length_map, List.getElem?_map, List.getElem?_eq_getElem (by omega)] at hx
      obtain rfl : pairD rows[rows.length - 1 - q] = x := Option.some.inj hx
      have et : rows.take (20 - q) = rows.take (20 - (q + 1)) ++ [rows[rows.length - 1 - q]'(by omega)] := by
        rw [show 20 - q = (20 - (q + 1)) + 1 by omega, List.take_add_one, List.getElem?_eq_getElem (by omega)]
        simp only [show rows.length - 1 - q = 20 - (q + 1) by omega]
        rfl
      rw [et] at hch
      obtain ⟨i, k', hi, hk', ep, ek, hch'⟩ : ∃ i k', i < s ∧ k' < m ∧ rows[rows.length - 1 - q]'(by omega) = (i, (FF g k' i).1) ∧ k = (FF g k' i).2 ∧ Chain g s m k0 (rows.take (20 - (q + 1))) k' := by
        have : ∀ {l : List (Nat × Nat)} {k : Nat} {l' : List (Nat × Nat)} {p : Nat × Nat}, Chain g s m k0 l k → l = l' ++ [p] → ∃ i k', i < s ∧ k' < m ∧ p = (i, (FF g k' i).1) ∧ k = (FF g k' i).2 ∧ Chain g s m k0 l' k' := fun {l k l' p} h e => by
          cases h with
          | nil _ => simp at e
          | @snoc l k i h1 h2 h3 =>
            obtain ⟨e1, e2⟩ := List.append_inj' e rfl
            subst e1
            cases e2
            exact ⟨i, k, h2, h3, rfl, rfl, h1⟩
        exact this hch rfl
      rw [ep]
      obtain ⟨o1, o2⟩ := hg.pm.maps (i, k') hi hk'
      have o1' : (FF g k' i).1 < s := o1
      refine ⟨_, _, Tg.tp2 7 8 _ _, ?_⟩
      subst ek
      refine QE.seqS (P1 := pl c2 k' rows k0 x6 (.d (.int (i : Nat))) (.d (.int ((FF g k' i).1 : Nat))) (.d (.int (i : Nat)))) (QS.asgT (P1 := pl c2 (FF g k' i).2 rows k0 x6 (.d (.int (i : Nat))) (.d (.int ((FF g k' i).1 : Nat))) x9) (v := pairD (i, k')) ?_ (Tg.tp2 9 3 (.int (i : Nat)) (.int (k' : Nat)))) ?_
      · have := passed_ok r r' sh (i := (FF g k' i).1) (k := (FF g k' i).2) o1' hk
        rw [turn_pass hg hi hk'] at this
        exact .callF (.cons (.var (i := 2) rfl) (.two (.var (i := 8) rfl) (.var (i := 3) rfl))) this
      · refine QS.qe (ou := .nx (pl c2 k' rows k0 x6 (.d (.int (i : Nat))) (.d (.int ((FF g k' i).1 : Nat))) (.d (.int (i : Nat))))) (QS.ifF (.test ?_) .next) ⟨k', _, _, _, rfl, hk', hch'⟩
        have := Ex.bin (P := pl c2 k' rows k0 x6 (.d (.int (i : Nat))) (.d (.int ((FF g k' i).1 : Nat))) (.d (.int (i : Nat)))) (ma := dVar 9) (mb := dVar 7) (.var rfl) (.var rfl) t_neI
        rw [decide_eq_true rfl] at this
        exact this
  · rintro q x P hx ⟨c2, k, rows, x6, x7, x8, x9, rfl, hc2, hk, hl, hch⟩
    obtain ⟨hq, rfl⟩ := rng_get hx
    refine ⟨[6], _, Tg.nm 6 _, ?_⟩
    refine QE.seqN (QE.asg (EE.draw (m := s) (c := c2) (c0 := c2) rfl (.callF (.one (.var (i := 1) rfl)) (sides_ok h)) rfl hc2 s0 (by omega) fun i c3 hi hc3 => ⟨_, rfl, ?_⟩))
    have hm2 := (hg.pm.maps (i, k) hi hk).2
    refine QE.seqS (P1 := pl c3 (FF g k i).2 rows k0 (.d (.int (q : Nat))) (.d (.int (i : Nat))) (.d (.int ((FF g k i).1 : Nat))) x9) (.asgT (v := pairD (FF g k i)) (.callF (.cons (.var (i := 1) rfl) (.two (.var (i := 7) rfl) (.var (i := 3) rfl))) (passed_ok r r' h hi hk)) (.tp2 8 3 _ _)) ?_
    refine (QS.append (j := 4) rfl (.tup2 (.var (i := 7) rfl) (.var (i := 8) rfl)) rfl (lt_sl (by rw [List.length_map]; omega))).qe ?_
    refine ⟨c3, (FF g k i).2, rows ++ [(i, (FF g k i).1)], .d (.int (q : Nat)), .d (.int (i : Nat)), .d (.int ((FF g k i).1 : Nat)), x9, ?_, hc3, hm2, by simp [hl], .snoc hch hi hk⟩
    show _ = [PV.c (some n) c3, .d (gateD g), .d (gateD (turnG s m g)), .d (.int ((FF g k i).2 : Nat)), .c none (.lst ((rows ++ [(i, (FF g k i).1)]).map pairD)), .d (.int (k0 : Nat)), .d (.int (q : Nat)), .d (.int (i : Nat)), .d (.int ((FF g k i).1 : Nat)), x9]
    rw [List.map_append]
    rfl
end
end Pc
set_option Elab.async false
set_option linter.all false
set_option maxHeartbeats 1000000
set_option maxRecDepth 100000
/-! Pc4: k06's law -/
namespace Pc
open PySem PySem.Spec L2 Dn Pn Qn Qm
noncomputable def tail06 : DS := (dSeq (dAsg (dCall FPairs (aCons (dVar 2) (aCons (dVar 3) aNil))) (gTp 2 (gsCons (gNm 7) (gsCons (gNm 8) gsNil)))) (dSeq (dAsg (dCall (FTwice dBad dBad dBad) (aCons (dVar 5) (aCons (dVar 7) (aCons (dVar 8) aNil)))) (gNm 9)) (dSeq (dIf (dTOr (dTest (dBin vNe (dCall (FTwice dBad dBad dBad) (aCons (dVar 5) (aCons (dVar 8) (aCons (dVar 7) aNil)))) (dVar 9))) (dTest (dBin vIsNot (dCall FLook (aCons (dVar 9) aNil)) (dC (.bl true))))) (dRet (dC (.bl false))) dNext) (dSeq (dAsg (dCall (FClosed dBad dBad dBad) (aCons (dVar 5) (aCons (dBin vIx (dVar 7) (dC (.int 0))) (aCons (dBin vIx (dVar 7) (dC (.int 1))) aNil)))) (gNm 10)) (dSeq (dIf (dTest (dBin vNe (dCall (FClosed dBad dBad dBad) (aCons (dCall FTurned (aCons (dVar 5) aNil)) (aCons (dBin vIx (dVar 7) (dC (.int 0))) (aCons (dBin vIx (dVar 7) (dC (.int 1))) aNil)))) (dCall FTurned (aCons (dVar 10) aNil)))) (dRet (dC (.bl false))) dNext) (dSeq (dIf (dTest (dBin vNe (dCall (FClosed dBad dBad dBad) (aCons (dCall FBeside (aCons (dVar 5) (aCons (dVar 4) aNil))) (aCons (dBin vIx (dVar 7) (dC (.int 0))) (aCons (dBin vIx (dVar 7) (dC (.int 1))) aNil)))) (dCall FBeside (aCons (dVar 10) (aCons (dVar 4) aNil))))) (dRet (dC (.bl false))) dNext) (dSeq (dAsg (dCall FSides (aCons (dVar 4) aNil)) (gNm 11)) (dSeq (dIf (dTest (dBin vNe (dCall (FClosed dBad dBad dBad) (aCons (dCall FBeside (aCons (dVar 4) (aCons (dVar 5) aNil))) (aCons (dBin vAdd (dVar 11) (dBin vIx (dVar 7) (dC (.int 0)))) (aCons (dBin vAdd (dVar 11) (dBin vIx (dVar 7) (dC (.int 1)))) aNil)))) (dCall FBeside (aCons (dVar 4) (aCons (dVar 10) aNil))))) (dRet (dC (.bl false))) dNext) (dIf (dTOr (dTNot (dTest (dCall (FRowR dBad dBad) (aCons (dVar 2) (aCons (dVar 10) aNil))))) (dTNot (dTest (dCall (FRowR dBad dBad) (aCons (dVar 2) (aCons (dVar 5) aNil)))))) (dRet (dC (.bl false))) dNext)))))))))
def lP (ns : List Int) (k : Nat) (c : Cell) (x3 x4 x5 x6 x7 x8 x9 x10 x11 : PV) : Qn.PE := [.d (.scr ns), .d (.int (k : Nat)), .c none c, x3, x4, x5, x6, x7, x8, x9, x10, x11]
section
variable {s m sm mm k : Nat} {g more : Gate} {ns : List Int} {c : Cell} {x3 x4 x5 x6 x7 x8 x9 x10 x11 : PV}
def LEnd (ns : List Int) (o : Out) : Prop := ∃ k c x3 x4 x5 x6 x7 x8 x9 x10 x11, o = .nx (lP ns k c x3 x4 x5 x6 x7 x8 x9 x10 x11)
theorem neG {P : Qn.PE} {ma mb : DE} {g g' : Gate} (ha : Ex P ma (gateD g) P) (hb : Ex P mb (gateD g') P) (e : g = g') : ExB P (dTest (dBin vNe ma mb)) false P := by
  subst e
  exact .test (.bin ha hb (t_neS (Da.gate g) (by decide)))
theorem tail_ok (h : Shape s m g) (hg : IsGate s m g) (hs : 5 ≤ s) (hs' : s ≤ 6) (hm : m ≤ 16) (h' : Shape sm mm more) (hg' : IsGate sm mm more) (hsm : sm ≤ 3) (hmm : mm ≤ 3) (hb : IsBox c) : QE (lP ns k c (.d (.int (s : Nat))) (.d (gateD more)) (.d (gateD g)) x6 x7 x8 x9 x10 x11) tail06 (LEnd ns) := by
  refine QE.seqN (QE.asgT ((EE.boxed (R := fun v P' => ∃ a b d e c', v = .tup [pairD (a, b), pairD (d, e)] ∧ P' = lP ns k c' (.d (.int (s : Nat))) (.d (gateD more)) (.d (gateD g)) x6 x7 x8 x9 x10 x11 ∧ IsBox c' ∧ a < s ∧ b < s ∧ d < s ∧ e < s ∧ [a, b, d, e].Nodup) rfl (ExA.ea (.one (.var (i := 3) rfl)) ⟨c, rfl, fun S n hn => by
    obtain ⟨v, c', ⟨hc', a, b, d, e, rfl, q1, q2, q3, q4, nd⟩, e1⟩ := pairs_ok2 (s := s) hn hb (by omega) (by omega)
    exact ⟨_, c', ⟨a, b, d, e, c', rfl, rfl, hc', q1, q2, q3, q4, nd⟩, e1⟩⟩)).mono ?_))
  rintro _ _ ⟨a, b, d, e, c', rfl, rfl, hc', ha, hb', hd, he, nd⟩
  refine ⟨_, _, Tg.tp2 7 8 _ _, _, rfl, ?_⟩
  simp only [List.nodup_cons, List.mem_cons, List.not_mem_nil, or_false, not_or] at nd
  obtain ⟨⟨ab, ad, ae⟩, ⟨bd, be⟩, de, _⟩ := nd
  have once := shape_close h hg ab ha hb' (by omega)
  have gonce := isGate_close hg ab ha hb'
  have hde' : dn a b d ≠ dn a b e := fun z => de (dn_inj ab (Ne.symm ad) (Ne.symm bd) (Ne.symm ae) (Ne.symm be) z)
  have l1 := dn_lt ab ha hb' hd (Ne.symm ad) (Ne.symm bd)
  have l2 := dn_lt ab ha hb' he (Ne.symm ae) (Ne.symm be)
  have both := shape_close once gonce hde' l1 l2 (by omega)
  have gboth := isGate_close gonce hde' l1 l2
  have hgt := isGate_turn hg
  have sht := hgt.shape h.s0 h.m0 h.s1 h.m1
  have m16 : m * mm ≤ 16 * 3 := Nat.mul_le_mul hm hmm
  have m16' : mm * m ≤ 3 * 16 := Nat.mul_le_mul hmm hm
  have gl := isGate_beside hg hg' h'.m0
  have shl := shape_beside h h' hg hg' (by omega) (by omega)
  have gr := isGate_beside hg' hg h.m0
  have shr := shape_beside h' h hg' hg (by omega) (by omega)
  -- what stands behind each step
  let Q : PV → PV → PV → Qn.PE := fun x9 x10 x11 => lP ns k c' (.d (.int (s : Nat))) (.d (gateD more)) (.d (gateD g)) x6 (.d (pairD (a, b))) (.d (pairD (d, e))) x9 x10 x11
  have va : ∀ {y9 y10 y11}, Ex (Q y9 y10 y11) (dBin vIx (dVar 7) (dC (.int 0))) (.int (a : Nat)) (Q y9 y10 y11) := .bin (.var (i := 7) rfl) (.con _) t_pr1
  have vb : ∀ {y9 y10 y11}, Ex (Q y9 y10 y11) (dBin vIx (dVar 7) (dC (.int 1))) (.int (b : Nat)) (Q y9 y10 y11) := .bin (.var (i := 7) rfl) (.con _) t_pr2
  show QE (Q x9 x10 x11) _ _
  refine QE.seqS (P1 := Q (.d (gateD (closeG (dn a b d) (dn a b e) (s - 2) m (closeG a b s m g)))) x10 x11) (.asg (.callF (.cons (.var (i := 5) rfl) (.two (.var (i := 7) rfl) (.var (i := 8) rfl))) (twice_ok dBad dBad dBad h hg (by omega) ab de ha hb' hd he ad ae bd be))) ?_
  refine QE.seqS (P1 := Q (.d (gateD (closeG (dn a b d) (dn a b e) (s - 2) m (closeG a b s m g)))) x10 x11) (.ifF (.orF (neG (.callF (.cons (.var (i := 5) rfl) (.two (.var (i := 8) rfl) (.var (i := 7) rfl))) (twice_ok dBad dBad dBad h hg (by omega) de ab hd he ha hb' (Ne.symm ad) (Ne.symm bd) (Ne.symm ae) (Ne.symm be))) (.var (i := 9) rfl) (close_comm hg ab de ha hb' hd he ad ae bd be).symm) (.test (.bin (.callF (.one (.var (i := 9) rfl)) (look_ok both gboth)) (.con _) t_isnotT))) .next) ?_
  refine QE.seqS (P1 := Q (.d (gateD (closeG (dn a b d) (dn a b e) (s - 2) m (closeG a b s m g)))) (.d (gateD (closeG a b s m g))) x11) (.asg (.callF (.cons (.var (i := 5) rfl) (.two va vb)) (closed_ok dBad dBad dBad h hg (by omega) ab ha hb'))) ?_
  refine QE.seqS (P1 := Q (.d (gateD (closeG (dn a b d) (dn a b e) (s - 2) m (closeG a b s m g)))) (.d (gateD (closeG a b s m g))) x11) (.ifF (neG (.callF (.cons (.callF (.one (.var (i := 5) rfl)) (turned_ok h hg (by omega) (by omega))) (.two va vb)) (closed_ok dBad dBad dBad sht hgt (by omega) ab ha hb')) (.callF (.one (.var (i := 10) rfl)) (turned_ok once gonce (by omega) (by omega))) (close_turn hg ab ha hb')) .next) ?_
  refine QE.seqS (P1 := Q (.d (gateD (closeG (dn a b d) (dn a b e) (s - 2) m (closeG a b s m g)))) (.d (gateD (closeG a b s m g))) x11) (.ifF (neG (.callF (.cons (.callF (.two (.var (i := 5) rfl) (.var (i := 4) rfl)) (beside_ok h h')) (.two va vb)) (closed_ok dBad dBad dBad shl gl (by omega) ab (by omega) (by omega))) (.callF (.two (.var (i := 10) rfl) (.var (i := 4) rfl)) (beside_ok once h')) (close_left hg hg' h'.m0 ab ha hb')) .next) ?_
  refine QE.seqS (P1 := Q (.d (gateD (closeG (dn a b d) (dn a b e) (s - 2) m (closeG a b s m g)))) (.d (gateD (closeG a b s m g))) (.d (.int (sm : Nat)))) (.asg (.callF (.one (.var (i := 4) rfl)) (sides_ok h'))) ?_
  refine QE.seqS (P1 := Q (.d (gateD (closeG (dn a b d) (dn a b e) (s - 2) m (closeG a b s m g)))) (.d (gateD (closeG a b s m g))) (.d (.int (sm : Nat)))) (.ifF (neG (.callF (.cons (.callF (.two (.var (i := 4) rfl) (.var (i := 5) rfl)) (beside_ok h' h)) (.two (.bin (.var (i := 11) rfl) va t_add) (.bin (.var (i := 11) rfl) vb t_add))) (closed_ok dBad dBad dBad shr gr (a := sm + a) (b := sm + b) (by omega) (by omega) (by omega) (by omega))) (.callF (.two (.var (i := 4) rfl) (.var (i := 10) rfl)) (beside_ok h' once)) (close_right hg' hg h.m0 ab ha hb')) .next) ?_
  -- rows of passes
  have row : ∀ {s' m' : Nat} {g' : Gate} {i : Nat} {c1 : Cell} {P : Qn.PE} {Rb : Bool → Qn.PE → Prop}, IsBox c1 → Shape s' m' g' → IsGate s' m' g' → s' ≤ 9 → m' ≤ 32 → P[2]? = some (.c none c1) → P[i]? = some (.d (gateD g')) → (∀ c2, IsBox c2 → Rb false (P.set 2 (.c none c2))) → EB P (dTNot (dTest (dCall (FRowR dBad dBad) (aCons (dVar 2) (aCons (dVar i) aNil))))) Rb := fun {s' m' g' i c1 P Rb} hb1 sh1 gg1 hs1 hm1 p2 pi hr => by
    refine .not (.test (.boxed p2 (ExA.ea (.one (.var pi)) ⟨c1, p2, fun S n hn => ?_⟩)))
    obtain ⟨v, c2, ⟨hc2, rfl⟩, e1⟩ := rowR_ok dBad dBad hn hb1 sh1 gg1 hs1 hm1
    exact ⟨_, c2, ⟨true, rfl, hr c2 hc2⟩, e1⟩
  refine QE.ite (Rb := fun q P1 => q = false ∧ ∃ c2, P1 = (Q (.d (gateD (closeG (dn a b d) (dn a b e) (s - 2) m (closeG a b s m g)))) (.d (gateD (closeG a b s m g))) (.d (.int (sm : Nat)))).set 2 (.c none c2)) (.or (row (i := 10) hc' once gonce (by omega) (by omega) rfl rfl fun c2 hc2 => ⟨(fun z => by cases z), fun _ => row (i := 5) hc2 h hg (by omega) (by omega) rfl rfl fun c3 hc3 => ⟨rfl, c3, rfl⟩⟩)) (fun P1 hP => by cases hP.1) ?_
  rintro P1 ⟨_, c2, rfl⟩
  exact QE.next ⟨k, c2, _, _, _, _, _, _, _, _, _, rfl⟩
theorem EN.call {F : DF} {da : DA} {P : Qn.PE} {Rc : Cell → Qn.PE → Prop} (h : EA P da fun xs P' => ∀ S, ∃ n g c, Rc c P' ∧ F xs S = .ok (.ref n) (S ++ g) ∧ S.length ≤ n ∧ (S ++ g)[n]? = some c) : EN P (dCall F da) Rc := fun f E S s => by
  obtain ⟨xs, P1, S1, hF, e1, s1⟩ := h f E S s
  obtain ⟨n, g, c, r, e2, hn, hc⟩ := hF S1
  obtain ⟨q1, q2⟩ := s1.newAt hn hc
  exact ⟨c, P1, n, _, r, by rw [e_call, e1, Dn.R.bind_ok, e2], q1, q2⟩
theorem law_box {P : Qn.PE} {i j k : Nat} {ns : List Int} {Rc : Cell → Qn.PE → Prop} (hi : P[i]? = some (.d (.scr ns))) (hj : P[j]? = some (.d (.int (k : Nat)))) (hk : k ≤ 1000000) (hl : ns.length ≤ 1000000) (hr : ∀ c, IsBox c → Rc c P) : EN P (dCall (dDef 2 4 den__law_box) (aCons (dVar i) (aCons (dVar j) aNil))) Rc :=
  EN.call (ExA.ea (.two (.var hi) (.var hj)) fun S => by
    obtain ⟨v, s, g, e⟩ := box_ok (A := S) (is := ns) hk hl
    exact ⟨(S ++ g).length, g ++ [boxC v s 0], boxC v s 0, hr _ ⟨v, s, 0, rfl⟩, by rw [e, List.append_assoc], by simp, by rw [← List.append_assoc]; simp⟩)
/-- 1 + a number below m -/
theorem onePlus {P : Qn.PE} {i m : Nat} {o : Option Nat} {c : Cell} {R : D → Qn.PE → Prop} (hi : P[i]? = some (.c o c)) (hb : IsBox c) (h1 : 0 < m) (h2 : m ≤ 1000000) (hr : ∀ (d : Nat) (c' : Cell), d < m → IsBox c' → R (.int ((1 + d : Nat) : Int)) (P.set i (.c o c'))) : EE P (dBin vAdd (dC (.int 1)) (dCall FTake (aCons (dVar i) (aCons (dC (.int (m : Nat))) aNil)))) R :=
  .bin ((Ex.con _).ee (R := fun v P' => v = .int 1 ∧ P' = P) ⟨rfl, rfl⟩) (by
    rintro _ _ ⟨rfl, rfl⟩
    exact .draw hi (.con _) hi hb h1 h2 fun d c' hd hc' => ⟨_, t_add, hr d c' hd hc'⟩)
/-- FAny(box, s, 1 + a number) -/
theorem anyG {P : Qn.PE} {i s mk : Nat} {ms : DE} {c : Cell} {o : Option Nat} {R : D → Qn.PE → Prop} (hi : P[i]? = some (.c o c)) (hs : Ex P ms (.int (s : Nat)) P) (hb : IsBox c) (h1 : 0 < mk) (h2 : mk ≤ 900) (hs0 : 0 < s) (hs1 : s ≤ 900) (hr : ∀ (m : Nat) (g : Gate) (c' : Cell), 0 < m → m ≤ mk → IsGate s m g → IsBox c' → R (gateD g) (P.set i (.c o c'))) :
    EE P (dCall FAny (aCons (dVar i) (aCons ms (aCons (dBin vAdd (dC (.int 1)) (dCall FTake (aCons (dVar i) (aCons (dC (.int (mk : Nat))) aNil)))) aNil)))) R := by
  have li := (List.getElem?_eq_some_iff.mp hi).1
  refine .boxed hi (.cons (hs.ee (R := fun v P' => v = .int (s : Nat) ∧ P' = P) ⟨rfl, rfl⟩) ?_)
  rintro _ P1 ⟨rfl, rfl⟩
  refine .cons (onePlus (R := fun v P' => ∃ (d : Nat) (c' : Cell), d < mk ∧ IsBox c' ∧ v = .int ((1 + d : Nat) : Int) ∧ P' = P1.set i (.c o c')) hi hb h1 (by omega) fun d c' hd hc' => ⟨d, c', hd, hc', rfl, rfl⟩) ?_
  rintro _ _ ⟨d, c', hd, hc', rfl, rfl⟩
  refine .nil ⟨c', List.getElem?_set_self li, fun S n hn => ?_⟩
  obtain ⟨v, s', t, rfl⟩ := hc'
  obtain ⟨g, v2, s2, t2, e, hg⟩ := any_ok (sd := s) (mk := 1 + d) (by omega) (by omega) hn
  exact ⟨_, _, by rw [List.set_set]; exact hr _ g _ (by omega) (by omega) hg ⟨v2, s2, t2, rfl⟩, e⟩
theorem evenG {P : Qn.PE} {i s mk : Nat} {ms : DE} {c : Cell} {o : Option Nat} {R : D → Qn.PE → Prop} (hi : P[i]? = some (.c o c)) (hs : Ex P ms (.int (s : Nat)) P) (hb : IsBox c) (h1 : 0 < mk) (h2 : mk ≤ 900) (hs0 : 0 < s) (hs1 : s ≤ 900) (hr : ∀ (m : Nat) (g : Gate) (c' : Cell), 0 < m → m ≤ mk → IsGate s m g → IsBox c' → R (gateD g) (P.set i (.c o c'))) :
    EE P (dCall FEven (aCons (dVar i) (aCons ms (aCons (dBin vAdd (dC (.int 1)) (dCall FTake (aCons (dVar i) (aCons (dC (.int (mk : Nat))) aNil)))) aNil)))) R := by
  have li := (List.getElem?_eq_some_iff.mp hi).1
  refine .boxed hi (.cons (hs.ee (R := fun v P' => v = .int (s : Nat) ∧ P' = P) ⟨rfl, rfl⟩) ?_)
  rintro _ P1 ⟨rfl, rfl⟩
  refine .cons (onePlus (R := fun v P' => ∃ (d : Nat) (c' : Cell), d < mk ∧ IsBox c' ∧ v = .int ((1 + d : Nat) : Int) ∧ P' = P1.set i (.c o c')) hi hb h1 (by omega) fun d c' hd hc' => ⟨d, c', hd, hc', rfl, rfl⟩) ?_
  rintro _ _ ⟨d, c', hd, hc', rfl, rfl⟩
  refine .nil ⟨c', List.getElem?_set_self li, fun S n hn => ?_⟩
  obtain ⟨v, s', t, rfl⟩ := hc'
  obtain ⟨g, v2, s2, t2, e, hg⟩ := even_ok (sd := s) (mk := 1 + d) hs0 (by omega) (by omega) (by omega) hn
  exact ⟨_, _, by rw [List.set_set]; exact hr _ g _ (by omega) (by omega) hg ⟨v2, s2, t2, rfl⟩, e⟩
/-- FGate(box, s, m) -/
theorem gateE {P : Qn.PE} {i sd mk : Nat} {ms mm : DE} {c : Cell} {o : Option Nat} {R : D → Qn.PE → Prop} (hi : P[i]? = some (.c o c)) (hs : Ex P ms (.int (sd : Nat)) P) (hm : Ex P mm (.int (mk : Nat)) P) (hb : IsBox c) (h0 : 0 < sd) (h1 : 0 < mk) (h2 : sd ≤ 900) (h3 : mk ≤ 900) (hr : ∀ (s m : Nat) (g : Gate) (c' : Cell), 0 < s → s ≤ sd → 0 < m → m ≤ mk → IsGate s m g → IsBox c' → R (gateD g) (P.set i (.c o c'))) :
    EE P (dCall FGate (aCons (dVar i) (aCons ms (aCons mm aNil)))) R := by
  refine .boxed hi (ExA.ea (.two hs hm) ⟨c, hi, fun S n hn => ?_⟩)
  obtain ⟨v, s', t, rfl⟩ := hb
  obtain ⟨g, v', s'', c', sd', mk', e, hg, q1, q2, q3, q4⟩ := gateF_ok h0 h1 (by omega) (by omega) hn
  exact ⟨_, _, hr _ _ g _ q1 q2 q3 q4 hg ⟨v', s'', c', rfl⟩, e⟩
end
end Pc
set_option Elab.async false
set_option linter.all false
set_option maxHeartbeats 1000000
set_option maxRecDepth 100000
/-! Pc5: k06's law, whole -/
namespace Pc
open PySem PySem.Spec L2 Dn Pn Qn Qm
noncomputable def dLaw06 : DS := K06.den_law (dDef 2 4 den__law_box) FGate FTake FAny FBeside FEven FPairs (FTwice dBad dBad dBad) FLook (FClosed dBad dBad dBad) FTurned FSides (FRowR dBad dBad)
/-- max(a, min(b, len)) -/
theorem mm_ok {P : Qn.PE} {ns : List Int} {a b : Nat} (hab : a ≤ b) (hP : P[0]? = some (.d (.scr ns))) : ∃ N : Nat, N ≤ b ∧ Ex P (dCall bMax (aCons (dC (.int (a : Nat))) (aCons (dCall bMin (aCons (dC (.int (b : Nat))) (aCons (dCall bLen (aCons (dVar 0) aNil)) aNil))) aNil))) (.int (N : Nat)) P := by
  have e : ∃ N : Nat, N ≤ b ∧ ((N : Nat) : Int) = (if (if (ns.length : Int) < (b : Nat) then (ns.length : Int) else (b : Nat)) > (a : Nat) then (if (ns.length : Int) < (b : Nat) then (ns.length : Int) else (b : Nat)) else ((a : Nat) : Int)) := by
    by_cases h1 : (ns.length : Int) < (b : Nat)
    · rw [if_pos h1]
      by_cases h2 : (ns.length : Int) > (a : Nat)
      · rw [if_pos h2]; exact ⟨ns.length, by omega, rfl⟩
      · rw [if_neg h2]; exact ⟨a, hab, rfl⟩
    · rw [if_neg h1]
      by_cases h2 : ((b : Nat) : Int) > (a : Nat)
      · rw [if_pos h2]; exact ⟨b, Nat.le_refl _, rfl⟩
      · rw [if_neg h2]; exact ⟨a, hab, rfl⟩
  obtain ⟨N, hN, e⟩ := e
  refine ⟨N, hN, ?_⟩
  rw [e]
  exact .call (.two (.con _) (.call (.two (.con _) (.call (.one (.var hP)) fun _ => rfl)) fun _ => rfl)) fun _ => rfl
section
variable {ns : List Int} {k : Nat} {c : Cell} {x2 x3 x4 x5 x6 x7 x8 x9 x10 x11 : PV}
theorem draw0 {P : Qn.PE} {i m : Nat} {o : Option Nat} {c : Cell} {Rb : Bool → Qn.PE → Prop} (hi : P[i]? = some (.c o c)) (hb : IsBox c) (h1 : 0 < m) (h2 : m ≤ 1000000) (hr : ∀ (b : Bool) (c' : Cell), IsBox c' → Rb b (P.set i (.c o c'))) : EB P (dTest (dBin vEq (dCall FTake (aCons (dVar i) (aCons (dC (.int (m : Nat))) aNil))) (dC (.int 0)))) Rb := by
  refine .test (.bin (.draw (R := fun v P' => ∃ (d : Nat) (c' : Cell), v = .int (d : Nat) ∧ IsBox c' ∧ P' = P.set i (.c o c')) hi (.con _) hi hb h1 h2 fun d c' _ hc' => ⟨d, c', rfl, hc', rfl⟩) ?_)
  rintro _ _ ⟨d, c', rfl, hc', rfl⟩
  exact (Ex.con _).ee ⟨_, t_eqI, _, rfl, hr _ c' hc'⟩
theorem turn06 (hk : k ≤ 1000000) (hl : ns.length ≤ 1000000) : QE [.d (.scr ns), .d (.int (k : Nat)), x2, x3, x4, x5, x6, x7, x8, x9, x10, x11]
    (dSeq (dAsg (dCall (dDef 2 4 den__law_box) (aCons (dVar 0) (aCons (dVar 1) aNil))) (gNm 2)) (dSeq (dPar [3, 4] (aCons (dBin vAdd (dC (.int 5)) (dCall FTake (aCons (dVar 2) (aCons (dC (.int 2)) aNil)))) (aCons (dCall FGate (aCons (dVar 2) (aCons (dC (.int 3)) (aCons (dC (.int 3)) aNil)))) aNil))) (dSeq (dAsg (dCall FAny (aCons (dVar 2) (aCons (dVar 3) (aCons (dBin vAdd (dC (.int 1)) (dCall FTake (aCons (dVar 2) (aCons (dC (.int 8)) aNil)))) aNil)))) (gNm 5)) (dSeq (dIf (dTest (dBin vEq (dCall FTake (aCons (dVar 2) (aCons (dC (.int 2)) aNil))) (dC (.int 0)))) (dSeq (dAsg (dCall FAny (aCons (dVar 2) (aCons (dBin vSub (dVar 3) (dC (.int 3))) (aCons (dBin vAdd (dC (.int 1)) (dCall FTake (aCons (dVar 2) (aCons (dC (.int 4)) aNil)))) aNil)))) (gNm 6)) (dAsg (dCall FBeside (aCons (dCall FAny (aCons (dVar 2) (aCons (dC (.int 3)) (aCons (dBin vAdd (dC (.int 1)) (dCall FTake (aCons (dVar 2) (aCons (dC (.int 4)) aNil)))) aNil)))) (aCons (dVar 6) aNil))) (gNm 5))) (dIf (dTest (dBin vEq (dCall FTake (aCons (dVar 2) (aCons (dC (.int 3)) aNil))) (dC (.int 0)))) (dAsg (dCall FEven (aCons (dVar 2) (aCons (dVar 3) (aCons (dBin vAdd (dC (.int 1)) (dCall FTake (aCons (dVar 2) (aCons (dC (.int 8)) aNil)))) aNil)))) (gNm 5)) dNext)) tail06)))) (LEnd ns) := by
  refine QE.seqN (QE.asgN (law_box (i := 0) (j := 1) (k := k) rfl rfl hk hl fun c hc => ⟨_, rfl, ?_⟩))
  show QE (lP ns k c x3 x4 x5 x6 x7 x8 x9 x10 x11) _ _
  -- the number of sides; the further gate
  refine QE.seqN (QE.par (EM.cons (R1 := fun v P => ∃ (s : Nat) (c' : Cell), 5 ≤ s ∧ s ≤ 6 ∧ IsBox c' ∧ v = .int (s : Nat) ∧ P = lP ns k c' x3 x4 x5 x6 x7 x8 x9 x10 x11) (.bin ((Ex.con _).ee (R := fun v P' => v = .int 5 ∧ P' = lP ns k c x3 x4 x5 x6 x7 x8 x9 x10 x11) ⟨rfl, rfl⟩) ?_) ?_))
  · rintro _ _ ⟨rfl, rfl⟩
    exact .draw (m := 2) rfl (.con _) rfl hc (by decide) (by decide) fun d c' hd hc' => ⟨.int ((5 + d : Nat) : Int), t_add, 5 + d, c', by omega, by omega, hc', rfl, rfl⟩
  rintro _ _ ⟨s, c1, hs, hs', hc1, rfl, rfl⟩
  refine EM.cons (R1 := fun v P => ∃ (sm mm : Nat) (g : Gate) (c' : Cell), 0 < sm ∧ sm ≤ 3 ∧ 0 < mm ∧ mm ≤ 3 ∧ IsGate sm mm g ∧ IsBox c' ∧ v = gateD g ∧ P = lP ns k c' x3 x4 x5 x6 x7 x8 x9 x10 x11) (gateE (sd := 3) (mk := 3) rfl (.con _) (.con _) hc1 (by decide) (by decide) (by decide) (by decide) fun s m g c' q1 q2 q3 q4 q5 q6 => ⟨s, m, g, c', q1, q2, q3, q4, q5, q6, rfl, rfl⟩) ?_
  rintro _ _ ⟨sm, mm, more, c2, sm0, sm3, mm0, mm3, hmore, hc2, rfl, rfl⟩
  refine EM.nil ⟨rfl, _, rfl, ?_⟩
  show QE (lP ns k c2 (.d (.int (s : Nat))) (.d (gateD more)) x5 x6 x7 x8 x9 x10 x11) _ _
  have shm := hmore.shape sm0 mm0 (by omega) (by omega)
  -- the gate
  refine QE.seqN (QE.asg (anyG (s := s) (mk := 8) rfl (.var (i := 3) rfl) hc2 (by decide) (by decide) (by omega) (by omega) fun m g c3 hm0 hm8 hg hc3 => ⟨_, rfl, ?_⟩))
  show QE (lP ns k c3 (.d (.int (s : Nat))) (.d (gateD more)) (.d (gateD g)) x6 x7 x8 x9 x10 x11) _ _
  have fin : ∀ {m : Nat} {g : Gate} {c : Cell} {y6 : PV}, 0 < m → m ≤ 16 → IsGate s m g → IsBox c → QE (lP ns k c (.d (.int (s : Nat))) (.d (gateD more)) (.d (gateD g)) y6 x7 x8 x9 x10 x11) tail06 (LEnd ns) := fun hm0 hm hg hc => tail_ok (hg.shape (by omega) hm0 (by omega) (by omega)) hg hs hs' hm shm hmore sm3 mm3 hc
  refine QE.seqN (QE.ite (Rb := fun b P => ∃ c', IsBox c' ∧ P = lP ns k c' (.d (.int (s : Nat))) (.d (gateD more)) (.d (gateD g)) x6 x7 x8 x9 x10 x11) (draw0 (m := 2) rfl hc3 (by decide) (by decide) fun b c' hc' => ⟨c', hc', rfl⟩) ?_ ?_)
  · rintro _ ⟨c4, hc4, rfl⟩
    have e3 : ((3 : Int)) = ((3 : Nat) : Int) := rfl
    refine QE.seqN (QE.asg (anyG (s := s - 3) (mk := 4) rfl (.bin (.var (i := 3) rfl) (.con (.int ((3 : Nat) : Int))) (t_subN (by omega))) hc4 (by decide) (by decide) (by omega) (by omega) fun m2 g2 c5 hm20 hm2 hg2 hc5 => ⟨_, rfl, ?_⟩))
    show QE (lP ns k c5 (.d (.int (s : Nat))) (.d (gateD more)) (.d (gateD g)) (.d (gateD g2)) x7 x8 x9 x10 x11) _ _
    refine QE.asg (.call (.cons (R1 := fun v P => ∃ (m : Nat) (g' : Gate) (c' : Cell), 0 < m ∧ m ≤ 4 ∧ IsGate 3 m g' ∧ IsBox c' ∧ v = gateD g' ∧ P = lP ns k c' (.d (.int (s : Nat))) (.d (gateD more)) (.d (gateD g)) (.d (gateD g2)) x7 x8 x9 x10 x11) (anyG (s := 3) (mk := 4) rfl (.con (.int ((3 : Nat) : Int))) hc5 (by decide) (by decide) (by decide) (by decide) fun m g c' q1 q2 q3 q4 => ⟨m, g, c', q1, q2, q3, q4, rfl, rfl⟩) ?_))
    rintro _ _ ⟨m1, g1, c6, hm10, hm1, hg1, hc6, rfl, rfl⟩
    have b1 := isGate_beside hg1 hg2 hm20
    have hmm : m1 * m2 ≤ 4 * 4 := Nat.mul_le_mul hm1 hm2
    have es : 3 + (s - 3) = s := by omega
    rw [es] at b1
    refine ExA.ea (.one (.var (i := 6) rfl)) ⟨_, fun S => beside_ok (A := []) (hg1.shape (by decide) hm10 (by decide) (by omega)) (hg2.shape (by omega) hm20 (by omega) (by omega)) S List.nil_prefix, _, rfl, ?_⟩
    exact fin (Nat.mul_pos hm10 hm20) (by omega) b1 hc6
  · rintro _ ⟨c4, hc4, rfl⟩
    refine QE.ite (Rb := fun b P => ∃ c', IsBox c' ∧ P = lP ns k c' (.d (.int (s : Nat))) (.d (gateD more)) (.d (gateD g)) x6 x7 x8 x9 x10 x11) (draw0 (m := 3) rfl hc4 (by decide) (by decide) fun b c' hc' => ⟨c', hc', rfl⟩) ?_ ?_
    · rintro _ ⟨c5, hc5, rfl⟩
      exact QE.asg (evenG (s := s) (mk := 8) rfl (.var (i := 3) rfl) hc5 (by decide) (by decide) (by omega) (by omega) fun m g c' q1 q2 q3 q4 => ⟨_, rfl, fin q1 (by omega) q3 q4⟩)
    · rintro _ ⟨c5, hc5, rfl⟩
      exact QE.next ⟨_, rfl, fin hm0 (by omega) hg hc5⟩
theorem law06 (hl : ns.length ≤ 1000000) : ∃ st', dDef 1 12 dLaw06 [.scr ns] [] = .ok (.bl true) st' := by
  refine law_ok ?_
  obtain ⟨N, hN, e⟩ := mm_ok (P := [.d (.scr ns), .any, .any, .any, .any, .any, .any, .any, .any, .any, .any, .any]) (ns := ns) (a := 2) (b := 4) (by decide) rfl
  refine QE.seqN (QE.forI (fun _ P => ∃ x1 x2 x3 x4 x5 x6 x7 x8 x9 x10 x11, P = [.d (.scr ns), x1, x2, x3, x4, x5, x6, x7, x8, x9, x10, x11]) (It.range e (by omega)) ⟨_, _, _, _, _, _, _, _, _, _, _, rfl⟩ (fun _ _ _ => trivial) ?_ ?_)
  · rintro P ⟨x1, x2, x3, x4, x5, x6, x7, x8, x9, x10, x11, rfl⟩
    exact ⟨_, rfl, QE.ret ((Ex.con _).ee ⟨_, rfl⟩)⟩
  · rintro r x P hx ⟨x1, x2, x3, x4, x5, x6, x7, x8, x9, x10, x11, rfl⟩
    obtain ⟨hr, rfl⟩ := rng_get hx
    refine ⟨[1], _, Tg.nm 1 _, (turn06 (k := r) (by omega) hl).mono ?_⟩
    rintro o ⟨k, c, y3, y4, y5, y6, y7, y8, y9, y10, y11, rfl⟩
    exact ⟨_, _, _, _, _, _, _, _, _, _, _, rfl⟩
end
end Pc
set_option Elab.async false
set_option linter.all false
set_option maxRecDepth 100000
set_option maxHeartbeats 4000000
/-! printed by gen.py: the denotations of the defs of the row PySem.Challenge.rw_keptgates_k06_whole_closed_in_any_order, the ties to them -/
namespace K06
open PySem PySem.Spec PyProof.Rows L2 Dn
def top (i : Nat) : Stmt := PySem.Challenge.pw_keptgates_k06_whole_closed_in_any_order.main.body.getD i (.Pass ⟨0, 0, 0, 0⟩)
/-- the names that the text leaves to the built-ins -/
structure Fr (mg : Str → Option Value) : Prop where
  n_all : mg "all" = none
  n_bool : mg "bool" = none
  n_enumerate : mg "enumerate" = none
  n_int : mg "int" = none
  n_isinstance : mg "isinstance" = none
  n_len : mg "len" = none
  n_list : mg "list" = none
  n_max : mg "max" = none
  n_min : mg "min" = none
  n_range : mg "range" = none
  n_tuple : mg "tuple" = none
/-! ### is_whole: 0 thing -/
def N_is_whole : List Str := ["thing"]
theorem sc_is_whole : FnScope N_is_whole ["thing"] (defScope (top 6)) := ⟨rfl, rfl, rfl, by decide +kernel, rfl, by decide +kernel, by decide +kernel⟩
theorem tie_is_whole {P : Program} {w : World} {K : PySem.W.Frag} {mg : Str → Option Value} {base : Heap} {cls : Nat → Value} {k : Nat} (B : Fr mg) (g : Ge K mg "is_whole" (top 6)) :
    Has P w K mg base cls (k + 1) "is_whole" ["thing"] (dDef 1 1 (den_is_whole)) := by
  have hN : N_is_whole.Nodup := sc_is_whole.nd
  refine Has.of (ps := ["thing"]) g sc_is_whole (fun _ _ _ _ _ _ us hl => match us, hl with | [_], _ => rfl) (fun cdv A outer s H E hr => ?_)
  exact (r_last (r_ret (r_and (r_callB c_isi f_isi rfl B.n_isinstance (by decide +kernel) (r_acons (r_var 0 (pv 0)) (r_acons (r_ty rfl B.n_int (by decide +kernel)) r_anil))) (r_one (r_not (r_callB c_isi f_isi rfl B.n_isinstance (by decide +kernel) (r_acons (r_var 0 (pv 0)) (r_acons (r_ty rfl B.n_bool (by decide +kernel)) r_anil))))))))
/-! ### is_pair: 0 thing -/
def N_is_pair : List Str := ["thing"]
theorem sc_is_pair : FnScope N_is_pair ["thing"] (defScope (top 7)) := ⟨rfl, rfl, rfl, by decide +kernel, rfl, by decide +kernel, by decide +kernel⟩
theorem tie_is_pair {P : Program} {w : World} {K : PySem.W.Frag} {mg : Str → Option Value} {base : Heap} {cls : Nat → Value} {k : Nat} {m_is_whole : DF} (B : Fr mg) (g : Ge K mg "is_pair" (top 7)) (h_is_whole : Has P w K mg base cls k "is_whole" ["thing"] m_is_whole) :
    Has P w K mg base cls (k + 1) "is_pair" ["thing"] (dDef 1 1 (den_is_pair m_is_whole)) := by
  have hN : N_is_pair.Nodup := sc_is_pair.nd
  refine Has.of (ps := ["thing"]) g sc_is_pair (fun _ _ _ _ _ _ us hl => match us, hl with | [_], _ => rfl) (fun cdv A outer s H E hr => ?_)
  exact (r_last (r_ret (r_and (r_callB c_isi f_isi rfl B.n_isinstance (by decide +kernel) (r_acons (r_var 0 (pv 0)) (r_acons (r_ty rfl B.n_tuple (by decide +kernel)) r_anil))) (r_and (r_cmp (op_eqD (hu64 hr)) f_eq (r_callB c_len f_len rfl B.n_len (by decide +kernel) (r_acons (r_var 0 (pv 0)) r_anil)) r_int (by rfl)) (r_and (r_callH h_is_whole hr rfl (takes_of rfl rfl rfl rfl) (r_acons (r_ix (o_ix (hu1 hr)) f_ix (r_var 0 (pv 0)) r_int (fun _ _ => rfl)) r_anil)) (r_one (r_callH h_is_whole hr rfl (takes_of rfl rfl rfl rfl) (r_acons (r_ix (o_ix (hu1 hr)) f_ix (r_var 0 (pv 0)) r_int (fun _ _ => rfl)) r_anil))))))))
/-! ### has_form: 0 thing, 1 row, 2 pair -/
def N_has_form : List Str := ["thing", "row", "pair"]
theorem sc_has_form : FnScope N_has_form ["thing"] (defScope (top 8)) := ⟨rfl, rfl, rfl, by decide +kernel, rfl, by decide +kernel, by decide +kernel⟩
def bs_has_form_0 : Scope := ({ kind := PySem.ScopeKind.function, names := [(PySem.Str.ofString ".0", PySem.NameKind.local), (PySem.Str.ofString "row", PySem.NameKind.local), (PySem.Str.ofString "isinstance", PySem.NameKind.globalImplicit), (PySem.Str.ofString "tuple", PySem.NameKind.globalImplicit), (PySem.Str.ofString "len", PySem.NameKind.globalImplicit)], isGenerator := false, isCoroutine := false, more := [] } : PySem.Scope)
def bs_has_form_0r : Scope := ({ kind := PySem.ScopeKind.function, names := [(PySem.Str.ofString ".0", PySem.NameKind.local), (PySem.Str.ofString "row", PySem.NameKind.local), (PySem.Str.ofString "isinstance", PySem.NameKind.globalImplicit), (PySem.Str.ofString "tuple", PySem.NameKind.globalImplicit), (PySem.Str.ofString "len", PySem.NameKind.globalImplicit)], isGenerator := false, isCoroutine := false, more := [] } : PySem.Scope)
theorem blk_has_form_0 : BlkOk N_has_form (defScope (top 8)) bs_has_form_0 [(PySem.Str.ofString "row", 1)] := ⟨rfl, by decide +kernel, by decide +kernel, by decide +kernel, by decide +kernel⟩
def bs_has_form_1 : Scope := ({ kind := PySem.ScopeKind.function, names := [(PySem.Str.ofString ".0", PySem.NameKind.local), (PySem.Str.ofString "row", PySem.NameKind.local), (PySem.Str.ofString "len", PySem.NameKind.globalImplicit), (PySem.Str.ofString "all", PySem.NameKind.globalImplicit), (PySem.Str.ofString "thing", PySem.NameKind.free)], isGenerator := false, isCoroutine := false, more := [] } : PySem.Scope)
def bs_has_form_1r : Scope := ({ kind := PySem.ScopeKind.function, names := [(PySem.Str.ofString ".0", PySem.NameKind.local), (PySem.Str.ofString "row", PySem.NameKind.local), (PySem.Str.ofString "len", PySem.NameKind.globalImplicit), (PySem.Str.ofString "all", PySem.NameKind.globalImplicit), (PySem.Str.ofString "thing", PySem.NameKind.cell)], isGenerator := false, isCoroutine := false, more := [] } : PySem.Scope)
theorem blk_has_form_1 : BlkOk N_has_form (defScope (top 8)) bs_has_form_1 [(PySem.Str.ofString "row", 1)] := ⟨rfl, by decide +kernel, by decide +kernel, by decide +kernel, by decide +kernel⟩
def bs_has_form_2 : Scope := ({ kind := PySem.ScopeKind.function, names := [(PySem.Str.ofString ".0", PySem.NameKind.local), (PySem.Str.ofString "pair", PySem.NameKind.local), (PySem.Str.ofString "is_pair", PySem.NameKind.globalImplicit)], isGenerator := false, isCoroutine := false, more := [] } : PySem.Scope)
def bs_has_form_2r : Scope := ({ kind := PySem.ScopeKind.function, names := [(PySem.Str.ofString ".0", PySem.NameKind.local), (PySem.Str.ofString "pair", PySem.NameKind.local), (PySem.Str.ofString "is_pair", PySem.NameKind.globalImplicit)], isGenerator := false, isCoroutine := false, more := [] } : PySem.Scope)
theorem blk_has_form_2 : BlkOk N_has_form bs_has_form_1r bs_has_form_2 [(PySem.Str.ofString "pair", 2)] := ⟨rfl, by decide +kernel, by decide +kernel, by decide +kernel, by decide +kernel⟩
theorem tie_has_form {P : Program} {w : World} {K : PySem.W.Frag} {mg : Str → Option Value} {base : Heap} {cls : Nat → Value} {k : Nat} {m_is_pair : DF} (B : Fr mg) (g : Ge K mg "has_form" (top 8)) (h_is_pair : Has P w K mg base cls k "is_pair" ["thing"] m_is_pair) :
    Has P w K mg base cls (k + 1) "has_form" ["thing"] (dDef 1 3 (den_has_form m_is_pair)) := by
  have hN : N_has_form.Nodup := sc_has_form.nd
  refine Has.of (ps := ["thing"]) g sc_has_form (fun _ _ _ _ _ _ us hl => match us, hl with | [_], _ => rfl) (fun cdv A outer s H E hr => ?_)
  exact (r_seq (r_if (L2.PW.pt (r_wor (r_tnot (r_test (r_callB c_isi f_isi rfl B.n_isinstance (by decide +kernel) (r_acons (r_var 0 (pv 0)) (r_acons (r_ty rfl B.n_tuple (by decide +kernel)) r_anil))))) (r_wor1 (r_tcmp (op_eqD (hu64 hr)) f_eq (r_callB c_len f_len rfl B.n_len (by decide +kernel) (r_acons (r_var 0 (pv 0)) r_anil)) r_int (by rfl))))) (r_last (r_ret r_bl)) r_nil) (r_seq (r_if (r_tnot (r_test (r_callB (cr_all rfl) f_all rfl B.n_all (by decide +kernel) (r_acons (r_lcV blk_has_form_0 rfl hN (r_iter (r_var 0 (pv 0))) (fun _ _ _ _ _ => (t_name (pg_name hN rfl (.inl rfl) (.inr rfl)))) (fun _ _ _ _ _ => r_pts0) (fun _ _ _ _ _ => (r_and (r_callB c_isi f_isi rfl B.n_isinstance (by decide +kernel) (r_acons (r_var 1 (pv 1)) (r_acons (r_ty rfl B.n_tuple (by decide +kernel)) r_anil))) (r_one (r_cmp op_gt (f_cmp _) (r_callB c_len f_len rfl B.n_len (by decide +kernel) (r_acons (r_var 1 (pv 1)) r_anil)) r_int (by rfl)))))) r_anil)))) (r_last (r_ret r_bl)) r_nil) (r_last (r_ret (r_callB (cr_all rfl) f_all rfl B.n_all (by decide +kernel) (r_acons (r_lcV blk_has_form_1 rfl hN (r_iter (r_var 0 (pv 0))) (fun _ _ _ _ _ => (t_name (pg_name hN rfl (.inl rfl) (.inr rfl)))) (fun _ _ _ _ _ => r_pts0) (fun _ _ _ _ _ => (r_and (r_cmp (op_eqD (hu64 hr)) f_eq (r_callB c_len f_len rfl B.n_len (by decide +kernel) (r_acons (r_var 1 (pv 1)) r_anil)) (r_callB c_len f_len rfl B.n_len (by decide +kernel) (r_acons (r_ix (o_ix (hu1 hr)) f_ix (r_var 0 (pv 0)) r_int (fun _ _ => rfl)) r_anil)) (by rfl)) (r_one (r_callB (cr_all rfl) f_all rfl B.n_all (by decide +kernel) (r_acons (r_lcV blk_has_form_2 rfl hN (r_iter (r_var 1 (pv 1))) (fun _ _ _ _ _ => (t_name (pg_name hN rfl (.inl rfl) (.inr rfl)))) (fun _ _ _ _ _ => r_pts0) (fun _ _ _ _ _ => (r_callH h_is_pair hr rfl tkW0 (r_acons (r_var 2 (pv 2)) r_anil)))) r_anil)))))) r_anil))))))
/-! ### look_gate: 0 gate, 1 met, 2 k, 3 side, 4 mark, 5 row, 6 pair -/
def N_look_gate : List Str := ["gate", "met", "k", "side", "mark", "row", "pair"]
theorem sc_look_gate : FnScope N_look_gate ["gate"] (defScope (top 9)) := ⟨rfl, rfl, rfl, by decide +kernel, rfl, by decide +kernel, by decide +kernel⟩
def bs_look_gate_0 : Scope := ({ kind := PySem.ScopeKind.function, names := [(PySem.Str.ofString ".0", PySem.NameKind.local), (PySem.Str.ofString "row", PySem.NameKind.local), (PySem.Str.ofString "pair", PySem.NameKind.local)], isGenerator := false, isCoroutine := false, more := [] } : PySem.Scope)
def bs_look_gate_0r : Scope := ({ kind := PySem.ScopeKind.function, names := [(PySem.Str.ofString ".0", PySem.NameKind.local), (PySem.Str.ofString "row", PySem.NameKind.local), (PySem.Str.ofString "pair", PySem.NameKind.local)], isGenerator := false, isCoroutine := false, more := [] } : PySem.Scope)
theorem blk_look_gate_0 : BlkOk N_look_gate (defScope (top 9)) bs_look_gate_0 [(PySem.Str.ofString "row", 5), (PySem.Str.ofString "pair", 6)] := ⟨rfl, by decide +kernel, by decide +kernel, by decide +kernel, by decide +kernel⟩
theorem tie_look_gate {P : Program} {w : World} {K : PySem.W.Frag} {mg : Str → Option Value} {base : Heap} {cls : Nat → Value} {k : Nat} {m_has_form : DF} (B : Fr mg) (g : Ge K mg "look_gate" (top 9)) (h_has_form : Has P w K mg base cls k "has_form" ["thing"] m_has_form) :
    Has P w K mg base cls (k + 1) "look_gate" ["gate"] (dDef 1 7 (den_look_gate m_has_form)) := by
  have hN : N_look_gate.Nodup := sc_look_gate.nd
  refine Has.of (ps := ["gate"]) g sc_look_gate (fun _ _ _ _ _ _ us hl => match us, hl with | [_], _ => rfl) (fun cdv A outer s H E hr => ?_)
  exact (r_seq (r_if (r_tnot (r_test (r_callH h_has_form hr rfl (takes_of rfl rfl rfl rfl) (r_acons (r_var 0 (pv 0)) r_anil)))) (r_last r_bad) r_nil) (r_seq (r_set (i := 1) hN rfl (.inl rfl) r_dnewT) (r_seq (r_for (passes_of rfl) rfl (r_enum rfl B.n_enumerate (r_acons (r_lc2V blk_look_gate_0 rfl hN (r_iter (r_var 0 (pv 0))) (fun _ _ _ _ _ => (t_name (pg_name hN rfl (.inl rfl) (.inr rfl)))) (fun _ _ _ _ _ => r_pts0) (fun _ _ _ _ _ => (r_iter (r_var 5 (pv 5)))) (fun _ _ _ _ _ => (t_name (pg_name hN rfl (.inl rfl) (.inr rfl)))) (fun _ _ _ _ _ => r_pts0) (fun _ _ _ _ _ => (r_var 6 (pv 6)))) r_anil)) (t_tup rfl (t_cons (t_name (pg_name hN rfl (.inl rfl) (.inl rfl))) (t_cons (t_tup rfl (t_cons (t_name (pg_name hN rfl (.inl rfl) (.inl rfl))) (t_cons (t_name (pg_name hN rfl (.inl rfl) (.inl rfl))) t_nil))) t_nil))) (r_seq (r_if (r_tnot (r_tchain op_le op_lt (f_cmp _) (f_cmp _) r_int (r_var 3 (pv 3)) (r_callB c_len f_len rfl B.n_len (by decide +kernel) (r_acons (r_ix (o_ix (hu1 hr)) f_ix (r_var 0 (pv 0)) r_int (fun _ _ => rfl)) r_anil)))) (r_last r_bad) r_nil) (r_seq (r_if (r_tnot (r_tchain op_le op_lt (f_cmp _) (f_cmp _) r_int (r_var 4 (pv 4)) (r_callB c_len f_len rfl B.n_len (by decide +kernel) (r_acons (r_var 0 (pv 0)) r_anil)))) (r_last r_bad) r_nil) (r_seq (r_if (r_tcmp (o_in (hub hr)) (f_in false) (r_tup (r_acons (r_var 3 (pv 3)) (r_acons (r_var 4 (pv 4)) r_anil))) (r_var 1 (pv 1)) (by rfl)) (r_last r_bad) r_nil) (r_last (r_asg r_bl (t_sub (W := W0) (hu1 hr) (r_var 1 (pv 1)) (r_tup (r_acons (r_var 3 (pv 3)) (r_acons (r_var 4 (pv 4)) r_anil)))))))))) (r_last (r_ret r_bl)))))
/-! ### sides_of: 0 gate -/
def N_sides_of : List Str := ["gate"]
theorem sc_sides_of : FnScope N_sides_of ["gate"] (defScope (top 10)) := ⟨rfl, rfl, rfl, by decide +kernel, rfl, by decide +kernel, by decide +kernel⟩
theorem tie_sides_of {P : Program} {w : World} {K : PySem.W.Frag} {mg : Str → Option Value} {base : Heap} {cls : Nat → Value} {k : Nat} (B : Fr mg) (g : Ge K mg "sides_of" (top 10)) :
    Has P w K mg base cls (k + 1) "sides_of" ["gate"] (dDef 1 1 (den_sides_of)) := by
  have hN : N_sides_of.Nodup := sc_sides_of.nd
  refine Has.of (ps := ["gate"]) g sc_sides_of (fun _ _ _ _ _ _ us hl => match us, hl with | [_], _ => rfl) (fun cdv A outer s H E hr => ?_)
  exact (r_last (r_ret (r_callB c_len f_len rfl B.n_len (by decide +kernel) (r_acons (r_ix (o_ix (hu1 hr)) f_ix (r_var 0 (pv 0)) r_int (fun _ _ => rfl)) r_anil))))
/-! ### marks_of: 0 gate -/
def N_marks_of : List Str := ["gate"]
theorem sc_marks_of : FnScope N_marks_of ["gate"] (defScope (top 11)) := ⟨rfl, rfl, rfl, by decide +kernel, rfl, by decide +kernel, by decide +kernel⟩
theorem tie_marks_of {P : Program} {w : World} {K : PySem.W.Frag} {mg : Str → Option Value} {base : Heap} {cls : Nat → Value} {k : Nat} (B : Fr mg) (g : Ge K mg "marks_of" (top 11)) :
    Has P w K mg base cls (k + 1) "marks_of" ["gate"] (dDef 1 1 (den_marks_of)) := by
  have hN : N_marks_of.Nodup := sc_marks_of.nd
  refine Has.of (ps := ["gate"]) g sc_marks_of (fun _ _ _ _ _ _ us hl => match us, hl with | [_], _ => rfl) (fun cdv A outer s H E hr => ?_)
  exact (r_last (r_ret (r_callB c_len f_len rfl B.n_len (by decide +kernel) (r_acons (r_var 0 (pv 0)) r_anil))))
/-! ### need_side: 0 gate, 1 side -/
def N_need_side : List Str := ["gate", "side"]
theorem sc_need_side : FnScope N_need_side ["gate", "side"] (defScope (top 12)) := ⟨rfl, rfl, rfl, by decide +kernel, rfl, by decide +kernel, by decide +kernel⟩
theorem tie_need_side {P : Program} {w : World} {K : PySem.W.Frag} {mg : Str → Option Value} {base : Heap} {cls : Nat → Value} {k : Nat} {m_sides_of : DF} (B : Fr mg) (g : Ge K mg "need_side" (top 12)) (h_sides_of : Has P w K mg base cls k "sides_of" ["gate"] m_sides_of) :
    Has P w K mg base cls (k + 1) "need_side" ["gate", "side"] (dDef 2 2 (den_need_side m_sides_of)) := by
  have hN : N_need_side.Nodup := sc_need_side.nd
  refine Has.of (ps := ["gate", "side"]) g sc_need_side (fun _ _ _ _ _ _ us hl => match us, hl with | [_, _], _ => rfl) (fun cdv A outer s H E hr => ?_)
  exact (r_last (r_if (r_tnot (r_tchain op_le op_lt (f_cmp _) (f_cmp _) r_int (r_var 1 (pv 1)) (r_callH h_sides_of hr rfl (takes_of rfl rfl rfl rfl) (r_acons (r_var 0 (pv 0)) r_anil)))) (r_last r_bad) r_nil))
/-! ### need_mark: 0 gate, 1 mark -/
def N_need_mark : List Str := ["gate", "mark"]
theorem sc_need_mark : FnScope N_need_mark ["gate", "mark"] (defScope (top 13)) := ⟨rfl, rfl, rfl, by decide +kernel, rfl, by decide +kernel, by decide +kernel⟩
theorem tie_need_mark {P : Program} {w : World} {K : PySem.W.Frag} {mg : Str → Option Value} {base : Heap} {cls : Nat → Value} {k : Nat} {m_marks_of : DF} (B : Fr mg) (g : Ge K mg "need_mark" (top 13)) (h_marks_of : Has P w K mg base cls k "marks_of" ["gate"] m_marks_of) :
    Has P w K mg base cls (k + 1) "need_mark" ["gate", "mark"] (dDef 2 2 (den_need_mark m_marks_of)) := by
  have hN : N_need_mark.Nodup := sc_need_mark.nd
  refine Has.of (ps := ["gate", "mark"]) g sc_need_mark (fun _ _ _ _ _ _ us hl => match us, hl with | [_, _], _ => rfl) (fun cdv A outer s H E hr => ?_)
  exact (r_last (r_if (r_tnot (r_tchain op_le op_lt (f_cmp _) (f_cmp _) r_int (r_var 1 (pv 1)) (r_callH h_marks_of hr rfl (takes_of rfl rfl rfl rfl) (r_acons (r_var 0 (pv 0)) r_anil)))) (r_last r_bad) r_nil))
/-! ### passed: 0 gate, 1 side, 2 mark -/
def N_passed : List Str := ["gate", "side", "mark"]
theorem sc_passed : FnScope N_passed ["gate", "side", "mark"] (defScope (top 14)) := ⟨rfl, rfl, rfl, by decide +kernel, rfl, by decide +kernel, by decide +kernel⟩
theorem tie_passed {P : Program} {w : World} {K : PySem.W.Frag} {mg : Str → Option Value} {base : Heap} {cls : Nat → Value} {k : Nat} {m_need_side : DF} {m_need_mark : DF} (B : Fr mg) (g : Ge K mg "passed" (top 14)) (h_need_side : Has P w K mg base cls k "need_side" ["gate", "side"] m_need_side) (h_need_mark : Has P w K mg base cls k "need_mark" ["gate", "mark"] m_need_mark) :
    Has P w K mg base cls (k + 1) "passed" ["gate", "side", "mark"] (dDef 3 3 (den_passed m_need_side m_need_mark)) := by
  have hN : N_passed.Nodup := sc_passed.nd
  refine Has.of (ps := ["gate", "side", "mark"]) g sc_passed (fun _ _ _ _ _ _ us hl => match us, hl with | [_, _, _], _ => rfl) (fun cdv A outer s H E hr => ?_)
  exact (r_seq (r_expr (r_callH h_need_side hr rfl (takes_of rfl rfl rfl rfl) (r_acons (r_var 0 (pv 0)) (r_acons (r_var 1 (pv 1)) r_anil)))) (r_seq (r_expr (r_callH h_need_mark hr rfl (takes_of rfl rfl rfl rfl) (r_acons (r_var 0 (pv 0)) (r_acons (r_var 2 (pv 2)) r_anil)))) (r_last (r_ret (r_ix (o_ix (hu1 hr)) f_ix (r_ix (o_ix (hu1 hr)) f_ix (r_var 0 (pv 0)) (r_var 2 (pv 2)) (fun _ _ => rfl)) (r_var 1 (pv 1)) (fun _ _ => rfl))))))
/-! ### turned_gate: 0 gate, 1 found, 2 mark, 3 row, 4 side, 5 pair -/
def N_turned_gate : List Str := ["gate", "found", "mark", "row", "side", "pair"]
theorem sc_turned_gate : FnScope N_turned_gate ["gate"] (defScope (top 15)) := ⟨rfl, rfl, rfl, by decide +kernel, rfl, by decide +kernel, by decide +kernel⟩
def bs_turned_gate_0 : Scope := ({ kind := PySem.ScopeKind.function, names := [(PySem.Str.ofString ".0", PySem.NameKind.local), (PySem.Str.ofString "side", PySem.NameKind.local), (PySem.Str.ofString "pair", PySem.NameKind.local), (PySem.Str.ofString "mark", PySem.NameKind.free)], isGenerator := false, isCoroutine := false, more := [] } : PySem.Scope)
def bs_turned_gate_0r : Scope := ({ kind := PySem.ScopeKind.function, names := [(PySem.Str.ofString ".0", PySem.NameKind.local), (PySem.Str.ofString "side", PySem.NameKind.local), (PySem.Str.ofString "pair", PySem.NameKind.local), (PySem.Str.ofString "mark", PySem.NameKind.cell)], isGenerator := false, isCoroutine := false, more := [] } : PySem.Scope)
theorem blk_turned_gate_0 : BlkOk N_turned_gate (defScope (top 15)) bs_turned_gate_0 [(PySem.Str.ofString "side", 4), (PySem.Str.ofString "pair", 5)] := ⟨rfl, by decide +kernel, by decide +kernel, by decide +kernel, by decide +kernel⟩
def bs_turned_gate_1 : Scope := ({ kind := PySem.ScopeKind.function, names := [(PySem.Str.ofString ".0", PySem.NameKind.local), (PySem.Str.ofString "mark", PySem.NameKind.cell), (PySem.Str.ofString "tuple", PySem.NameKind.globalImplicit), (PySem.Str.ofString "range", PySem.NameKind.globalImplicit), (PySem.Str.ofString "sides_of", PySem.NameKind.globalImplicit), (PySem.Str.ofString "found", PySem.NameKind.free), (PySem.Str.ofString "gate", PySem.NameKind.free)], isGenerator := false, isCoroutine := false, more := [] } : PySem.Scope)
def bs_turned_gate_1r : Scope := ({ kind := PySem.ScopeKind.function, names := [(PySem.Str.ofString ".0", PySem.NameKind.local), (PySem.Str.ofString "mark", PySem.NameKind.cell), (PySem.Str.ofString "tuple", PySem.NameKind.globalImplicit), (PySem.Str.ofString "range", PySem.NameKind.globalImplicit), (PySem.Str.ofString "sides_of", PySem.NameKind.globalImplicit), (PySem.Str.ofString "found", PySem.NameKind.cell), (PySem.Str.ofString "gate", PySem.NameKind.cell)], isGenerator := false, isCoroutine := false, more := [] } : PySem.Scope)
theorem blk_turned_gate_1 : BlkOk N_turned_gate (defScope (top 15)) bs_turned_gate_1 [(PySem.Str.ofString "mark", 2)] := ⟨rfl, by decide +kernel, by decide +kernel, by decide +kernel, by decide +kernel⟩
def bs_turned_gate_2 : Scope := ({ kind := PySem.ScopeKind.function, names := [(PySem.Str.ofString ".0", PySem.NameKind.local), (PySem.Str.ofString "side", PySem.NameKind.local), (PySem.Str.ofString "found", PySem.NameKind.free), (PySem.Str.ofString "mark", PySem.NameKind.free)], isGenerator := false, isCoroutine := false, more := [] } : PySem.Scope)
def bs_turned_gate_2r : Scope := ({ kind := PySem.ScopeKind.function, names := [(PySem.Str.ofString ".0", PySem.NameKind.local), (PySem.Str.ofString "side", PySem.NameKind.local), (PySem.Str.ofString "found", PySem.NameKind.cell), (PySem.Str.ofString "mark", PySem.NameKind.cell)], isGenerator := false, isCoroutine := false, more := [] } : PySem.Scope)
theorem blk_turned_gate_2 : BlkOk N_turned_gate bs_turned_gate_1r bs_turned_gate_2 [(PySem.Str.ofString "side", 4)] := ⟨rfl, by decide +kernel, by decide +kernel, by decide +kernel, by decide +kernel⟩
theorem tie_turned_gate {P : Program} {w : World} {K : PySem.W.Frag} {mg : Str → Option Value} {base : Heap} {cls : Nat → Value} {k : Nat} {m_marks_of : DF} {m_sides_of : DF} (B : Fr mg) (g : Ge K mg "turned_gate" (top 15)) (h_marks_of : Has P w K mg base cls k "marks_of" ["gate"] m_marks_of) (h_sides_of : Has P w K mg base cls k "sides_of" ["gate"] m_sides_of) :
    Has P w K mg base cls (k + 1) "turned_gate" ["gate"] (dDef 1 6 (den_turned_gate m_marks_of m_sides_of)) := by
  have hN : N_turned_gate.Nodup := sc_turned_gate.nd
  refine Has.of (ps := ["gate"]) g sc_turned_gate (fun _ _ _ _ _ _ us hl => match us, hl with | [_], _ => rfl) (fun cdv A outer s H E hr => ?_)
  exact (r_seq (r_set (i := 1) hN rfl (.inr rfl) r_dnewT) (r_seq (r_for (passes_of rfl) rfl (r_enum rfl B.n_enumerate (r_acons (r_var 0 (pv 0)) r_anil)) (t_tup rfl (t_cons (t_name (pg_name hN rfl (.inr rfl) (.inl rfl))) (t_cons (t_name (pg_name hN rfl (.inl rfl) (.inl rfl))) t_nil))) (r_last (r_expr (r_bm f_updT PySem.F.plainAttrs_dict PySem.F.slot_dict_update PySem.F.type_dict_update (mt_updT (hu1 hr)) (r_var 1 (pv 1)) (r_acons (r_dcTV blk_turned_gate_0 (hu0 hr) rfl hN (r_enum rfl B.n_enumerate (r_acons (r_var 3 (pv 3)) r_anil)) (fun _ _ _ _ _ => (t_tup rfl (t_cons (t_name (pg_name hN rfl (.inl rfl) (.inr rfl))) (t_cons (t_name (pg_name hN rfl (.inl rfl) (.inr rfl))) t_nil)))) (fun _ _ _ _ _ => r_pts0) (fun _ _ _ _ _ => (r_var 5 (pv 5))) (fun _ _ _ _ _ => (r_tup (r_acons (r_var 4 (pv 4)) (r_acons (r_var 2 (pv 2)) r_anil))))) r_anil))))) (r_last (r_ret (r_callTy call_tuple_of f_tuple rfl B.n_tuple (by decide +kernel) (r_acons (r_lcV blk_turned_gate_1 rfl hN (r_range1 rfl B.n_range (r_acons (r_callH h_marks_of hr rfl (takes_of rfl rfl rfl rfl) (r_acons (r_var 0 (pv 0)) r_anil)) r_anil)) (fun _ _ _ _ _ => (t_name (pg_name hN rfl (.inr rfl) (.inl rfl)))) (fun _ _ _ _ _ => r_pts0) (fun _ _ _ _ _ => (r_callTy call_tuple_of f_tuple rfl B.n_tuple (by decide +kernel) (r_acons (r_lcV blk_turned_gate_2 rfl hN (r_range1 rfl B.n_range (r_acons (r_callH h_sides_of hr rfl tkW0 (r_acons (r_var 0 (pv 0)) r_anil)) r_anil)) (fun _ _ _ _ _ => (t_name (pg_name hN rfl (.inl rfl) (.inr rfl)))) (fun _ _ _ _ _ => r_pts0) (fun _ _ _ _ _ => (r_ix (o_ix (hu1 hr)) f_ix (r_var 1 (pv 1)) (r_tup (r_acons (r_var 4 (pv 4)) (r_acons (r_var 2 (pv 2)) r_anil))) (fun _ _ => rfl)))) r_anil)))) r_anil))))))
/-! ### beside: 0 one, 1 other, 2 many, 3 sides, 4 rows, 5 mine, 6 row, 7 its, 8 more, 9 first, 10 side, 11 mark -/
def N_beside : List Str := ["one", "other", "many", "sides", "rows", "mine", "row", "its", "more", "first", "side", "mark"]
theorem sc_beside : FnScope N_beside ["one", "other"] (defScope (top 16)) := ⟨rfl, rfl, rfl, by decide +kernel, rfl, by decide +kernel, by decide +kernel⟩
def bs_beside_0 : Scope := ({ kind := PySem.ScopeKind.function, names := [(PySem.Str.ofString ".0", PySem.NameKind.local), (PySem.Str.ofString "side", PySem.NameKind.local), (PySem.Str.ofString "mark", PySem.NameKind.local), (PySem.Str.ofString "its", PySem.NameKind.free), (PySem.Str.ofString "many", PySem.NameKind.free)], isGenerator := false, isCoroutine := false, more := [] } : PySem.Scope)
def bs_beside_0r : Scope := ({ kind := PySem.ScopeKind.function, names := [(PySem.Str.ofString ".0", PySem.NameKind.local), (PySem.Str.ofString "side", PySem.NameKind.local), (PySem.Str.ofString "mark", PySem.NameKind.local), (PySem.Str.ofString "its", PySem.NameKind.cell), (PySem.Str.ofString "many", PySem.NameKind.cell)], isGenerator := false, isCoroutine := false, more := [] } : PySem.Scope)
theorem blk_beside_0 : BlkOk N_beside (defScope (top 16)) bs_beside_0 [(PySem.Str.ofString "side", 10), (PySem.Str.ofString "mark", 11)] := ⟨rfl, by decide +kernel, by decide +kernel, by decide +kernel, by decide +kernel⟩
def bs_beside_1 : Scope := ({ kind := PySem.ScopeKind.function, names := [(PySem.Str.ofString ".0", PySem.NameKind.local), (PySem.Str.ofString "side", PySem.NameKind.local), (PySem.Str.ofString "mark", PySem.NameKind.local), (PySem.Str.ofString "many", PySem.NameKind.free), (PySem.Str.ofString "mine", PySem.NameKind.free), (PySem.Str.ofString "sides", PySem.NameKind.free)], isGenerator := false, isCoroutine := false, more := [] } : PySem.Scope)
def bs_beside_1r : Scope := ({ kind := PySem.ScopeKind.function, names := [(PySem.Str.ofString ".0", PySem.NameKind.local), (PySem.Str.ofString "side", PySem.NameKind.local), (PySem.Str.ofString "mark", PySem.NameKind.local), (PySem.Str.ofString "many", PySem.NameKind.cell), (PySem.Str.ofString "mine", PySem.NameKind.cell), (PySem.Str.ofString "sides", PySem.NameKind.cell)], isGenerator := false, isCoroutine := false, more := [] } : PySem.Scope)
theorem blk_beside_1 : BlkOk N_beside (defScope (top 16)) bs_beside_1 [(PySem.Str.ofString "side", 10), (PySem.Str.ofString "mark", 11)] := ⟨rfl, by decide +kernel, by decide +kernel, by decide +kernel, by decide +kernel⟩
theorem tie_beside {P : Program} {w : World} {K : PySem.W.Frag} {mg : Str → Option Value} {base : Heap} {cls : Nat → Value} {k : Nat} {m_sides_of : DF} {m_marks_of : DF} (B : Fr mg) (g : Ge K mg "beside" (top 16)) (h_sides_of : Has P w K mg base cls k "sides_of" ["gate"] m_sides_of) (h_marks_of : Has P w K mg base cls k "marks_of" ["gate"] m_marks_of) :
    Has P w K mg base cls (k + 1) "beside" ["one", "other"] (dDef 2 12 (den_beside m_sides_of m_marks_of)) := by
  have hN : N_beside.Nodup := sc_beside.nd
  refine Has.of (ps := ["one", "other"]) g sc_beside (fun _ _ _ _ _ _ us hl => match us, hl with | [_, _], _ => rfl) (fun cdv A outer s H E hr => ?_)
  exact (r_seq (r_asg (r_tup (r_acons (r_callH h_marks_of hr rfl (takes_of rfl rfl rfl rfl) (r_acons (r_var 1 (pv 1)) r_anil)) (r_acons (r_callH h_sides_of hr rfl (takes_of rfl rfl rfl rfl) (r_acons (r_var 0 (pv 0)) r_anil)) (r_acons (r_lst r_anil) r_anil)))) (t_tup rfl (t_cons (t_name (pg_name hN rfl (.inr rfl) (.inl rfl))) (t_cons (t_name (pg_name hN rfl (.inr rfl) (.inl rfl))) (t_cons (t_name (pg_name hN rfl (.inl rfl) (.inl rfl))) t_nil))))) (r_seq (r_for (passes_of rfl) rfl (r_enum rfl B.n_enumerate (r_acons (r_var 0 (pv 0)) r_anil)) (t_tup rfl (t_cons (t_name (pg_name hN rfl (.inr rfl) (.inl rfl))) (t_cons (t_name (pg_name hN rfl (.inl rfl) (.inl rfl))) t_nil))) (r_last (r_for (passes_of rfl) rfl (r_enum rfl B.n_enumerate (r_acons (r_var 1 (pv 1)) r_anil)) (t_tup rfl (t_cons (t_name (pg_name hN rfl (.inr rfl) (.inl rfl))) (t_cons (t_name (pg_name hN rfl (.inl rfl) (.inl rfl))) t_nil))) (r_seq (r_setLcV (i := 9) blk_beside_0 rfl hN rfl rfl rfl (r_iter (r_var 6 (pv 6))) (fun _ _ _ _ _ => (t_tup rfl (t_cons (t_name (pg_name hN rfl (.inl rfl) (.inr rfl))) (t_cons (t_name (pg_name hN rfl (.inl rfl) (.inr rfl))) t_nil)))) (fun _ _ _ _ _ => r_pts0) (fun _ _ _ _ _ => (r_tup (r_acons (r_var 10 (pv 10)) (r_acons (r_op o_add f_add (r_op o_mul f_mul (r_var 11 (pv 11)) (r_var 2 (pv 2))) (r_var 7 (pv 7))) r_anil))))) (r_last (r_expr (r_bm f_append PySem.F.plainAttrs_list PySem.F.slot_list_append PySem.F.type_list_append mt_append (r_var 4 (pv 4)) (r_acons (r_callTy call_tuple_of f_tuple rfl B.n_tuple (by decide +kernel) (r_acons (r_op o_add f_add (r_var 9 (pv 9)) (r_lcV blk_beside_1 rfl hN (r_iter (r_var 8 (pv 8))) (fun _ _ _ _ _ => (t_tup rfl (t_cons (t_name (pg_name hN rfl (.inl rfl) (.inr rfl))) (t_cons (t_name (pg_name hN rfl (.inl rfl) (.inr rfl))) t_nil)))) (fun _ _ _ _ _ => r_pts0) (fun _ _ _ _ _ => (r_tup (r_acons (r_op o_add f_add (r_var 3 (pv 3)) (r_var 10 (pv 10))) (r_acons (r_op o_add f_add (r_op o_mul f_mul (r_var 5 (pv 5)) (r_var 2 (pv 2))) (r_var 11 (pv 11))) r_anil)))))) r_anil)) r_anil)))))))) (r_last (r_ret (r_callTy call_tuple_of f_tuple rfl B.n_tuple (by decide +kernel) (r_acons (r_var 4 (pv 4)) r_anil))))))
/-! ### led_through: 0 gate, 1 side, 2 mark, 3 joint -/
def N_led_through : List Str := ["gate", "side", "mark", "joint"]
theorem sc_led_through : FnScope N_led_through ["gate", "side", "mark", "joint"] (defScope (top 17)) := ⟨rfl, rfl, rfl, by decide +kernel, rfl, by decide +kernel, by decide +kernel⟩
theorem tie_led_through {P : Program} {w : World} {K : PySem.W.Frag} {mg : Str → Option Value} {base : Heap} {cls : Nat → Value} {k : Nat} (B : Fr mg) (g : Ge K mg "led_through" (top 17)) :
    Has P w K mg base cls (k + 1) "led_through" ["gate", "side", "mark", "joint"] (dDef 4 4 (den_led_through)) := by
  have hN : N_led_through.Nodup := sc_led_through.nd
  refine Has.of (ps := ["gate", "side", "mark", "joint"]) g sc_led_through (fun _ _ _ _ _ _ us hl => match us, hl with | [_, _, _, _], _ => rfl) (fun cdv A outer s H E hr => ?_)
  exact (r_seq (r_asg (r_ix (o_ix (hu1 hr)) f_ix (r_ix (o_ix (hu1 hr)) f_ix (r_var 0 (pv 0)) (r_var 2 (pv 2)) (fun _ _ => rfl)) (r_var 1 (pv 1)) (fun _ _ => rfl)) (t_tup rfl (t_cons (t_name (pg_name hN rfl (.inl rfl) (.inl rfl))) (t_cons (t_name (pg_name hN rfl (.inl rfl) (.inl rfl))) t_nil)))) (r_seq (r_while (passes_of rfl) (r_tcmp (o_in (hub hr)) (f_in false) (r_var 1 (pv 1)) (r_var 3 (pv 3)) (by rfl)) (r_last (r_asg (r_ix (o_ix (hu1 hr)) f_ix (r_ix (o_ix (hu1 hr)) f_ix (r_var 0 (pv 0)) (r_var 2 (pv 2)) (fun _ _ => rfl)) (r_ix (o_ix (hu1 hr)) f_ix (r_var 3 (pv 3)) (r_var 1 (pv 1)) (fun _ _ => rfl)) (fun _ _ => rfl)) (t_tup rfl (t_cons (t_name (pg_name hN rfl (.inl rfl) (.inl rfl))) (t_cons (t_name (pg_name hN rfl (.inl rfl) (.inl rfl))) t_nil)))))) (r_last (r_ret (r_tup (r_acons (r_var 1 (pv 1)) (r_acons (r_var 2 (pv 2)) r_anil)))))))
/-! ### closed: 0 gate, 1 first, 2 second, 3 joint, 4 stay, 5 rows, 6 mark, 7 ends, 8 side, 9 end -/
def N_closed : List Str := ["gate", "first", "second", "joint", "stay", "rows", "mark", "ends", "side", "end"]
theorem sc_closed : FnScope N_closed ["gate", "first", "second"] (defScope (top 18)) := ⟨rfl, rfl, rfl, by decide +kernel, rfl, by decide +kernel, by decide +kernel⟩
def bs_closed_0 : Scope := ({ kind := PySem.ScopeKind.function, names := [(PySem.Str.ofString ".0", PySem.NameKind.local), (PySem.Str.ofString "side", PySem.NameKind.local), (PySem.Str.ofString "joint", PySem.NameKind.free)], isGenerator := false, isCoroutine := false, more := [] } : PySem.Scope)
def bs_closed_0r : Scope := ({ kind := PySem.ScopeKind.function, names := [(PySem.Str.ofString ".0", PySem.NameKind.local), (PySem.Str.ofString "side", PySem.NameKind.local), (PySem.Str.ofString "joint", PySem.NameKind.cell)], isGenerator := false, isCoroutine := false, more := [] } : PySem.Scope)
theorem blk_closed_0 : BlkOk N_closed (defScope (top 18)) bs_closed_0 [(PySem.Str.ofString "side", 8)] := ⟨rfl, by decide +kernel, by decide +kernel, by decide +kernel, by decide +kernel⟩
def bs_closed_1 : Scope := ({ kind := PySem.ScopeKind.function, names := [(PySem.Str.ofString ".0", PySem.NameKind.local), (PySem.Str.ofString "side", PySem.NameKind.local), (PySem.Str.ofString "led_through", PySem.NameKind.globalImplicit), (PySem.Str.ofString "gate", PySem.NameKind.free), (PySem.Str.ofString "joint", PySem.NameKind.free), (PySem.Str.ofString "mark", PySem.NameKind.free)], isGenerator := false, isCoroutine := false, more := [] } : PySem.Scope)
def bs_closed_1r : Scope := ({ kind := PySem.ScopeKind.function, names := [(PySem.Str.ofString ".0", PySem.NameKind.local), (PySem.Str.ofString "side", PySem.NameKind.local), (PySem.Str.ofString "led_through", PySem.NameKind.globalImplicit), (PySem.Str.ofString "gate", PySem.NameKind.cell), (PySem.Str.ofString "joint", PySem.NameKind.cell), (PySem.Str.ofString "mark", PySem.NameKind.cell)], isGenerator := false, isCoroutine := false, more := [] } : PySem.Scope)
theorem blk_closed_1 : BlkOk N_closed (defScope (top 18)) bs_closed_1 [(PySem.Str.ofString "side", 8)] := ⟨rfl, by decide +kernel, by decide +kernel, by decide +kernel, by decide +kernel⟩
def bs_closed_2 : Scope := ({ kind := PySem.ScopeKind.function, names := [(PySem.Str.ofString ".0", PySem.NameKind.local), (PySem.Str.ofString "side", PySem.NameKind.local), (PySem.Str.ofString "end", PySem.NameKind.local), (PySem.Str.ofString "stay", PySem.NameKind.free)], isGenerator := false, isCoroutine := false, more := [] } : PySem.Scope)
def bs_closed_2r : Scope := ({ kind := PySem.ScopeKind.function, names := [(PySem.Str.ofString ".0", PySem.NameKind.local), (PySem.Str.ofString "side", PySem.NameKind.local), (PySem.Str.ofString "end", PySem.NameKind.local), (PySem.Str.ofString "stay", PySem.NameKind.cell)], isGenerator := false, isCoroutine := false, more := [] } : PySem.Scope)
theorem blk_closed_2 : BlkOk N_closed (defScope (top 18)) bs_closed_2 [(PySem.Str.ofString "side", 8), (PySem.Str.ofString "end", 9)] := ⟨rfl, by decide +kernel, by decide +kernel, by decide +kernel, by decide +kernel⟩
theorem tie_closed {P : Program} {w : World} {K : PySem.W.Frag} {mg : Str → Option Value} {base : Heap} {cls : Nat → Value} {k : Nat} {m_need_side : DF} {m_sides_of : DF} {m_marks_of : DF} {m_led_through : DF} (B : Fr mg) (g : Ge K mg "closed" (top 18)) (h_need_side : Has P w K mg base cls k "need_side" ["gate", "side"] m_need_side) (h_sides_of : Has P w K mg base cls k "sides_of" ["gate"] m_sides_of) (h_marks_of : Has P w K mg base cls k "marks_of" ["gate"] m_marks_of) (h_led_through : Has P w K mg base cls k "led_through" ["gate", "side", "mark", "joint"] m_led_through) :
    Has P w K mg base cls (k + 1) "closed" ["gate", "first", "second"] (dDef 3 10 (den_closed m_need_side m_sides_of m_marks_of m_led_through)) := by
  have hN : N_closed.Nodup := sc_closed.nd
  refine Has.of (ps := ["gate", "first", "second"]) g sc_closed (fun _ _ _ _ _ _ us hl => match us, hl with | [_, _, _], _ => rfl) (fun cdv A outer s H E hr => ?_)
  exact (r_seq (r_expr (r_callH h_need_side hr rfl (takes_of rfl rfl rfl rfl) (r_acons (r_var 0 (pv 0)) (r_acons (r_var 1 (pv 1)) r_anil)))) (r_seq (r_expr (r_callH h_need_side hr rfl (takes_of rfl rfl rfl rfl) (r_acons (r_var 0 (pv 0)) (r_acons (r_var 2 (pv 2)) r_anil)))) (r_seq (r_if (r_tcmp (op_eqD (hu64 hr)) f_eq (r_var 1 (pv 1)) (r_var 2 (pv 2)) (by rfl)) (r_last r_bad) r_nil) (r_seq (r_if (r_tcmp (op_eqD (hu64 hr)) f_eq (r_callH h_sides_of hr rfl (takes_of rfl rfl rfl rfl) (r_acons (r_var 0 (pv 0)) r_anil)) r_int (by rfl)) (r_last r_bad) r_nil) (r_seq (r_set (i := 3) hN rfl (.inr rfl) (r_disp (.cons (r_var 1 (pv 1)) (r_var 2 (pv 2)) (.cons (r_var 2 (pv 2)) (r_var 1 (pv 1)) .nil)) (fun z => by cases z) (Nat.le_of_ble_eq_true rfl))) (r_seq (r_set (i := 4) hN rfl (.inr rfl) (r_lcV blk_closed_0 rfl hN (r_range1 rfl B.n_range (r_acons (r_callH h_sides_of hr rfl (takes_of rfl rfl rfl rfl) (r_acons (r_var 0 (pv 0)) r_anil)) r_anil)) (fun _ _ _ _ _ => (t_name (pg_name hN rfl (.inl rfl) (.inr rfl)))) (fun _ _ _ _ _ => (r_pts1 (r_tcmp (o_notin (hub hr)) (f_in true) (r_var 8 (pv 8)) (r_var 3 (pv 3)) (by rfl)))) (fun _ _ _ _ _ => (r_var 8 (pv 8))))) (r_seq (r_set (i := 5) hN rfl (.inl rfl) (r_lst r_anil)) (r_seq (r_for (passes_of rfl) rfl (r_range1 rfl B.n_range (r_acons (r_callH h_marks_of hr rfl (takes_of rfl rfl rfl rfl) (r_acons (r_var 0 (pv 0)) r_anil)) r_anil)) (t_name (pg_name hN rfl (.inr rfl) (.inl rfl))) (r_seq (r_setLcV (i := 7) blk_closed_1 rfl hN rfl rfl rfl (r_iter (r_var 4 (pv 4))) (fun _ _ _ _ _ => (t_name (pg_name hN rfl (.inl rfl) (.inr rfl)))) (fun _ _ _ _ _ => r_pts0) (fun _ _ _ _ _ => (r_callH h_led_through hr rfl tkW0 (r_acons (r_var 0 (pv 0)) (r_acons (r_var 8 (pv 8)) (r_acons (r_var 6 (pv 6)) (r_acons (r_var 3 (pv 3)) r_anil))))))) (r_last (r_expr (r_bm f_append PySem.F.plainAttrs_list PySem.F.slot_list_append PySem.F.type_list_append mt_append (r_var 5 (pv 5)) (r_acons (r_callTy call_tuple_of f_tuple rfl B.n_tuple (by decide +kernel) (r_acons (r_lcV blk_closed_2 rfl hN (r_iter (r_var 7 (pv 7))) (fun _ _ _ _ _ => (t_tup rfl (t_cons (t_name (pg_name hN rfl (.inl rfl) (.inr rfl))) (t_cons (t_name (pg_name hN rfl (.inl rfl) (.inr rfl))) t_nil)))) (fun _ _ _ _ _ => r_pts0) (fun _ _ _ _ _ => (r_tup (r_acons (r_bm f_index PySem.F.plainAttrs_list PySem.F.slot_list_index PySem.F.type_list_index (mt_indexD (hub hr)) (r_var 4 (pv 4)) (r_acons (r_var 8 (pv 8)) r_anil)) (r_acons (r_var 9 (pv 9)) r_anil))))) r_anil)) r_anil)))))) (r_last (r_ret (r_callTy call_tuple_of f_tuple rfl B.n_tuple (by decide +kernel) (r_acons (r_var 5 (pv 5)) r_anil))))))))))))
/-! ### _law_box: 0 _law_script, 1 _law_k, 2 _law_cell, 3 _law_seed -/
def N__law_box : List Str := ["_law_script", "_law_k", "_law_cell", "_law_seed"]
theorem sc__law_box : FnScope N__law_box ["_law_script", "_law_k"] (defScope (top 20)) := ⟨rfl, rfl, rfl, by decide +kernel, rfl, by decide +kernel, by decide +kernel⟩
theorem tie__law_box {P : Program} {w : World} {K : PySem.W.Frag} {mg : Str → Option Value} {base : Heap} {cls : Nat → Value} {k : Nat} (B : Fr mg) (g : Ge K mg "_law_box" (top 20)) :
    Has P w K mg base cls (k + 1) "_law_box" ["_law_script", "_law_k"] (dDef 2 4 (den__law_box)) := by
  have hN : N__law_box.Nodup := sc__law_box.nd
  refine Has.of (ps := ["_law_script", "_law_k"]) g sc__law_box (fun _ _ _ _ _ _ us hl => match us, hl with | [_, _], _ => rfl) (fun cdv A outer s H E hr => ?_)
  exact (r_seq (r_set (i := 2) hN rfl (.inl rfl) (r_op o_add f_add (r_op o_mul f_mul r_int (r_var 1 (pv 1))) r_int)) (r_seq (r_if (r_tcmp op_lt (f_cmp _) (r_var 1 (pv 1)) (r_callB c_len f_len rfl B.n_len (by decide +kernel) (r_acons (r_var 0 (pv 0)) r_anil)) (by rfl)) (r_last (r_set (i := 2) hN rfl (.inl rfl) (r_ix (o_ix (hu1 hr)) f_ix (r_var 0 (pv 0)) (r_var 1 (pv 1)) (fun _ _ => rfl)))) (r_last (r_if (r_tcmp op_gt (f_cmp _) (r_callB c_len f_len rfl B.n_len (by decide +kernel) (r_acons (r_var 0 (pv 0)) r_anil)) r_int (by rfl)) (r_last (r_set (i := 2) hN rfl (.inl rfl) (r_op o_add f_add (r_var 2 (pv 2)) (r_op o_mul f_mul (r_op op_mod f_mod (r_ix (o_ix (hu1 hr)) f_ix (r_var 0 (pv 0)) (r_op op_mod f_mod (r_var 1 (pv 1)) (r_callB c_len f_len rfl B.n_len (by decide +kernel) (r_acons (r_var 0 (pv 0)) r_anil))) (fun _ _ => rfl)) r_int) r_int)))) r_nil))) (r_seq (r_set (i := 3) hN rfl (.inl rfl) (r_op o_add f_add (r_op op_mod f_mod (r_op o_add f_add (r_op o_mul f_mul (r_op op_mod f_mod (r_var 2 (pv 2)) r_int) r_int) (r_op o_mul f_mul r_int (r_var 1 (pv 1)))) r_int) r_int)) (r_last (r_ret (r_lst (r_acons (r_ix (o_ix (hu1 hr)) f_ix (r_lst (r_acons r_int (r_acons (r_var 2 (pv 2)) r_anil))) (r_callTy call_int1 f_int rfl B.n_int (by decide +kernel) (r_acons (r_cmp op_ge (f_cmp _) (r_var 2 (pv 2)) (r_op op_pow f_pow r_int r_int) (by rfl)) r_anil)) (fun _ _ => rfl)) (r_acons (r_var 3 (pv 3)) (r_acons r_int r_anil)))))))))
/-! ### _law_take: 0 _law_box_here, 1 _law_many, 2 _law_digit, 3 _law_one -/
def N__law_take : List Str := ["_law_box_here", "_law_many", "_law_digit", "_law_one"]
theorem sc__law_take : FnScope N__law_take ["_law_box_here", "_law_many"] (defScope (top 21)) := ⟨rfl, rfl, rfl, by decide +kernel, rfl, by decide +kernel, by decide +kernel⟩
theorem tie__law_take {P : Program} {w : World} {K : PySem.W.Frag} {mg : Str → Option Value} {base : Heap} {cls : Nat → Value} {k : Nat} (B : Fr mg) (g : Ge K mg "_law_take" (top 21)) :
    Has P w K mg base cls (k + 1) "_law_take" ["_law_box_here", "_law_many"] (dDef 2 4 (den__law_take)) := by
  have hN : N__law_take.Nodup := sc__law_take.nd
  refine Has.of (ps := ["_law_box_here", "_law_many"]) g sc__law_take (fun _ _ _ _ _ _ us hl => match us, hl with | [_, _], _ => rfl) (fun cdv A outer s H E hr => ?_)
  exact (r_seq (r_if (r_tcmp op_gt (f_cmp _) (r_ix (o_ix (hu1 hr)) f_ix (r_var 0 (pv 0)) r_int (fun _ _ => rfl)) r_int (by rfl)) (r_seq (r_set (i := 2) hN rfl (.inl rfl) (r_op op_mod f_mod (r_ix (o_ix (hu1 hr)) f_ix (r_var 0 (pv 0)) r_int (fun _ _ => rfl)) (r_var 1 (pv 1)))) (r_seq (r_asg (r_op op_fdiv f_div (r_ix (o_ix (hu1 hr)) f_ix (r_var 0 (pv 0)) r_int (fun _ _ => rfl)) (r_var 1 (pv 1))) (t_sub (W := W0) (hu1 hr) (r_var 0 (pv 0)) r_int)) (r_last (r_ret (r_var 2 (pv 2)))))) r_nil) (r_seq (r_asg (r_op o_add f_add (r_ix (o_ix (hu1 hr)) f_ix (r_var 0 (pv 0)) r_int (fun _ _ => rfl)) r_int) (t_sub (W := W0) (hu1 hr) (r_var 0 (pv 0)) r_int)) (r_seq (r_set (i := 3) hN rfl (.inl rfl) (r_op op_mod f_mod (r_op o_mul f_mul (r_op o_add f_add (r_ix (o_ix (hu1 hr)) f_ix (r_var 0 (pv 0)) r_int (fun _ _ => rfl)) (r_op o_mul f_mul r_int (r_ix (o_ix (hu1 hr)) f_ix (r_var 0 (pv 0)) r_int (fun _ _ => rfl)))) r_int) r_int)) (r_seq (r_asg (r_op o_add f_add (r_op op_mod f_mod (r_op o_add f_add (r_op o_mul f_mul (r_var 3 (pv 3)) r_int) r_int) r_int) r_int) (t_sub (W := W0) (hu1 hr) (r_var 0 (pv 0)) r_int)) (r_last (r_ret (r_op op_mod f_mod (r_op op_fdiv f_div (r_op o_add f_add (r_op o_mul f_mul (r_var 3 (pv 3)) r_int) (r_ix (o_ix (hu1 hr)) f_ix (r_var 0 (pv 0)) r_int (fun _ _ => rfl))) r_int) (r_var 1 (pv 1)))))))))
/-! ### _law_any_gate: 0 _law_box_here, 1 _law_sides, 2 _law_marks, 3 _law_left, 4 _law_found, 5 _law_mark, 6 _law_side -/
def N__law_any_gate : List Str := ["_law_box_here", "_law_sides", "_law_marks", "_law_left", "_law_found", "_law_mark", "_law_side"]
theorem sc__law_any_gate : FnScope N__law_any_gate ["_law_box_here", "_law_sides", "_law_marks"] (defScope (top 22)) := ⟨rfl, rfl, rfl, by decide +kernel, rfl, by decide +kernel, by decide +kernel⟩
def bs__law_any_gate_0 : Scope := ({ kind := PySem.ScopeKind.function, names := [(PySem.Str.ofString ".0", PySem.NameKind.local), (PySem.Str.ofString "_law_side", PySem.NameKind.local), (PySem.Str.ofString "_law_mark", PySem.NameKind.free)], isGenerator := false, isCoroutine := false, more := [] } : PySem.Scope)
def bs__law_any_gate_0r : Scope := ({ kind := PySem.ScopeKind.function, names := [(PySem.Str.ofString ".0", PySem.NameKind.local), (PySem.Str.ofString "_law_side", PySem.NameKind.local), (PySem.Str.ofString "_law_mark", PySem.NameKind.cell)], isGenerator := false, isCoroutine := false, more := [] } : PySem.Scope)
theorem blk__law_any_gate_0 : BlkOk N__law_any_gate (defScope (top 22)) bs__law_any_gate_0 [(PySem.Str.ofString "_law_side", 6)] := ⟨rfl, by decide +kernel, by decide +kernel, by decide +kernel, by decide +kernel⟩
def bs__law_any_gate_1 : Scope := ({ kind := PySem.ScopeKind.function, names := [(PySem.Str.ofString ".0", PySem.NameKind.local), (PySem.Str.ofString "_law_mark", PySem.NameKind.local), (PySem.Str.ofString "tuple", PySem.NameKind.globalImplicit), (PySem.Str.ofString "_law_found", PySem.NameKind.free), (PySem.Str.ofString "_law_sides", PySem.NameKind.free)], isGenerator := false, isCoroutine := false, more := [] } : PySem.Scope)
def bs__law_any_gate_1r : Scope := ({ kind := PySem.ScopeKind.function, names := [(PySem.Str.ofString ".0", PySem.NameKind.local), (PySem.Str.ofString "_law_mark", PySem.NameKind.local), (PySem.Str.ofString "tuple", PySem.NameKind.globalImplicit), (PySem.Str.ofString "_law_found", PySem.NameKind.cell), (PySem.Str.ofString "_law_sides", PySem.NameKind.cell)], isGenerator := false, isCoroutine := false, more := [] } : PySem.Scope)
theorem blk__law_any_gate_1 : BlkOk N__law_any_gate (defScope (top 22)) bs__law_any_gate_1 [(PySem.Str.ofString "_law_mark", 5)] := ⟨rfl, by decide +kernel, by decide +kernel, by decide +kernel, by decide +kernel⟩
theorem tie__law_any_gate {P : Program} {w : World} {K : PySem.W.Frag} {mg : Str → Option Value} {base : Heap} {cls : Nat → Value} {k : Nat} {m__law_take : DF} (B : Fr mg) (g : Ge K mg "_law_any_gate" (top 22)) (h__law_take : Has P w K mg base cls k "_law_take" ["_law_box_here", "_law_many"] m__law_take) :
    Has P w K mg base cls (k + 1) "_law_any_gate" ["_law_box_here", "_law_sides", "_law_marks"] (dDef 3 7 (den__law_any_gate m__law_take)) := by
  have hN : N__law_any_gate.Nodup := sc__law_any_gate.nd
  refine Has.of (ps := ["_law_box_here", "_law_sides", "_law_marks"]) g sc__law_any_gate (fun _ _ _ _ _ _ us hl => match us, hl with | [_, _, _], _ => rfl) (fun cdv A outer s H E hr => ?_)
  exact (r_seq (r_asg (r_tup (r_acons (r_lst r_anil) (r_acons (r_lst r_anil) r_anil))) (t_tup rfl (t_cons (t_name (pg_name hN rfl (.inl rfl) (.inl rfl))) (t_cons (t_name (pg_name hN rfl (.inr rfl) (.inl rfl))) t_nil)))) (r_seq (r_for (passes_of rfl) rfl (r_range1 rfl B.n_range (r_acons (r_var 2 (pv 2)) r_anil)) (t_name (pg_name hN rfl (.inr rfl) (.inl rfl))) (r_last (r_expr (r_bm f_extend PySem.F.plainAttrs_list PySem.F.slot_list_extend PySem.F.type_list_extend mt_extend (r_var 3 (pv 3)) (r_acons (r_lcV blk__law_any_gate_0 rfl hN (r_range1 rfl B.n_range (r_acons (r_var 1 (pv 1)) r_anil)) (fun _ _ _ _ _ => (t_name (pg_name hN rfl (.inl rfl) (.inr rfl)))) (fun _ _ _ _ _ => r_pts0) (fun _ _ _ _ _ => (r_tup (r_acons (r_var 6 (pv 6)) (r_acons (r_var 5 (pv 5)) r_anil))))) r_anil))))) (r_seq (r_while (passes_of rfl) (r_tcmp (op_neD (hu64 hr)) f_ne (r_var 3 (pv 3)) (r_lst r_anil) (by rfl)) (r_last (r_expr (r_bm f_append PySem.F.plainAttrs_list PySem.F.slot_list_append PySem.F.type_list_append mt_append (r_var 4 (pv 4)) (r_acons (r_bm f_popAt PySem.F.plainAttrs_list PySem.F.slot_list_pop PySem.F.type_list_pop mt_popAt (r_var 3 (pv 3)) (r_acons (r_callH h__law_take hr rfl (takes_of rfl rfl rfl rfl) (r_acons (r_var 0 (pv 0)) (r_acons (r_callB c_len f_len rfl B.n_len (by decide +kernel) (r_acons (r_var 3 (pv 3)) r_anil)) r_anil))) r_anil)) r_anil))))) (r_last (r_ret (r_callTy call_tuple_of f_tuple rfl B.n_tuple (by decide +kernel) (r_acons (r_lcV blk__law_any_gate_1 rfl hN (r_range1 rfl B.n_range (r_acons (r_var 2 (pv 2)) r_anil)) (fun _ _ _ _ _ => (t_name (pg_name hN rfl (.inl rfl) (.inr rfl)))) (fun _ _ _ _ _ => r_pts0) (fun _ _ _ _ _ => (r_callTy call_tuple_of f_tuple rfl B.n_tuple (by decide +kernel) (r_acons (r_sl (r_var 4 (pv 4)) (r_part (r_op o_mul f_mul (r_var 5 (pv 5)) (r_var 1 (pv 1)))) (r_part (r_op o_add f_add (r_op o_mul f_mul (r_var 5 (pv 5)) (r_var 1 (pv 1))) (r_var 1 (pv 1))))) r_anil)))) r_anil)))))))
/-! ### _law_even_gate: 0 _law_box_here, 1 _law_sides, 2 _law_marks, 3 _law_on, 4 _law_more, 5 _law_alone, 6 _law_found, 7 _law_mark, 8 _law_row, 9 _law_side, 10 _law_shown -/
def N__law_even_gate : List Str := ["_law_box_here", "_law_sides", "_law_marks", "_law_on", "_law_more", "_law_alone", "_law_found", "_law_mark", "_law_row", "_law_side", "_law_shown"]
theorem sc__law_even_gate : FnScope N__law_even_gate ["_law_box_here", "_law_sides", "_law_marks"] (defScope (top 23)) := ⟨rfl, rfl, rfl, by decide +kernel, rfl, by decide +kernel, by decide +kernel⟩
theorem tie__law_even_gate {P : Program} {w : World} {K : PySem.W.Frag} {mg : Str → Option Value} {base : Heap} {cls : Nat → Value} {k : Nat} {m__law_take : DF} (B : Fr mg) (g : Ge K mg "_law_even_gate" (top 23)) (h__law_take : Has P w K mg base cls k "_law_take" ["_law_box_here", "_law_many"] m__law_take) :
    Has P w K mg base cls (k + 1) "_law_even_gate" ["_law_box_here", "_law_sides", "_law_marks"] (dDef 3 11 (den__law_even_gate m__law_take)) := by
  have hN : N__law_even_gate.Nodup := sc__law_even_gate.nd
  refine Has.of (ps := ["_law_box_here", "_law_sides", "_law_marks"]) g sc__law_even_gate (fun _ _ _ _ _ _ us hl => match us, hl with | [_, _, _], _ => rfl) (fun cdv A outer s H E hr => ?_)
  exact (r_seq (r_par3 (i := 3) (j := 4) (l := 5) rfl hN rfl rfl rfl (by decide) (by decide) (by decide) rfl rfl rfl (r_acons (r_callH h__law_take hr rfl (takes_of rfl rfl rfl rfl) (r_acons (r_var 0 (pv 0)) (r_acons (r_var 1 (pv 1)) r_anil))) (r_acons (r_callH h__law_take hr rfl (takes_of rfl rfl rfl rfl) (r_acons (r_var 0 (pv 0)) (r_acons (r_var 2 (pv 2)) r_anil))) (r_acons (r_callH h__law_take hr rfl (takes_of rfl rfl rfl rfl) (r_acons (r_var 0 (pv 0)) (r_acons (r_op o_add f_add (r_var 1 (pv 1)) r_int) r_anil))) r_anil))) (by rfl)) (r_seq (r_set (i := 6) hN rfl (.inl rfl) (r_lst r_anil)) (r_seq (r_for (passes_of rfl) rfl (r_range1 rfl B.n_range (r_acons (r_var 2 (pv 2)) r_anil)) (t_name (pg_name hN rfl (.inl rfl) (.inl rfl))) (r_seq (r_set (i := 8) hN rfl (.inl rfl) (r_lst r_anil)) (r_seq (r_for (passes_of rfl) rfl (r_range1 rfl B.n_range (r_acons (r_var 1 (pv 1)) r_anil)) (t_name (pg_name hN rfl (.inl rfl) (.inl rfl))) (r_seq (r_set (i := 10) hN rfl (.inl rfl) (r_op op_mod f_mod (r_op o_add f_add (r_var 7 (pv 7)) (r_ix (o_ix (hu1 hr)) f_ix (r_lst (r_acons (r_var 4 (pv 4)) (r_acons (r_callTy call_int1 f_int rfl B.n_int (by decide +kernel) (r_acons (r_cmp (op_eqD (hu64 hr)) f_eq (r_var 9 (pv 9)) (r_var 5 (pv 5)) (by rfl)) r_anil)) r_anil))) (r_callTy call_int1 f_int rfl B.n_int (by decide +kernel) (r_acons (r_cmp op_lt (f_cmp _) (r_var 5 (pv 5)) (r_var 1 (pv 1)) (by rfl)) r_anil)) (fun _ _ => rfl))) (r_var 2 (pv 2)))) (r_last (r_expr (r_bm f_append PySem.F.plainAttrs_list PySem.F.slot_list_append PySem.F.type_list_append mt_append (r_var 8 (pv 8)) (r_acons (r_tup (r_acons (r_op op_mod f_mod (r_op o_add f_add (r_op o_add f_add (r_var 9 (pv 9)) (r_var 10 (pv 10))) (r_var 3 (pv 3))) (r_var 1 (pv 1))) (r_acons (r_var 10 (pv 10)) r_anil))) r_anil)))))) (r_last (r_expr (r_bm f_append PySem.F.plainAttrs_list PySem.F.slot_list_append PySem.F.type_list_append mt_append (r_var 6 (pv 6)) (r_acons (r_callTy call_tuple_of f_tuple rfl B.n_tuple (by decide +kernel) (r_acons (r_var 8 (pv 8)) r_anil)) r_anil))))))) (r_last (r_ret (r_callTy call_tuple_of f_tuple rfl B.n_tuple (by decide +kernel) (r_acons (r_var 6 (pv 6)) r_anil)))))))
/-! ### _law_gate: 0 _law_box_here, 1 _law_sides, 2 _law_marks -/
def N__law_gate : List Str := ["_law_box_here", "_law_sides", "_law_marks"]
theorem sc__law_gate : FnScope N__law_gate ["_law_box_here", "_law_sides", "_law_marks"] (defScope (top 24)) := ⟨rfl, rfl, rfl, by decide +kernel, rfl, by decide +kernel, by decide +kernel⟩
theorem tie__law_gate {P : Program} {w : World} {K : PySem.W.Frag} {mg : Str → Option Value} {base : Heap} {cls : Nat → Value} {k : Nat} {m__law_take : DF} {m__law_even_gate : DF} {m__law_any_gate : DF} (B : Fr mg) (g : Ge K mg "_law_gate" (top 24)) (h__law_take : Has P w K mg base cls k "_law_take" ["_law_box_here", "_law_many"] m__law_take) (h__law_even_gate : Has P w K mg base cls k "_law_even_gate" ["_law_box_here", "_law_sides", "_law_marks"] m__law_even_gate) (h__law_any_gate : Has P w K mg base cls k "_law_any_gate" ["_law_box_here", "_law_sides", "_law_marks"] m__law_any_gate) :
    Has P w K mg base cls (k + 1) "_law_gate" ["_law_box_here", "_law_sides", "_law_marks"] (dDef 3 3 (den__law_gate m__law_take m__law_even_gate m__law_any_gate)) := by
  have hN : N__law_gate.Nodup := sc__law_gate.nd
  refine Has.of (ps := ["_law_box_here", "_law_sides", "_law_marks"]) g sc__law_gate (fun _ _ _ _ _ _ us hl => match us, hl with | [_, _, _], _ => rfl) (fun cdv A outer s H E hr => ?_)
  exact (r_seq (r_par (i := 1) (j := 2) rfl hN rfl rfl (by decide) rfl rfl (r_acons (r_op o_add f_add r_int (r_callH h__law_take hr rfl (takes_of rfl rfl rfl rfl) (r_acons (r_var 0 (pv 0)) (r_acons (r_var 1 (pv 1)) r_anil)))) (r_acons (r_op o_add f_add r_int (r_callH h__law_take hr rfl (takes_of rfl rfl rfl rfl) (r_acons (r_var 0 (pv 0)) (r_acons (r_var 2 (pv 2)) r_anil)))) r_anil)) (by rfl)) (r_seq (r_if (r_tcmp (op_eqD (hu64 hr)) f_eq (r_callH h__law_take hr rfl (takes_of rfl rfl rfl rfl) (r_acons (r_var 0 (pv 0)) (r_acons r_int r_anil))) r_int (by rfl)) (r_last (r_ret (r_callH h__law_even_gate hr rfl (takes_of rfl rfl rfl rfl) (r_acons (r_var 0 (pv 0)) (r_acons (r_var 1 (pv 1)) (r_acons (r_var 2 (pv 2)) r_anil)))))) r_nil) (r_last (r_ret (r_callH h__law_any_gate hr rfl (takes_of rfl rfl rfl rfl) (r_acons (r_var 0 (pv 0)) (r_acons (r_var 1 (pv 1)) (r_acons (r_var 2 (pv 2)) r_anil))))))))
/-! ### _law_pairs: 0 _law_box_here, 1 _law_sides, 2 _law_left, 3 _law_found, 4 _law_turn -/
def N__law_pairs : List Str := ["_law_box_here", "_law_sides", "_law_left", "_law_found", "_law_turn"]
theorem sc__law_pairs : FnScope N__law_pairs ["_law_box_here", "_law_sides"] (defScope (top 25)) := ⟨rfl, rfl, rfl, by decide +kernel, rfl, by decide +kernel, by decide +kernel⟩
theorem tie__law_pairs {P : Program} {w : World} {K : PySem.W.Frag} {mg : Str → Option Value} {base : Heap} {cls : Nat → Value} {k : Nat} {m__law_take : DF} (B : Fr mg) (g : Ge K mg "_law_pairs" (top 25)) (h__law_take : Has P w K mg base cls k "_law_take" ["_law_box_here", "_law_many"] m__law_take) :
    Has P w K mg base cls (k + 1) "_law_pairs" ["_law_box_here", "_law_sides"] (dDef 2 5 (den__law_pairs m__law_take)) := by
  have hN : N__law_pairs.Nodup := sc__law_pairs.nd
  refine Has.of (ps := ["_law_box_here", "_law_sides"]) g sc__law_pairs (fun _ _ _ _ _ _ us hl => match us, hl with | [_, _], _ => rfl) (fun cdv A outer s H E hr => ?_)
  exact (r_seq (r_par (i := 2) (j := 3) rfl hN rfl rfl (by decide) rfl rfl (r_acons (r_listRg rfl rfl B.n_list rfl B.n_range (r_var 1 (pv 1))) (r_acons (r_lst r_anil) r_anil)) (by rfl)) (r_seq (r_for (passes_of rfl) rfl (r_range1 rfl B.n_range (r_acons r_int r_anil)) (t_name (pg_name hN rfl (.inl rfl) (.inl rfl))) (r_last (r_expr (r_bm f_append PySem.F.plainAttrs_list PySem.F.slot_list_append PySem.F.type_list_append mt_append (r_var 3 (pv 3)) (r_acons (r_bm f_popAt PySem.F.plainAttrs_list PySem.F.slot_list_pop PySem.F.type_list_pop mt_popAt (r_var 2 (pv 2)) (r_acons (r_callH h__law_take hr rfl (takes_of rfl rfl rfl rfl) (r_acons (r_var 0 (pv 0)) (r_acons (r_callB c_len f_len rfl B.n_len (by decide +kernel) (r_acons (r_var 2 (pv 2)) r_anil)) r_anil))) r_anil)) r_anil))))) (r_last (r_ret (r_tup (r_acons (r_tup (r_acons (r_ix (o_ix (hu1 hr)) f_ix (r_var 3 (pv 3)) r_int (fun _ _ => rfl)) (r_acons (r_ix (o_ix (hu1 hr)) f_ix (r_var 3 (pv 3)) r_int (fun _ _ => rfl)) r_anil))) (r_acons (r_tup (r_acons (r_ix (o_ix (hu1 hr)) f_ix (r_var 3 (pv 3)) r_int (fun _ _ => rfl)) (r_acons (r_ix (o_ix (hu1 hr)) f_ix (r_var 3 (pv 3)) r_int (fun _ _ => rfl)) r_anil))) r_anil)))))))
/-! ### _law_behind: 0 _law_side, 1 _law_pair -/
def N__law_behind : List Str := ["_law_side", "_law_pair"]
theorem sc__law_behind : FnScope N__law_behind ["_law_side", "_law_pair"] (defScope (top 26)) := ⟨rfl, rfl, rfl, by decide +kernel, rfl, by decide +kernel, by decide +kernel⟩
theorem tie__law_behind {P : Program} {w : World} {K : PySem.W.Frag} {mg : Str → Option Value} {base : Heap} {cls : Nat → Value} {k : Nat} (B : Fr mg) (g : Ge K mg "_law_behind" (top 26)) :
    Has P w K mg base cls (k + 1) "_law_behind" ["_law_side", "_law_pair"] (dDef 2 2 (den__law_behind)) := by
  have hN : N__law_behind.Nodup := sc__law_behind.nd
  refine Has.of (ps := ["_law_side", "_law_pair"]) g sc__law_behind (fun _ _ _ _ _ _ us hl => match us, hl with | [_, _], _ => rfl) (fun cdv A outer s H E hr => ?_)
  exact (r_last (r_ret (r_op op_sub f_sub (r_op op_sub f_sub (r_var 0 (pv 0)) (r_callTy call_int1 f_int rfl B.n_int (by decide +kernel) (r_acons (r_cmp op_lt (f_cmp _) (r_ix (o_ix (hu1 hr)) f_ix (r_var 1 (pv 1)) r_int (fun _ _ => rfl)) (r_var 0 (pv 0)) (by rfl)) r_anil))) (r_callTy call_int1 f_int rfl B.n_int (by decide +kernel) (r_acons (r_cmp op_lt (f_cmp _) (r_ix (o_ix (hu1 hr)) f_ix (r_var 1 (pv 1)) r_int (fun _ _ => rfl)) (r_var 0 (pv 0)) (by rfl)) r_anil)))))
/-! ### _law_twice: 0 _law_gate_here, 1 _law_first, 2 _law_second, 3 _law_once -/
def N__law_twice : List Str := ["_law_gate_here", "_law_first", "_law_second", "_law_once"]
theorem sc__law_twice : FnScope N__law_twice ["_law_gate_here", "_law_first", "_law_second"] (defScope (top 27)) := ⟨rfl, rfl, rfl, by decide +kernel, rfl, by decide +kernel, by decide +kernel⟩
theorem tie__law_twice {P : Program} {w : World} {K : PySem.W.Frag} {mg : Str → Option Value} {base : Heap} {cls : Nat → Value} {k : Nat} {m_closed : DF} {m__law_behind : DF} (B : Fr mg) (g : Ge K mg "_law_twice" (top 27)) (h_closed : Has P w K mg base cls k "closed" ["gate", "first", "second"] m_closed) (h__law_behind : Has P w K mg base cls k "_law_behind" ["_law_side", "_law_pair"] m__law_behind) :
    Has P w K mg base cls (k + 1) "_law_twice" ["_law_gate_here", "_law_first", "_law_second"] (dDef 3 4 (den__law_twice m_closed m__law_behind)) := by
  have hN : N__law_twice.Nodup := sc__law_twice.nd
  refine Has.of (ps := ["_law_gate_here", "_law_first", "_law_second"]) g sc__law_twice (fun _ _ _ _ _ _ us hl => match us, hl with | [_, _, _], _ => rfl) (fun cdv A outer s H E hr => ?_)
  exact (r_seq (r_set (i := 3) hN rfl (.inl rfl) (r_callH h_closed hr rfl (takes_of rfl rfl rfl rfl) (r_acons (r_var 0 (pv 0)) (r_acons (r_ix (o_ix (hu1 hr)) f_ix (r_var 1 (pv 1)) r_int (fun _ _ => rfl)) (r_acons (r_ix (o_ix (hu1 hr)) f_ix (r_var 1 (pv 1)) r_int (fun _ _ => rfl)) r_anil))))) (r_last (r_ret (r_callH h_closed hr rfl (takes_of rfl rfl rfl rfl) (r_acons (r_var 3 (pv 3)) (r_acons (r_callH h__law_behind hr rfl (takes_of rfl rfl rfl rfl) (r_acons (r_ix (o_ix (hu1 hr)) f_ix (r_var 2 (pv 2)) r_int (fun _ _ => rfl)) (r_acons (r_var 1 (pv 1)) r_anil))) (r_acons (r_callH h__law_behind hr rfl (takes_of rfl rfl rfl rfl) (r_acons (r_ix (o_ix (hu1 hr)) f_ix (r_var 2 (pv 2)) r_int (fun _ _ => rfl)) (r_acons (r_var 1 (pv 1)) r_anil))) r_anil)))))))
/-! ### _law_row_right: 0 _law_box_here, 1 _law_gate_here, 2 _law_about, 3 _law_mark, 4 _law_rows, 5 _law_begun, 6 _law_turn, 7 _law_side, 8 _law_out, 9 _law_back -/
def N__law_row_right : List Str := ["_law_box_here", "_law_gate_here", "_law_about", "_law_mark", "_law_rows", "_law_begun", "_law_turn", "_law_side", "_law_out", "_law_back"]
theorem sc__law_row_right : FnScope N__law_row_right ["_law_box_here", "_law_gate_here"] (defScope (top 28)) := ⟨rfl, rfl, rfl, by decide +kernel, rfl, by decide +kernel, by decide +kernel⟩
theorem tie__law_row_right {P : Program} {w : World} {K : PySem.W.Frag} {mg : Str → Option Value} {base : Heap} {cls : Nat → Value} {k : Nat} {m__law_take : DF} {m_marks_of : DF} {m_turned_gate : DF} {m_sides_of : DF} {m_passed : DF} (B : Fr mg) (g : Ge K mg "_law_row_right" (top 28)) (h__law_take : Has P w K mg base cls k "_law_take" ["_law_box_here", "_law_many"] m__law_take) (h_marks_of : Has P w K mg base cls k "marks_of" ["gate"] m_marks_of) (h_turned_gate : Has P w K mg base cls k "turned_gate" ["gate"] m_turned_gate) (h_sides_of : Has P w K mg base cls k "sides_of" ["gate"] m_sides_of) (h_passed : Has P w K mg base cls k "passed" ["gate", "side", "mark"] m_passed) :
    Has P w K mg base cls (k + 1) "_law_row_right" ["_law_box_here", "_law_gate_here"] (dDef 2 10 (den__law_row_right m__law_take m_marks_of m_turned_gate m_sides_of m_passed)) := by
  have hN : N__law_row_right.Nodup := sc__law_row_right.nd
  refine Has.of (ps := ["_law_box_here", "_law_gate_here"]) g sc__law_row_right (fun _ _ _ _ _ _ us hl => match us, hl with | [_, _], _ => rfl) (fun cdv A outer s H E hr => ?_)
  exact (r_seq (r_par3 (i := 2) (j := 3) (l := 4) rfl hN rfl rfl rfl (by decide) (by decide) (by decide) rfl rfl rfl (r_acons (r_callH h_turned_gate hr rfl (takes_of rfl rfl rfl rfl) (r_acons (r_var 1 (pv 1)) r_anil)) (r_acons (r_callH h__law_take hr rfl (takes_of rfl rfl rfl rfl) (r_acons (r_var 0 (pv 0)) (r_acons (r_callH h_marks_of hr rfl (takes_of rfl rfl rfl rfl) (r_acons (r_var 1 (pv 1)) r_anil)) r_anil))) (r_acons (r_lst r_anil) r_anil))) (by rfl)) (r_seq (r_set (i := 5) hN rfl (.inl rfl) (r_var 3 (pv 3))) (r_seq (r_for (passes_of rfl) rfl (r_range1 rfl B.n_range (r_acons r_int r_anil)) (t_name (pg_name hN rfl (.inl rfl) (.inl rfl))) (r_seq (r_set (i := 7) hN rfl (.inl rfl) (r_callH h__law_take hr rfl (takes_of rfl rfl rfl rfl) (r_acons (r_var 0 (pv 0)) (r_acons (r_callH h_sides_of hr rfl (takes_of rfl rfl rfl rfl) (r_acons (r_var 1 (pv 1)) r_anil)) r_anil)))) (r_seq (r_asg (r_callH h_passed hr rfl (takes_of rfl rfl rfl rfl) (r_acons (r_var 1 (pv 1)) (r_acons (r_var 7 (pv 7)) (r_acons (r_var 3 (pv 3)) r_anil)))) (t_tup rfl (t_cons (t_name (pg_name hN rfl (.inl rfl) (.inl rfl))) (t_cons (t_name (pg_name hN rfl (.inl rfl) (.inl rfl))) t_nil)))) (r_last (r_expr (r_bm f_append PySem.F.plainAttrs_list PySem.F.slot_list_append PySem.F.type_list_append mt_append (r_var 4 (pv 4)) (r_acons (r_tup (r_acons (r_var 7 (pv 7)) (r_acons (r_var 8 (pv 8)) r_anil))) r_anil))))))) (r_seq (r_for (passes_of rfl) rfl (r_iter (r_rev (r_var 4 (pv 4)))) (t_tup rfl (t_cons (t_name (pg_name hN rfl (.inl rfl) (.inl rfl))) (t_cons (t_name (pg_name hN rfl (.inl rfl) (.inl rfl))) t_nil))) (r_seq (r_asg (r_callH h_passed hr rfl (takes_of rfl rfl rfl rfl) (r_acons (r_var 2 (pv 2)) (r_acons (r_var 8 (pv 8)) (r_acons (r_var 3 (pv 3)) r_anil)))) (t_tup rfl (t_cons (t_name (pg_name hN rfl (.inl rfl) (.inl rfl))) (t_cons (t_name (pg_name hN rfl (.inl rfl) (.inl rfl))) t_nil)))) (r_last (r_if (r_tcmp (op_neD (hu64 hr)) f_ne (r_var 9 (pv 9)) (r_var 7 (pv 7)) (by rfl)) (r_last (r_ret r_bl)) r_nil)))) (r_last (r_ret (r_cmp (op_eqD (hu64 hr)) f_eq (r_var 3 (pv 3)) (r_var 5 (pv 5)) (by rfl))))))))
/-! ### law: 0 _law_script, 1 _law_k, 2 _law_box_here, 3 _law_sides, 4 _law_more, 5 _law_gate_here, 6 _law_small, 7 _law_first, 8 _law_second, 9 _law_both, 10 _law_once, 11 _law_ahead -/
def N_law : List Str := ["_law_script", "_law_k", "_law_box_here", "_law_sides", "_law_more", "_law_gate_here", "_law_small", "_law_first", "_law_second", "_law_both", "_law_once", "_law_ahead"]
theorem sc_law : FnScope N_law ["_law_script"] (defScope (top 29)) := ⟨rfl, rfl, rfl, by decide +kernel, rfl, by decide +kernel, by decide +kernel⟩
theorem tie_law {P : Program} {w : World} {K : PySem.W.Frag} {mg : Str → Option Value} {base : Heap} {cls : Nat → Value} {k : Nat} {m__law_box : DF} {m__law_gate : DF} {m__law_take : DF} {m__law_any_gate : DF} {m_beside : DF} {m__law_even_gate : DF} {m__law_pairs : DF} {m__law_twice : DF} {m_look_gate : DF} {m_closed : DF} {m_turned_gate : DF} {m_sides_of : DF} {m__law_row_right : DF} (B : Fr mg) {f : Addr} {fd : FuncData} (F : FunD K "law" "law" (defArgs (top 29)) (defBody (top 29)) (defScope (top 29)) [] [] f fd) (h__law_box : Has P w K mg base cls k "_law_box" ["_law_script", "_law_k"] m__law_box) (h__law_gate : Has P w K mg base cls k "_law_gate" ["_law_box_here", "_law_sides", "_law_marks"] m__law_gate) (h__law_take : Has P w K mg base cls k "_law_take" ["_law_box_here", "_law_many"] m__law_take) (h__law_any_gate : Has P w K mg base cls k "_law_any_gate" ["_law_box_here", "_law_sides", "_law_marks"] m__law_any_gate) (h_beside : Has P w K mg base cls k "beside" ["one", "other"] m_beside) (h__law_even_gate : Has P w K mg base cls k "_law_even_gate" ["_law_box_here", "_law_sides", "_law_marks"] m__law_even_gate) (h__law_pairs : Has P w K mg base cls k "_law_pairs" ["_law_box_here", "_law_sides"] m__law_pairs) (h__law_twice : Has P w K mg base cls k "_law_twice" ["_law_gate_here", "_law_first", "_law_second"] m__law_twice) (h_look_gate : Has P w K mg base cls k "look_gate" ["gate"] m_look_gate) (h_closed : Has P w K mg base cls k "closed" ["gate", "first", "second"] m_closed) (h_turned_gate : Has P w K mg base cls k "turned_gate" ["gate"] m_turned_gate) (h_sides_of : Has P w K mg base cls k "sides_of" ["gate"] m_sides_of) (h__law_row_right : Has P w K mg base cls k "_law_row_right" ["_law_box_here", "_law_gate_here"] m__law_row_right) :
    FnG P w K mg base (L2.CX P w) (k + 1) f fd ["_law_script"] (sF ⟨K, cls, none⟩ (dDef 1 12 (den_law m__law_box m__law_gate m__law_take m__law_any_gate m_beside m__law_even_gate m__law_pairs m__law_twice m_look_gate m_closed m_turned_gate m_sides_of m__law_row_right))) := by
  have hN : N_law.Nodup := sc_law.nd
  refine GeG F sc_law (fun cdv A outer s H E hgd hr => ?_)
  exact (r_seq (r_for (passes_of rfl) rfl (r_range1 rfl B.n_range (r_acons (r_callB (call_max2 rfl) f_max rfl B.n_max (by decide +kernel) (r_acons r_int (r_acons (r_callB (call_min2 rfl) f_min rfl B.n_min (by decide +kernel) (r_acons r_int (r_acons (r_callB c_len f_len rfl B.n_len (by decide +kernel) (r_acons (r_var 0 (pv 0)) r_anil)) r_anil))) r_anil))) r_anil)) (t_name (pg_name hN rfl (.inl rfl) (.inl rfl))) (r_seq (r_set (i := 2) hN rfl (.inl rfl) (r_callH h__law_box hr rfl (takes_of rfl rfl rfl rfl) (r_acons (r_var 0 (pv 0)) (r_acons (r_var 1 (pv 1)) r_anil)))) (r_seq (r_par (i := 3) (j := 4) rfl hN rfl rfl (by decide) rfl rfl (r_acons (r_op o_add f_add r_int (r_callH h__law_take hr rfl (takes_of rfl rfl rfl rfl) (r_acons (r_var 2 (pv 2)) (r_acons r_int r_anil)))) (r_acons (r_callH h__law_gate hr rfl (takes_of rfl rfl rfl rfl) (r_acons (r_var 2 (pv 2)) (r_acons r_int (r_acons r_int r_anil)))) r_anil)) (by rfl)) (r_seq (r_set (i := 5) hN rfl (.inl rfl) (r_callH h__law_any_gate hr rfl (takes_of rfl rfl rfl rfl) (r_acons (r_var 2 (pv 2)) (r_acons (r_var 3 (pv 3)) (r_acons (r_op o_add f_add r_int (r_callH h__law_take hr rfl (takes_of rfl rfl rfl rfl) (r_acons (r_var 2 (pv 2)) (r_acons r_int r_anil)))) r_anil))))) (r_seq (r_if (r_tcmp (op_eqD (hu64 hr)) f_eq (r_callH h__law_take hr rfl (takes_of rfl rfl rfl rfl) (r_acons (r_var 2 (pv 2)) (r_acons r_int r_anil))) r_int (by rfl)) (r_seq (r_set (i := 6) hN rfl (.inl rfl) (r_callH h__law_any_gate hr rfl (takes_of rfl rfl rfl rfl) (r_acons (r_var 2 (pv 2)) (r_acons (r_op op_sub f_sub (r_var 3 (pv 3)) r_int) (r_acons (r_op o_add f_add r_int (r_callH h__law_take hr rfl (takes_of rfl rfl rfl rfl) (r_acons (r_var 2 (pv 2)) (r_acons r_int r_anil)))) r_anil))))) (r_last (r_set (i := 5) hN rfl (.inl rfl) (r_callH h_beside hr rfl (takes_of rfl rfl rfl rfl) (r_acons (r_callH h__law_any_gate hr rfl (takes_of rfl rfl rfl rfl) (r_acons (r_var 2 (pv 2)) (r_acons r_int (r_acons (r_op o_add f_add r_int (r_callH h__law_take hr rfl (takes_of rfl rfl rfl rfl) (r_acons (r_var 2 (pv 2)) (r_acons r_int r_anil)))) r_anil)))) (r_acons (r_var 6 (pv 6)) r_anil)))))) (r_last (r_if (r_tcmp (op_eqD (hu64 hr)) f_eq (r_callH h__law_take hr rfl (takes_of rfl rfl rfl rfl) (r_acons (r_var 2 (pv 2)) (r_acons r_int r_anil))) r_int (by rfl)) (r_last (r_set (i := 5) hN rfl (.inl rfl) (r_callH h__law_even_gate hr rfl (takes_of rfl rfl rfl rfl) (r_acons (r_var 2 (pv 2)) (r_acons (r_var 3 (pv 3)) (r_acons (r_op o_add f_add r_int (r_callH h__law_take hr rfl (takes_of rfl rfl rfl rfl) (r_acons (r_var 2 (pv 2)) (r_acons r_int r_anil)))) r_anil)))))) r_nil))) (r_seq (r_asg (r_callH h__law_pairs hr rfl (takes_of rfl rfl rfl rfl) (r_acons (r_var 2 (pv 2)) (r_acons (r_var 3 (pv 3)) r_anil))) (t_tup rfl (t_cons (t_name (pg_name hN rfl (.inl rfl) (.inl rfl))) (t_cons (t_name (pg_name hN rfl (.inl rfl) (.inl rfl))) t_nil)))) (r_seq (r_set (i := 9) hN rfl (.inl rfl) (r_callH h__law_twice hr rfl (takes_of rfl rfl rfl rfl) (r_acons (r_var 5 (pv 5)) (r_acons (r_var 7 (pv 7)) (r_acons (r_var 8 (pv 8)) r_anil))))) (r_seq (r_if (L2.PW.pt (r_wor (r_tcmp (op_neD (hu64 hr)) f_ne (r_callH h__law_twice hr rfl (takes_of rfl rfl rfl rfl) (r_acons (r_var 5 (pv 5)) (r_acons (r_var 8 (pv 8)) (r_acons (r_var 7 (pv 7)) r_anil)))) (r_var 9 (pv 9)) (by rfl)) (r_wor1 (r_tcmp o_isnot f_isnot (r_callH h_look_gate hr rfl (takes_of rfl rfl rfl rfl) (r_acons (r_var 9 (pv 9)) r_anil)) r_bl (by rfl))))) (r_last (r_ret r_bl)) r_nil) (r_seq (r_set (i := 10) hN rfl (.inl rfl) (r_callH h_closed hr rfl (takes_of rfl rfl rfl rfl) (r_acons (r_var 5 (pv 5)) (r_acons (r_ix (o_ix (hu1 hr)) f_ix (r_var 7 (pv 7)) r_int (fun _ _ => rfl)) (r_acons (r_ix (o_ix (hu1 hr)) f_ix (r_var 7 (pv 7)) r_int (fun _ _ => rfl)) r_anil))))) (r_seq (r_if (r_tcmp (op_neD (hu64 hr)) f_ne (r_callH h_closed hr rfl (takes_of rfl rfl rfl rfl) (r_acons (r_callH h_turned_gate hr rfl (takes_of rfl rfl rfl rfl) (r_acons (r_var 5 (pv 5)) r_anil)) (r_acons (r_ix (o_ix (hu1 hr)) f_ix (r_var 7 (pv 7)) r_int (fun _ _ => rfl)) (r_acons (r_ix (o_ix (hu1 hr)) f_ix (r_var 7 (pv 7)) r_int (fun _ _ => rfl)) r_anil)))) (r_callH h_turned_gate hr rfl (takes_of rfl rfl rfl rfl) (r_acons (r_var 10 (pv 10)) r_anil)) (by rfl)) (r_last (r_ret r_bl)) r_nil) (r_seq (r_if (r_tcmp (op_neD (hu64 hr)) f_ne (r_callH h_closed hr rfl (takes_of rfl rfl rfl rfl) (r_acons (r_callH h_beside hr rfl (takes_of rfl rfl rfl rfl) (r_acons (r_var 5 (pv 5)) (r_acons (r_var 4 (pv 4)) r_anil))) (r_acons (r_ix (o_ix (hu1 hr)) f_ix (r_var 7 (pv 7)) r_int (fun _ _ => rfl)) (r_acons (r_ix (o_ix (hu1 hr)) f_ix (r_var 7 (pv 7)) r_int (fun _ _ => rfl)) r_anil)))) (r_callH h_beside hr rfl (takes_of rfl rfl rfl rfl) (r_acons (r_var 10 (pv 10)) (r_acons (r_var 4 (pv 4)) r_anil))) (by rfl)) (r_last (r_ret r_bl)) r_nil) (r_seq (r_set (i := 11) hN rfl (.inl rfl) (r_callH h_sides_of hr rfl (takes_of rfl rfl rfl rfl) (r_acons (r_var 4 (pv 4)) r_anil))) (r_seq (r_if (r_tcmp (op_neD (hu64 hr)) f_ne (r_callH h_closed hr rfl (takes_of rfl rfl rfl rfl) (r_acons (r_callH h_beside hr rfl (takes_of rfl rfl rfl rfl) (r_acons (r_var 4 (pv 4)) (r_acons (r_var 5 (pv 5)) r_anil))) (r_acons (r_op o_add f_add (r_var 11 (pv 11)) (r_ix (o_ix (hu1 hr)) f_ix (r_var 7 (pv 7)) r_int (fun _ _ => rfl))) (r_acons (r_op o_add f_add (r_var 11 (pv 11)) (r_ix (o_ix (hu1 hr)) f_ix (r_var 7 (pv 7)) r_int (fun _ _ => rfl))) r_anil)))) (r_callH h_beside hr rfl (takes_of rfl rfl rfl rfl) (r_acons (r_var 4 (pv 4)) (r_acons (r_var 10 (pv 10)) r_anil))) (by rfl)) (r_last (r_ret r_bl)) r_nil) (r_last (r_if (L2.PW.pt (r_wor (r_tnot (r_test (r_callH h__law_row_right hr rfl (takes_of rfl rfl rfl rfl) (r_acons (r_var 2 (pv 2)) (r_acons (r_var 10 (pv 10)) r_anil))))) (r_wor1 (r_tnot (r_test (r_callH h__law_row_right hr rfl (takes_of rfl rfl rfl rfl) (r_acons (r_var 2 (pv 2)) (r_acons (r_var 5 (pv 5)) r_anil)))))))) (r_last (r_ret r_bl)) r_nil))))))))))))))) (r_last (r_ret r_bl)))
end K06
set_option Elab.async false
set_option linter.all false
set_option maxRecDepth 100000
set_option maxHeartbeats 4000000
namespace K06
open PySem PySem.Spec PyProof.Rows L2 Dn
def d_is_whole : He.DefD := ⟨("is_whole", none), "is_whole", "is_whole", defArgs (top 6), defBody (top 6), defScope (top 6), [], []⟩
def d_is_pair : He.DefD := ⟨("is_pair", none), "is_pair", "is_pair", defArgs (top 7), defBody (top 7), defScope (top 7), [], []⟩
def d_has_form : He.DefD := ⟨("has_form", none), "has_form", "has_form", defArgs (top 8), defBody (top 8), defScope (top 8), [], []⟩
def d_look_gate : He.DefD := ⟨("look_gate", none), "look_gate", "look_gate", defArgs (top 9), defBody (top 9), defScope (top 9), [], []⟩
def d_sides_of : He.DefD := ⟨("sides_of", none), "sides_of", "sides_of", defArgs (top 10), defBody (top 10), defScope (top 10), [], []⟩
def d_marks_of : He.DefD := ⟨("marks_of", none), "marks_of", "marks_of", defArgs (top 11), defBody (top 11), defScope (top 11), [], []⟩
def d_need_side : He.DefD := ⟨("need_side", none), "need_side", "need_side", defArgs (top 12), defBody (top 12), defScope (top 12), [], []⟩
def d_need_mark : He.DefD := ⟨("need_mark", none), "need_mark", "need_mark", defArgs (top 13), defBody (top 13), defScope (top 13), [], []⟩
def d_passed : He.DefD := ⟨("passed", none), "passed", "passed", defArgs (top 14), defBody (top 14), defScope (top 14), [], []⟩
def d_turned_gate : He.DefD := ⟨("turned_gate", none), "turned_gate", "turned_gate", defArgs (top 15), defBody (top 15), defScope (top 15), [], []⟩
def d_beside : He.DefD := ⟨("beside", none), "beside", "beside", defArgs (top 16), defBody (top 16), defScope (top 16), [], []⟩
def d_led_through : He.DefD := ⟨("led_through", none), "led_through", "led_through", defArgs (top 17), defBody (top 17), defScope (top 17), [], []⟩
def d_closed : He.DefD := ⟨("closed", none), "closed", "closed", defArgs (top 18), defBody (top 18), defScope (top 18), [], []⟩
def d__law_box : He.DefD := ⟨("_law_box", none), "_law_box", "_law_box", defArgs (top 20), defBody (top 20), defScope (top 20), [], []⟩
def d__law_take : He.DefD := ⟨("_law_take", none), "_law_take", "_law_take", defArgs (top 21), defBody (top 21), defScope (top 21), [], []⟩
def d__law_any_gate : He.DefD := ⟨("_law_any_gate", none), "_law_any_gate", "_law_any_gate", defArgs (top 22), defBody (top 22), defScope (top 22), [], []⟩
def d__law_even_gate : He.DefD := ⟨("_law_even_gate", none), "_law_even_gate", "_law_even_gate", defArgs (top 23), defBody (top 23), defScope (top 23), [], []⟩
def d__law_gate : He.DefD := ⟨("_law_gate", none), "_law_gate", "_law_gate", defArgs (top 24), defBody (top 24), defScope (top 24), [], []⟩
def d__law_pairs : He.DefD := ⟨("_law_pairs", none), "_law_pairs", "_law_pairs", defArgs (top 25), defBody (top 25), defScope (top 25), [], []⟩
def d__law_behind : He.DefD := ⟨("_law_behind", none), "_law_behind", "_law_behind", defArgs (top 26), defBody (top 26), defScope (top 26), [], []⟩
def d__law_twice : He.DefD := ⟨("_law_twice", none), "_law_twice", "_law_twice", defArgs (top 27), defBody (top 27), defScope (top 27), [], []⟩
def d__law_row_right : He.DefD := ⟨("_law_row_right", none), "_law_row_right", "_law_row_right", defArgs (top 28), defBody (top 28), defScope (top 28), [], []⟩
def d_law : He.DefD := ⟨("law", none), "law", "law", defArgs (top 29), defBody (top 29), defScope (top 29), [], []⟩
def fn : List He.DefD := [d_is_whole, d_is_pair, d_has_form, d_look_gate, d_sides_of, d_marks_of, d_need_side, d_need_mark, d_passed, d_turned_gate, d_beside, d_led_through, d_closed, d__law_box, d__law_take, d__law_any_gate, d__law_even_gate, d__law_gate, d__law_pairs, d__law_behind, d__law_twice, d__law_row_right, d_law]
def fa : List He.Fa := [.glo "is_whole", .glo "is_pair", .glo "has_form", .glo "look_gate", .glo "sides_of", .glo "marks_of", .glo "need_side", .glo "need_mark", .glo "passed", .glo "turned_gate", .glo "beside", .glo "led_through", .glo "closed", .glo "_law_box", .glo "_law_take", .glo "_law_any_gate", .glo "_law_even_gate", .glo "_law_gate", .glo "_law_pairs", .glo "_law_behind", .glo "_law_twice", .glo "_law_row_right", .glo "law", .free "all", .free "bool", .free "enumerate", .free "int", .free "isinstance", .free "len", .free "list", .free "max", .free "min", .free "range", .free "tuple"]
theorem facts {P : Program} {w : World} {K : PySem.W.Frag} {h : Heap} {mg : Str → Option Value} {f : Addr} (X : K.In h) (G : h.Ns mainGlobals mg) (hfa : mg ("law" : Str) = some (.ref f)) (c : He.SaysD fa fn K) (cls : Nat → Value) :
    ∃ fd : FuncData, (∀ (s : Shared) (v : Value), BindsTo s fd ⟨[v], []⟩ [("_law_script", v)]) ∧ ∀ base : Heap, K.In base → base.Ns mainGlobals mg → FnG P w K mg base (L2.CX P w) 5 f fd ["_law_script"] (sF ⟨K, cls, none⟩ (dDef 1 12 Pc.dLaw06)) := by
  have B : Fr mg := ⟨He.free_ok X G (c.fact 23 (f := .free "all") rfl), He.free_ok X G (c.fact 24 (f := .free "bool") rfl), He.free_ok X G (c.fact 25 (f := .free "enumerate") rfl), He.free_ok X G (c.fact 26 (f := .free "int") rfl), He.free_ok X G (c.fact 27 (f := .free "isinstance") rfl), He.free_ok X G (c.fact 28 (f := .free "len") rfl), He.free_ok X G (c.fact 29 (f := .free "list") rfl), He.free_ok X G (c.fact 30 (f := .free "max") rfl), He.free_ok X G (c.fact 31 (f := .free "min") rfl), He.free_ok X G (c.fact 32 (f := .free "range") rfl), He.free_ok X G (c.fact 33 (f := .free "tuple") rfl)⟩
  have g_is_whole : Ge K mg "is_whole" (top 6) := ⟨c.def_ 0 (d := d_is_whole) rfl, He.glo_ok X G (c.fact 0 (f := .glo "is_whole") rfl)⟩
  have g_is_pair : Ge K mg "is_pair" (top 7) := ⟨c.def_ 1 (d := d_is_pair) rfl, He.glo_ok X G (c.fact 1 (f := .glo "is_pair") rfl)⟩
  have g_has_form : Ge K mg "has_form" (top 8) := ⟨c.def_ 2 (d := d_has_form) rfl, He.glo_ok X G (c.fact 2 (f := .glo "has_form") rfl)⟩
  have g_look_gate : Ge K mg "look_gate" (top 9) := ⟨c.def_ 3 (d := d_look_gate) rfl, He.glo_ok X G (c.fact 3 (f := .glo "look_gate") rfl)⟩
  have g_sides_of : Ge K mg "sides_of" (top 10) := ⟨c.def_ 4 (d := d_sides_of) rfl, He.glo_ok X G (c.fact 4 (f := .glo "sides_of") rfl)⟩
  have g_marks_of : Ge K mg "marks_of" (top 11) := ⟨c.def_ 5 (d := d_marks_of) rfl, He.glo_ok X G (c.fact 5 (f := .glo "marks_of") rfl)⟩
  have g_need_side : Ge K mg "need_side" (top 12) := ⟨c.def_ 6 (d := d_need_side) rfl, He.glo_ok X G (c.fact 6 (f := .glo "need_side") rfl)⟩
  have g_need_mark : Ge K mg "need_mark" (top 13) := ⟨c.def_ 7 (d := d_need_mark) rfl, He.glo_ok X G (c.fact 7 (f := .glo "need_mark") rfl)⟩
  have g_passed : Ge K mg "passed" (top 14) := ⟨c.def_ 8 (d := d_passed) rfl, He.glo_ok X G (c.fact 8 (f := .glo "passed") rfl)⟩
  have g_turned_gate : Ge K mg "turned_gate" (top 15) := ⟨c.def_ 9 (d := d_turned_gate) rfl, He.glo_ok X G (c.fact 9 (f := .glo "turned_gate") rfl)⟩
  have g_beside : Ge K mg "beside" (top 16) := ⟨c.def_ 10 (d := d_beside) rfl, He.glo_ok X G (c.fact 10 (f := .glo "beside") rfl)⟩
  have g_led_through : Ge K mg "led_through" (top 17) := ⟨c.def_ 11 (d := d_led_through) rfl, He.glo_ok X G (c.fact 11 (f := .glo "led_through") rfl)⟩
  have g_closed : Ge K mg "closed" (top 18) := ⟨c.def_ 12 (d := d_closed) rfl, He.glo_ok X G (c.fact 12 (f := .glo "closed") rfl)⟩
  have g__law_box : Ge K mg "_law_box" (top 20) := ⟨c.def_ 13 (d := d__law_box) rfl, He.glo_ok X G (c.fact 13 (f := .glo "_law_box") rfl)⟩
  have g__law_take : Ge K mg "_law_take" (top 21) := ⟨c.def_ 14 (d := d__law_take) rfl, He.glo_ok X G (c.fact 14 (f := .glo "_law_take") rfl)⟩
  have g__law_any_gate : Ge K mg "_law_any_gate" (top 22) := ⟨c.def_ 15 (d := d__law_any_gate) rfl, He.glo_ok X G (c.fact 15 (f := .glo "_law_any_gate") rfl)⟩
  have g__law_even_gate : Ge K mg "_law_even_gate" (top 23) := ⟨c.def_ 16 (d := d__law_even_gate) rfl, He.glo_ok X G (c.fact 16 (f := .glo "_law_even_gate") rfl)⟩
  have g__law_gate : Ge K mg "_law_gate" (top 24) := ⟨c.def_ 17 (d := d__law_gate) rfl, He.glo_ok X G (c.fact 17 (f := .glo "_law_gate") rfl)⟩
  have g__law_pairs : Ge K mg "_law_pairs" (top 25) := ⟨c.def_ 18 (d := d__law_pairs) rfl, He.glo_ok X G (c.fact 18 (f := .glo "_law_pairs") rfl)⟩
  have g__law_behind : Ge K mg "_law_behind" (top 26) := ⟨c.def_ 19 (d := d__law_behind) rfl, He.glo_ok X G (c.fact 19 (f := .glo "_law_behind") rfl)⟩
  have g__law_twice : Ge K mg "_law_twice" (top 27) := ⟨c.def_ 20 (d := d__law_twice) rfl, He.glo_ok X G (c.fact 20 (f := .glo "_law_twice") rfl)⟩
  have g__law_row_right : Ge K mg "_law_row_right" (top 28) := ⟨c.def_ 21 (d := d__law_row_right) rfl, He.glo_ok X G (c.fact 21 (f := .glo "_law_row_right") rfl)⟩
  obtain ⟨fd, F⟩ := c.def_ 22 (d := d_law) rfl
  have e := hfa.symm.trans (He.glo_ok X G (c.fact 22 (f := .glo "law") rfl))
  cases e
  have b := FunD.bindsA (ps := ["_law_script"]) F fun _ _ _ _ _ _ us hl => match us, hl with | [_], _ => rfl
  refine ⟨fd, fun s v => b s [v] rfl, fun base _ _ => ?_⟩
  have h_is_whole : Has P w K mg base cls 1 "is_whole" ["thing"] Pn.FWhole := (tie_is_whole (P := P) (w := w) (base := base) (cls := cls) (k := 0) B g_is_whole ).trim fun xs st hw _ => Pn.trimF_tr _ xs st hw
  have h_is_pair : Has P w K mg base cls 2 "is_pair" ["thing"] Pn.FPair := (tie_is_pair (P := P) (w := w) (base := base) (cls := cls) (k := 1) B g_is_pair (h_is_whole.mono (by decide))).trim fun xs st hw _ => Pn.trimF_tr _ xs st hw
  have h_has_form : Has P w K mg base cls 3 "has_form" ["thing"] Pn.FForm := (tie_has_form (P := P) (w := w) (base := base) (cls := cls) (k := 2) B g_has_form (h_is_pair.mono (by decide))).trim fun xs st hw _ => Pn.trimF_tr _ xs st hw
  have h_look_gate : Has P w K mg base cls 4 "look_gate" ["gate"] Pn.FLook := (tie_look_gate (P := P) (w := w) (base := base) (cls := cls) (k := 3) B g_look_gate (h_has_form.mono (by decide))).trim fun xs st hw _ => Pn.trimF_tr _ xs st hw
  have h_sides_of : Has P w K mg base cls 1 "sides_of" ["gate"] Pn.FSides := (tie_sides_of (P := P) (w := w) (base := base) (cls := cls) (k := 0) B g_sides_of ).trim fun xs st hw _ => Pn.trimF_tr _ xs st hw
  have h_marks_of : Has P w K mg base cls 1 "marks_of" ["gate"] Pn.FMarks := (tie_marks_of (P := P) (w := w) (base := base) (cls := cls) (k := 0) B g_marks_of ).trim fun xs st hw _ => Pn.trimF_tr _ xs st hw
  have h_need_side : Has P w K mg base cls 2 "need_side" ["gate", "side"] (Pc.FNeedS dBad) := (tie_need_side (P := P) (w := w) (base := base) (cls := cls) (k := 1) B g_need_side (h_sides_of.mono (by decide))).trim fun xs st hw _ => Pn.trimF_tr _ xs st hw
  have h_need_mark : Has P w K mg base cls 2 "need_mark" ["gate", "mark"] (Pc.FNeedM dBad) := (tie_need_mark (P := P) (w := w) (base := base) (cls := cls) (k := 1) B g_need_mark (h_marks_of.mono (by decide))).trim fun xs st hw _ => Pn.trimF_tr _ xs st hw
  have h_passed : Has P w K mg base cls 3 "passed" ["gate", "side", "mark"] (Pc.FPassed dBad dBad) := (tie_passed (P := P) (w := w) (base := base) (cls := cls) (k := 2) B g_passed (h_need_side.mono (by decide)) (h_need_mark.mono (by decide))).trim fun xs st hw _ => Pn.trimF_tr _ xs st hw
  have h_turned_gate : Has P w K mg base cls 2 "turned_gate" ["gate"] Pn.FTurned := (tie_turned_gate (P := P) (w := w) (base := base) (cls := cls) (k := 1) B g_turned_gate (h_marks_of.mono (by decide)) (h_sides_of.mono (by decide))).trim fun xs st hw _ => Pn.trimF_tr _ xs st hw
  have h_beside : Has P w K mg base cls 2 "beside" ["one", "other"] Pn.FBeside := (tie_beside (P := P) (w := w) (base := base) (cls := cls) (k := 1) B g_beside (h_sides_of.mono (by decide)) (h_marks_of.mono (by decide))).trim fun xs st hw _ => Pn.trimF_tr _ xs st hw
  have h_led_through : Has P w K mg base cls 1 "led_through" ["gate", "side", "mark", "joint"] Pc.FLedT := (tie_led_through (P := P) (w := w) (base := base) (cls := cls) (k := 0) B g_led_through ).trim fun xs st hw _ => Pn.trimF_tr _ xs st hw
  have h_closed : Has P w K mg base cls 3 "closed" ["gate", "first", "second"] (Pc.FClosed dBad dBad dBad) := (tie_closed (P := P) (w := w) (base := base) (cls := cls) (k := 2) B g_closed (h_need_side.mono (by decide)) (h_sides_of.mono (by decide)) (h_marks_of.mono (by decide)) (h_led_through.mono (by decide))).trim fun xs st hw _ => Pn.trimF_tr _ xs st hw
  have h__law_box : Has P w K mg base cls 1 "_law_box" ["_law_script", "_law_k"] (dDef 2 4 Pn.den__law_box) := tie__law_box (P := P) (w := w) (base := base) (cls := cls) (k := 0) B g__law_box 
  have h__law_take : Has P w K mg base cls 1 "_law_take" ["_law_box_here", "_law_many"] Pn.FTake := (tie__law_take (P := P) (w := w) (base := base) (cls := cls) (k := 0) B g__law_take ).trim fun xs st hw _ => Pn.trimF_tr _ xs st hw
  have h__law_any_gate : Has P w K mg base cls 2 "_law_any_gate" ["_law_box_here", "_law_sides", "_law_marks"] Pn.FAny := (tie__law_any_gate (P := P) (w := w) (base := base) (cls := cls) (k := 1) B g__law_any_gate (h__law_take.mono (by decide))).trim fun xs st hw _ => Pn.trimF_tr _ xs st hw
  have h__law_even_gate : Has P w K mg base cls 2 "_law_even_gate" ["_law_box_here", "_law_sides", "_law_marks"] Pn.FEven := (tie__law_even_gate (P := P) (w := w) (base := base) (cls := cls) (k := 1) B g__law_even_gate (h__law_take.mono (by decide))).trim fun xs st hw _ => Pn.trimF_tr _ xs st hw
  have h__law_gate : Has P w K mg base cls 3 "_law_gate" ["_law_box_here", "_law_sides", "_law_marks"] Pn.FGate := (tie__law_gate (P := P) (w := w) (base := base) (cls := cls) (k := 2) B g__law_gate (h__law_take.mono (by decide)) (h__law_even_gate.mono (by decide)) (h__law_any_gate.mono (by decide))).trim fun xs st hw _ => Pn.trimF_tr _ xs st hw
  have h__law_pairs : Has P w K mg base cls 2 "_law_pairs" ["_law_box_here", "_law_sides"] Pc.FPairs := (tie__law_pairs (P := P) (w := w) (base := base) (cls := cls) (k := 1) B g__law_pairs (h__law_take.mono (by decide))).trim fun xs st hw _ => Pn.trimF_tr _ xs st hw
  have h__law_behind : Has P w K mg base cls 1 "_law_behind" ["_law_side", "_law_pair"] Pc.FBehind := (tie__law_behind (P := P) (w := w) (base := base) (cls := cls) (k := 0) B g__law_behind ).trim fun xs st hw _ => Pn.trimF_tr _ xs st hw
  have h__law_twice : Has P w K mg base cls 4 "_law_twice" ["_law_gate_here", "_law_first", "_law_second"] (Pc.FTwice dBad dBad dBad) := (tie__law_twice (P := P) (w := w) (base := base) (cls := cls) (k := 3) B g__law_twice (h_closed.mono (by decide)) (h__law_behind.mono (by decide))).trim fun xs st hw _ => Pn.trimF_tr _ xs st hw
  have h__law_row_right : Has P w K mg base cls 4 "_law_row_right" ["_law_box_here", "_law_gate_here"] (Pc.FRowR dBad dBad) := (tie__law_row_right (P := P) (w := w) (base := base) (cls := cls) (k := 3) B g__law_row_right (h__law_take.mono (by decide)) (h_marks_of.mono (by decide)) (h_turned_gate.mono (by decide)) (h_sides_of.mono (by decide)) (h_passed.mono (by decide))).trim fun xs st hw _ => Pn.trimF_tr _ xs st hw
  exact tie_law (P := P) (w := w) (base := base) (cls := cls) (k := 4) B F (h__law_box.mono (by decide)) (h__law_gate.mono (by decide)) (h__law_take.mono (by decide)) (h__law_any_gate.mono (by decide)) (h_beside.mono (by decide)) (h__law_even_gate.mono (by decide)) (h__law_pairs.mono (by decide)) (h__law_twice.mono (by decide)) (h_look_gate.mono (by decide)) (h_closed.mono (by decide)) (h_turned_gate.mono (by decide)) (h_sides_of.mono (by decide)) (h__law_row_right.mono (by decide))
abbrev R : PySem.W.OpenRow := PySem.W.OpenLaw.row PySem.Challenge.rw_keptgates_k06_whole_closed_in_any_order
abbrev hk : PySem.W.Hook := He.hookD 4 fa fn
def ob (s : PySem.W.SharedT) : He.AlD := He.obsDG 4 fa fn (HandSHeadRun.getT s)
theorem ob_eq (s : PySem.W.SharedT) : ob s = hk.obs s.abs := He.obsDG_eq (HandSHeadRun.getT_eq s)
def loose : List PySem.Str := ["GateError", "NoGate", "NoSide", "NoMark", "is_whole", "is_pair", "has_form", "look_gate", "sides_of", "marks_of", "need_side", "need_mark", "passed", "turned_gate", "beside", "led_through", "closed", "_law_box", "_law_take", "_law_any_gate", "_law_even_gate", "_law_gate", "_law_pairs", "_law_behind", "_law_twice", "_law_row_right"]
theorem run (w : World) : HandSHeadRun.RunEq R (PySem.W.view R.prog [29]) hk ob 3000 loose w := by
  intro os
  kernel_rfl
end K06
open PySem PySem.W PySem.Calls PyProof.Rows
set_option maxRecDepth 100000 in
set_option maxHeartbeats 0 in
theorem PySem.Challenge.cw_keptgates_k06_whole_closed_in_any_order_holds : PySem.Challenge.rw_keptgates_k06_whole_closed_in_any_order.Holds := by
  w_on; o_law
  refine HandSHeadRun.head_any (r := OpenLaw.row PySem.Challenge.rw_keptgates_k06_whole_closed_in_any_order) (q := view (OpenLaw.row PySem.Challenge.rw_keptgates_k06_whole_closed_in_any_order).prog [29]) (H := K06.hk) (ob := K06.ob) (M := 3000) (loose := K06.loose) (d := HandSHeadRun.topDef (OpenLaw.row PySem.Challenge.rw_keptgates_k06_whole_closed_in_any_order).prog 29) (kwd := []) K06.ob_eq
    (by kernel_rfl) (fun s => by kernel_rfl) K06.run (by kernel_rfl) (by kernel_rfl) (by kernel_rfl) (by rfl) (by first | assumption | decide +kernel) (by decide +kernel) ⟨rfl, rfl, rfl, rfl, rfl, by decide +kernel⟩ ?hw ?hc
  case hw => w_witness2
  case hc =>
    refine Dn.walkG (l := PySem.Challenge.rw_keptgates_k06_whole_closed_in_any_order) (n := 63) (k := 5) (x := "_law_script") rfl (by decide) (by kernel_rfl) ⟨rfl, by decide, by decide⟩ ?F
    intro w mg fa h Y G hmg0
    obtain ⟨K, KX, c⟩ := Y
    have hmg : mg ("law" : PySem.Str) = some (.ref fa) := by
      have e : (HandSHeadRun.topDef (OpenLaw.row PySem.Challenge.rw_keptgates_k06_whole_closed_in_any_order).prog 29).name = ("law" : PySem.Str) := by kernel_rfl
      rw [← e]
      exact hmg0
    obtain ⟨fd, hb, hF⟩ := K06.facts (P := (PySem.Challenge.rw_keptgates_k06_whole_closed_in_any_order).prog) (w := w) KX G hmg c (fun _ => .none)
    refine ⟨K, fd, _, KX, hb, fun H a ns hl hO hS => ?_, hF⟩
    obtain ⟨st', e⟩ := Pc.law06 (ns := ns) (by omega)
    exact Dn.sF_law hO hS e
